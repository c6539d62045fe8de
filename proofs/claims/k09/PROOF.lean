import PyProof.Rows.All
import Wide.All
import OpenK.AllK
import Wide.FinOn
import KE.DataEq
import KE.DataFind
import HandS.Base
import HandS.Call
import HandS.List
import HandS.Comp
import HandS.Ends
import HandS.Dict
import HandS.Iter
import HandS.Text
import HandS.Exc
import HandS.IsInst
import HandS.TupAny
import HandS.Conv
import HandS.CallSlots
import HandS.WordsExc
import HandS.ForMost
import HandS.ExcOwn
import PySem.Challenge.RW_roundsfare_k09_windows_that_clash
set_option Elab.async false
set_option linter.all false
set_option maxRecDepth 100000
set_option autoImplicit false
set_option maxHeartbeats 4000000
/-! DL1: data that does not change, denotations of expressions and statements as plain functions. -/
namespace DL
open PySem PySem.Spec PyProof.Rows L2

/-- the longest list -/
abbrev mx : Nat := 16777216
theorem mx_line : mx = sizeLine := sizeLine_eq.symm

/-! ### heaps -/
/-- all that was tracked is as it was -/
def Gr (H H' : Hp) : Prop := ∀ b o, H b = some o → H' b = some o
theorem Gr.refl (H : Hp) : Gr H H := fun _ _ h => h
theorem Gr.trans {H H1 H2 : Hp} (a : Gr H H1) (b : Gr H1 H2) : Gr H H2 := fun c o h => b c o (a c o h)
theorem Gr.seq {K : PySem.W.Frag} {H H' : Hp} {a : Addr} {xs : List V} (e : Gr H H') (h : SqL K H a xs) : SqL K H' a xs := by
  rcases h with (h | ⟨o, h⟩) | h
  · exact .inl (.inl (e _ _ h))
  · exact .inl (.inr ⟨o, e _ _ h⟩)
  · exact .inr h
theorem same_upd {H : Hp} {p : Addr} {o : HO} (h : H p = none) : Gr H (upd H p o) := fun b x e => by
  rw [upd_ne (ne_of_none e h)]
  exact e
def hide (H : Hp) (O : List Addr) : Hp := fun a => if a ∈ O then none else H a
theorem hide_out {H : Hp} {O : List Addr} {a : Addr} (h : a ∉ O) : hide H O a = H a := if_neg h
theorem hide_in {H : Hp} {O : List Addr} {a : Addr} (h : a ∈ O) : hide H O a = none := if_pos h
theorem hide_nil (H : Hp) : hide H [] = H := by
  funext a
  exact hide_out (by simp)
theorem hide_some {H : Hp} {O : List Addr} {a : Addr} {o : HO} (h : hide H O a = some o) : a ∉ O ∧ H a = some o := by
  by_cases q : a ∈ O
  · rw [hide_in q] at h; cases h
  · rw [hide_out q] at h; exact ⟨q, h⟩
theorem hide_same {H H' : Hp} (O : List Addr) (g : Gr H H') : Gr (hide H O) (hide H' O) := fun a o h => by
  obtain ⟨q, e⟩ := hide_some h
  rw [hide_out q]
  exact g a o e
theorem hide_sub {H : Hp} {O : List Addr} : Gr (hide H O) H := fun a o h => (hide_some h).2
theorem hide_less {H : Hp} {O O' : List Addr} (s : ∀ a ∈ O', a ∈ O) : Gr (hide H O) (hide H O') := fun a o h => by
  obtain ⟨q, e⟩ := hide_some h
  rw [hide_out fun z => q (s a z)]
  exact e
theorem Gr.seqT {K : PySem.W.Frag} {H H' : Hp} {a : Addr} {xs : List V} (e : Gr H H') (h : SqT K H a xs) : SqT K H' a xs := by
  rcases h with (h | ⟨o, h⟩) | h
  · exact .inl (.inl (e _ _ h))
  · exact .inl (.inr ⟨o, e _ _ h⟩)
  · exact .inr h
theorem Gr.rd {H H' : Hp} {a : Addr} {u : HO} (e : Gr H H') (h : Rd H a u) : Rd H' a u := by
  rcases h with h | ⟨o, h⟩
  · exact .inl (e _ _ h)
  · exact .inr ⟨o, e _ _ h⟩

/-! ### results -/
/-- an exception: its class's name, its fields -/
structure Exn where
  cls : Str
  fs : List (Str × PyData)
inductive Rs (α : Type) where
  | ok (a : α)
  | ex (e : Exn)
  | bad
@[inline] def Rs.bind {α β : Type} : Rs α → (α → Rs β) → Rs β
  | .ok a, k => k a
  | .ex e, _ => .ex e
  | .bad, _ => .bad
@[simp] theorem bind_ok {α β : Type} (a : α) (k : α → Rs β) : (Rs.ok a).bind k = k a := Eq.trans rfl rfl
@[simp] theorem bind_ex {α β : Type} (e : Exn) (k : α → Rs β) : (Rs.ex e : Rs α).bind k = .ex e := Eq.trans rfl rfl
@[simp] theorem bind_bad {α β : Type} (k : α → Rs β) : (Rs.bad : Rs α).bind k = .bad := Eq.trans rfl rfl

/-! ### what a value stands for -/
def keyD : Key → PyData
  | .inl i => .int i
  | .inr x => .str x
mutual
inductive Rp (K : PySem.W.Frag) (H : Hp) : V → PyData → Prop
  | non : Rp K H .non .none
  | bl (b : Bool) : Rp K H (.bl b) (.bool b)
  | int (i : Int) : Rp K H (.int i) (.int i)
  | str (x : Str) : Rp K H (.str x) (.str x)
  | lst {a : Addr} {xs : List V} {ds : List PyData} : Rd H a (.lst xs) → xs.length ≤ mx → RpAll K H xs ds → Rp K H (.ref a) (.list ds)
  /-- the script: an object of whatever place, its ints -/
  | scr {a : Addr} {ns : List Int} : SqL K H a (ns.map V.int) → ns.length ≤ mx → Rp K H (.ref a) (.dict [(.none, .list (ns.map PyData.int))])
  | tup {a : Addr} {xs : List V} {ds : List PyData} : SqT K H a xs → xs.length ≤ mx → RpAll K H xs ds → Rp K H (.ref a) (.tuple ds)
  | dK {a : Addr} {kvs : List (Key × V)} {es : List (PyData × PyData)} : Rd H a (.dK kvs) → RpKV K H (kvs.map fun p => (keyD p.1, p.2)) es → Rp K H (.ref a) (.dict es)
  | dT {a : Addr} {kvs : List (List Key × V)} {es : List (PyData × PyData)} : Rd H a (.dT kvs) → RpKV K H (kvs.map fun p => (.tuple (p.1.map keyD), p.2)) es → Rp K H (.ref a) (.dict es)
inductive RpAll (K : PySem.W.Frag) (H : Hp) : List V → List PyData → Prop
  | nil : RpAll K H [] []
  | cons {v : V} {vs : List V} {d : PyData} {ds : List PyData} : Rp K H v d → RpAll K H vs ds → RpAll K H (v :: vs) (d :: ds)
inductive RpKV (K : PySem.W.Frag) (H : Hp) : List (PyData × V) → List (PyData × PyData) → Prop
  | nil : RpKV K H [] []
  | cons {k : PyData} {v : V} {vs : List (PyData × V)} {d : PyData} {ds : List (PyData × PyData)} : Rp K H v d → RpKV K H vs ds → RpKV K H ((k, v) :: vs) ((k, d) :: ds)
end
mutual
theorem Rp.mono {K : PySem.W.Frag} {H H' : Hp} (g : Gr H H') : ∀ {v : V} {d : PyData}, Rp K H v d → Rp K H' v d
  | _, _, .non => .non
  | _, _, .bl b => .bl b
  | _, _, .int i => .int i
  | _, _, .str x => .str x
  | _, _, .lst s l r => .lst (Gr.rd g s) l (RpAll.mono g r)
  | _, _, .scr s l => .scr (g.seq s) l
  | _, _, .tup s l r => .tup (Gr.seqT g s) l (RpAll.mono g r)
  | _, _, .dK s r => .dK (Gr.rd g s) (RpKV.mono g r)
  | _, _, .dT s r => .dT (Gr.rd g s) (RpKV.mono g r)
theorem RpAll.mono {K : PySem.W.Frag} {H H' : Hp} (g : Gr H H') : ∀ {v : List V} {d : List PyData}, RpAll K H v d → RpAll K H' v d
  | _, _, .nil => .nil
  | _, _, .cons r t => .cons (Rp.mono g r) (RpAll.mono g t)
theorem RpKV.mono {K : PySem.W.Frag} {H H' : Hp} (g : Gr H H') : ∀ {v : List (PyData × V)} {d : List (PyData × PyData)}, RpKV K H v d → RpKV K H' v d
  | _, _, .nil => .nil
  | _, _, .cons r t => .cons (Rp.mono g r) (RpKV.mono g t)
end
section
variable {K : PySem.W.Frag} {H : Hp}
theorem RpAll.length : ∀ {xs : List V} {ds : List PyData}, RpAll K H xs ds → xs.length = ds.length
  | _, _, .nil => rfl
  | _, _, .cons _ t => by rw [List.length_cons, List.length_cons, RpAll.length t]
theorem RpAll.get : ∀ {xs : List V} {ds : List PyData} {i : Nat} {d : PyData}, RpAll K H xs ds → ds[i]? = some d → ∃ x, xs[i]? = some x ∧ Rp K H x d
  | _, _, _, _, .nil, e => by simp at e
  | _, _, 0, _, .cons r _, e => by simp at e; subst e; exact ⟨_, rfl, r⟩
  | _, _, i + 1, d, .cons _ t, e => by
    obtain ⟨u, h1, h2⟩ := RpAll.get (i := i) (d := d) t (by simpa using e)
    exact ⟨u, by simpa using h1, h2⟩
theorem RpAll.getV : ∀ {xs : List V} {ds : List PyData} {i : Nat} {x : V}, RpAll K H xs ds → xs[i]? = some x → ∃ d, ds[i]? = some d ∧ Rp K H x d
  | _, _, _, _, .nil, e => by simp at e
  | _, _, 0, _, .cons r _, e => by simp at e; subst e; exact ⟨_, rfl, r⟩
  | _, _, i + 1, d, .cons _ t, e => by
    obtain ⟨u, h1, h2⟩ := RpAll.getV (i := i) (x := d) t (by simpa using e)
    exact ⟨u, by simpa using h1, h2⟩
theorem RpAll.append : ∀ {xs ys : List V} {ds es : List PyData}, RpAll K H xs ds → RpAll K H ys es → RpAll K H (xs ++ ys) (ds ++ es)
  | _, _, _, _, .nil, s => s
  | _, _, _, _, .cons r t, s => .cons r (RpAll.append t s)
theorem RpAll.take : ∀ {xs : List V} {ds : List PyData} (n : Nat), RpAll K H xs ds → RpAll K H (xs.take n) (ds.take n)
  | _, _, 0, _ => .nil
  | _, _, _ + 1, .nil => .nil
  | _, _, n + 1, .cons r t => .cons r (RpAll.take n t)
theorem RpAll.drop : ∀ {xs : List V} {ds : List PyData} (n : Nat), RpAll K H xs ds → RpAll K H (xs.drop n) (ds.drop n)
  | _, _, 0, r => r
  | _, _, _ + 1, .nil => .nil
  | _, _, n + 1, .cons _ t => RpAll.drop n t
theorem RpAll.reverse : ∀ {xs : List V} {ds : List PyData}, RpAll K H xs ds → RpAll K H xs.reverse ds.reverse
  | _, _, .nil => .nil
  | _, _, .cons r t => by
    rw [List.reverse_cons, List.reverse_cons]
    exact (RpAll.reverse t).append (.cons r .nil)
theorem RpAll.set : ∀ {xs : List V} {ds : List PyData} {x : V} {d : PyData} (i : Nat), RpAll K H xs ds → Rp K H x d → RpAll K H (xs.set i x) (ds.set i d)
  | _, _, _, _, _, .nil, _ => .nil
  | _, _, _, _, 0, .cons _ t, r => .cons r t
  | _, _, _, _, i + 1, .cons q t, r => .cons q (RpAll.set i t r)
theorem RpAll.int {xs : List V} : ∀ {ns : List Int}, RpAll K H xs (ns.map PyData.int) → xs = ns.map V.int
  | [], h => by cases h; rfl
  | n :: ns, h => by
    cases h with
    | cons r t =>
      cases r
      rw [RpAll.int t]
      rfl
theorem rpAll_ints : ∀ (ns : List Int), RpAll K H (ns.map V.int) (ns.map PyData.int)
  | [] => .nil
  | n :: ns => .cons (.int n) (rpAll_ints ns)
theorem RpAll.strs {xs : List V} : ∀ {ns : List Str}, RpAll K H xs (ns.map PyData.str) → xs = ns.map V.str
  | [], h => by cases h; rfl
  | n :: ns, h => by
    cases h with
    | cons r t =>
      cases r
      rw [RpAll.strs t]
      rfl
theorem rpAll_strs : ∀ (ns : List Str), RpAll K H (ns.map V.str) (ns.map PyData.str)
  | [] => .nil
  | n :: ns => .cons (.str n) (rpAll_strs ns)
mutual
/-- as the layer's own words for data -/
theorem Rp.dp : ∀ {d : PyData} {v : V}, d.plain = true → Rp K H v d → Dp K H v d
  | .none, _, _, h => by cases h; exact .non
  | .bool _, _, _, h => by cases h; exact .bl _
  | .int _, _, _, h => by cases h; exact .int _
  | .str _, _, _, h => by cases h; exact .str _
  | .list ds, _, p, h => by
    cases h with
    | lst s _ r => exact .lst (.inl s) (RpAll.dp (by simpa [PyData.plain] using p) r)
  | .tuple ds, _, p, h => by
    cases h with
    | tup s _ r => exact .tup s (RpAll.dp (by simpa [PyData.plain] using p) r)
  | .dict _, _, p, _ => by simp [PyData.plain] at p
theorem RpAll.dp : ∀ {ds : List PyData} {vs : List V}, PyData.plainAll ds = true → RpAll K H vs ds → DpAll K H vs ds
  | [], _, _, h => by cases h; exact .nil
  | d :: ds, _, p, h => by
    cases h with
    | cons r t =>
      have p' : d.plain = true ∧ PyData.plainAll ds = true := by simpa [PyData.plainAll] using p
      exact .cons (Rp.dp p'.1 r) (RpAll.dp p'.2 t)
end
end

/-! ### the state of a def: slots -/
/-- a slot holds data, or a list (a dict) that was made here and is held by this name alone -/
inductive SV where
  | val (d : PyData)
  | own (d : PyData)
abbrev En := List (Option SV)
def own1 : Option V → Option SV → Option Addr
  | some (.ref a), some (.own _) => some a
  | _, _ => none
def owned : L2.St → En → List Addr
  | x :: σ, y :: ρ => match own1 x y with
    | some a => a :: owned σ ρ
    | none => owned σ ρ
  | _, _ => []
/-- an object held alone: its items are of G -/
def OwnR (K : PySem.W.Frag) (G H : Hp) (a : Addr) (d : PyData) : Prop :=
  (∃ xs ds, d = .list ds ∧ H a = some (.lst xs) ∧ xs.length ≤ mx ∧ RpAll K G xs ds) ∨
  (∃ (kvs : List (Key × V)) (es : List (PyData × PyData)), d = .dict es ∧ H a = some (.dK kvs) ∧ RpKV K G (kvs.map fun p => (keyD p.1, p.2)) es) ∨
  (∃ (kvs : List (List Key × V)) (es : List (PyData × PyData)), d = .dict es ∧ H a = some (.dT kvs) ∧ RpKV K G (kvs.map fun p => (.tuple (p.1.map keyD), p.2)) es)
def SlotR (K : PySem.W.Frag) (G H : Hp) (x : Option V) (y : Option SV) : Prop := match y with
  | none => True
  | some (.val d) => ∃ v, x = some v ∧ Rp K G v d
  | some (.own d) => ∃ a, x = some (.ref a) ∧ OwnR K G H a d
inductive SlotsR (K : PySem.W.Frag) (G H : Hp) : L2.St → En → Prop
  | nil : SlotsR K G H [] []
  | cons {x : Option V} {y : Option SV} {σ : L2.St} {ρ : En} : SlotR K G H x y → SlotsR K G H σ ρ → SlotsR K G H (x :: σ) (y :: ρ)
structure SR (K : PySem.W.Frag) (O : List Addr) (H0 H : Hp) (σ : L2.St) (ρ : En) : Prop where
  same : Gr H0 H
  new : ∀ a ∈ owned σ ρ, H0 a = none
  nd : (owned σ ρ).Nodup
  old : ∀ a ∈ O, H0 a ≠ none
  slots : SlotsR K (hide H (O ++ owned σ ρ)) H σ ρ

section
variable {K : PySem.W.Frag} {G G' H H' H0 : Hp} {a : Addr} {d : PyData} {σ : L2.St} {ρ : En} {O : List Addr}
theorem OwnR.mono (g : Gr G G') (e : ∀ o, H a = some o → H' a = some o) (h : OwnR K G H a d) : OwnR K G' H' a d := by
  rcases h with ⟨xs, ds, h1, h2, h3, h4⟩ | ⟨xs, ds, h1, h2, h4⟩ | ⟨xs, ds, h1, h2, h4⟩
  · exact .inl ⟨xs, ds, h1, e _ h2, h3, h4.mono g⟩
  · exact .inr (.inl ⟨xs, ds, h1, e _ h2, h4.mono g⟩)
  · exact .inr (.inr ⟨xs, ds, h1, e _ h2, h4.mono g⟩)
theorem OwnR.there (h : OwnR K G H a d) : H a ≠ none := by
  rcases h with ⟨xs, ds, h1, h2, h3⟩ | ⟨xs, ds, h1, h2, h3⟩ | ⟨xs, ds, h1, h2, h3⟩ <;> (rw [h2]; exact fun z => by cases z)
theorem OwnR.rp (h : OwnR K G H a d) (g : Gr G H) : Rp K H (.ref a) d := by
  rcases h with ⟨xs, ds, rfl, h2, h3, h4⟩ | ⟨xs, ds, rfl, h2, h4⟩ | ⟨xs, ds, rfl, h2, h4⟩
  · exact .lst (.inl h2) h3 (h4.mono g)
  · exact .dK (.inl h2) (h4.mono g)
  · exact .dT (.inl h2) (h4.mono g)
theorem SlotsR.mono (g : Gr G G') (e : ∀ a ∈ owned σ ρ, ∀ o, H a = some o → H' a = some o) (h : SlotsR K G H σ ρ) : SlotsR K G' H' σ ρ := by
  induction h with
  | nil => exact .nil
  | @cons x y σ ρ h1 h2 ih =>
    refine .cons ?_ (ih fun a ha => e a ?_)
    · cases y with
      | none => trivial
      | some sv =>
        cases sv with
        | val d => obtain ⟨v, e1, r⟩ := h1; exact ⟨v, e1, r.mono g⟩
        | own d =>
          obtain ⟨a, e1, r⟩ := h1
          subst e1
          exact ⟨a, rfl, r.mono g (e a (by simp [owned, own1]))⟩
    · unfold owned
      split
      · exact List.mem_cons_of_mem _ ha
      · exact ha
theorem SlotsR.len (h : SlotsR K G H σ ρ) : σ.length = ρ.length := by
  induction h with
  | nil => rfl
  | cons _ _ ih => rw [List.length_cons, List.length_cons, ih]
theorem SlotsR.get (h : SlotsR K G H σ ρ) {i : Nat} {y : Option SV} (e : ρ[i]? = some y) : ∃ x, σ[i]? = some x ∧ SlotR K G H x y := by
  induction h generalizing i with
  | nil => simp at e
  | cons h1 h2 ih =>
    cases i with
    | zero =>
      simp at e
      subst e
      exact ⟨_, rfl, h1⟩
    | succ i =>
      obtain ⟨x, e1, r⟩ := ih (i := i) (by simpa using e)
      exact ⟨x, by simpa using e1, r⟩
theorem SlotsR.owned_there (h : SlotsR K G H σ ρ) : ∀ a ∈ owned σ ρ, H a ≠ none := by
  induction h with
  | nil => intro a ha; simp [owned] at ha
  | @cons x y σ ρ h1 h2 ih =>
    intro a ha
    unfold owned at ha
    split at ha
    · rename_i b hb
      rcases List.mem_cons.mp ha with q | q
      · subst q
        unfold own1 at hb
        split at hb
        · cases hb
          obtain ⟨a', e1, r⟩ := h1
          cases e1
          exact r.there
        · cases hb
      · exact ih a q
    · exact ih a ha
theorem SR.there (s : SR K O H0 H σ ρ) : ∀ a ∈ O ++ owned σ ρ, H a ≠ none := fun a ha => by
  rcases List.mem_append.mp ha with h | h
  · intro z
    cases e : H0 a with
    | none => exact s.old a h e
    | some o =>
      rw [s.same a o e] at z
      cases z
  · exact s.slots.owned_there a h
theorem SR.grow (s : SR K O H0 H σ ρ) (g : Gr H H') : SR K O H0 H' σ ρ :=
  ⟨s.same.trans g, s.new, s.nd, s.old, s.slots.mono (hide_same _ g) fun a _ o e => g a o e⟩
theorem SR.fresh (s : SR K O H0 H σ ρ) {p : Addr} (h : H p = none) : p ∉ O ++ owned σ ρ := fun z => s.there p z h
/-- the heap that stands still -/
theorem SR.rebase (s : SR K O H0 H σ ρ) : SR K O (hide H (owned σ ρ)) H σ ρ :=
  ⟨hide_sub, fun a h => hide_in h, s.nd, fun a h => by
    have n : a ∉ owned σ ρ := fun z => s.old a h (s.new a z)
    rw [hide_out n]
    exact s.there a (List.mem_append_left _ h), s.slots⟩
theorem SR.base_sub (s : SR K O H0 H σ ρ) : Gr H0 (hide H (owned σ ρ)) := fun a o e => by
  have n : a ∉ owned σ ρ := fun z => by rw [s.new a z] at e; cases e
  rw [hide_out n]
  exact s.same a o e
theorem SR.weak {H1 : Hp} (s : SR K O H1 H σ ρ) (g : Gr H0 H1) (old : ∀ a ∈ O, H0 a ≠ none) : SR K O H0 H σ ρ := by
  refine ⟨g.trans s.same, fun a h => ?_, s.nd, old, s.slots⟩
  cases e : H0 a with
  | none => rfl
  | some o =>
    have q := g a o e
    rw [s.new a h] at q
    cases q
end
end DL

namespace DL
open PySem PySem.Spec PyProof.Rows L2

/-! ### expressions -/
inductive RpFs (K : PySem.W.Frag) (G : Hp) : List (Str × V) → List (Str × PyData) → Prop
  | nil : RpFs K G [] []
  | cons {f : Str} {v : V} {d : PyData} {vs : List (Str × V)} {ds : List (Str × PyData)} : Rp K G v d → RpFs K G vs ds → RpFs K G ((f, v) :: vs) ((f, d) :: ds)
theorem RpFs.mono {K : PySem.W.Frag} {H H' : Hp} (g : Gr H H') {v : List (Str × V)} {d : List (Str × PyData)} (h : RpFs K H v d) : RpFs K H' v d := by
  induction h with
  | nil => exact .nil
  | cons r _ ih => exact .cons (r.mono g) ih
/-- an exception stands for e -/
def ExR (K : PySem.W.Frag) (mg : Str → Option Value) (G : Hp) (c : Value) (dd : Option Addr) (e : Exn) : Prop :=
  ∃ C d fs, c = .ref C ∧ mg e.cls = some (.ref C) ∧ dd = some d ∧ G d = some (.xd fs) ∧ RpFs K G fs e.fs
theorem ExR.mono {K : PySem.W.Frag} {mg : Str → Option Value} {H H' : Hp} {c : Value} {dd : Option Addr} {e : Exn} (g : Gr H H') (h : ExR K mg H c dd e) : ExR K mg H' c dd e := by
  obtain ⟨C, d, fs, h1, h2, h3, h4, h5⟩ := h
  exact ⟨C, d, fs, h1, h2, h3, g _ _ h4, h5.mono g⟩
/-- data, or an object of this def's own -/
def RpB (K : PySem.W.Frag) (O : List Addr) (H : Hp) (v : V) (d : PyData) : Prop := Rp K (hide H O) v d ∨ ∃ a, v = .ref a ∧ OwnR K (hide H O) H a d
def RK (K : PySem.W.Frag) (mg : Str → Option Value) (W : WX) (O : List Addr) (σ : L2.St) (H : Hp) (Q : VK) : Rs PyData → Prop
  | .ok d => ∀ H' v, Gr H H' → Rp K (hide H' O) v d → Q v H'
  | .ex e => ∀ H' c dd, Gr H H' → ExR K mg (hide H' O) c dd e → W c dd σ H'
  | .bad => False
def RKB (K : PySem.W.Frag) (mg : Str → Option Value) (W : WX) (O : List Addr) (σ : L2.St) (H : Hp) (Q : VK) : Rs PyData → Prop
  | .ok d => ∀ H' v, Gr H H' → RpB K O H' v d → Q v H'
  | .ex e => ∀ H' c dd, Gr H H' → ExR K mg (hide H' O) c dd e → W c dd σ H'
  | .bad => False
/-- the same for any kind of result, R telling what stands for it -/
def RKT {α : Type} (K : PySem.W.Frag) (mg : Str → Option Value) (W : WX) (O : List Addr) (σ : L2.St) (H : Hp) (Q : α → Hp → Prop) : Rs α → Prop
  | .ok d => ∀ H', Gr H H' → Q d H'
  | .ex e => ∀ H' c dd, Gr H H' → ExR K mg (hide H' O) c dd e → W c dd σ H'
  | .bad => False
def tD (K : PySem.W.Frag) (mg : Str → Option Value) (W : WX) (f : En → Rs PyData) : TE := fun σ H Q => ∃ ρ O H0, SR K O H0 H σ ρ ∧ RK K mg W (O ++ owned σ ρ) σ H Q (f ρ)
def tB' (K : PySem.W.Frag) (mg : Str → Option Value) (W : WX) (f : En → Rs PyData) : TE := fun σ H Q => ∃ ρ O H0, SR K O H0 H σ ρ ∧ RKB K mg W (O ++ owned σ ρ) σ H Q (f ρ)
/-- a test -/
def tT (K : PySem.W.Frag) (mg : Str → Option Value) (W : WX) (f : En → Rs Bool) : TT := fun σ H Q => ∃ ρ O H0, SR K O H0 H σ ρ ∧ RKT K mg W (O ++ owned σ ρ) σ H Q (f ρ)
/-- e denotes f; in DE the result is data, in BE it may be an object of the def's own -/
abbrev DE (X : Cx) (W : WX) (e : Expr) (f : En → Rs PyData) : Prop := PE X e (tD X.K X.mg W f)
abbrev BE (X : Cx) (W : WX) (e : Expr) (f : En → Rs PyData) : Prop := PE X e (tB' X.K X.mg W f)
abbrev DT (X : Cx) (W : WX) (e : Expr) (f : En → Rs Bool) : Prop := PT X e (tT X.K X.mg W f)

section
variable {K : PySem.W.Frag} {mg : Str → Option Value} {W : WX} {O : List Addr} {σ : L2.St} {H H1 : Hp} {Q Q' : VK}
theorem RK.grow {r : Rs PyData} (g : Gr H H1) (h : RK K mg W O σ H Q r) : RK K mg W O σ H1 Q r := by
  cases r with
  | ok d => exact fun H' v g' => h H' v (g.trans g')
  | ex e => exact fun H' c dd g' => h H' c dd (g.trans g')
  | bad => exact h
theorem RKB.grow {r : Rs PyData} (g : Gr H H1) (h : RKB K mg W O σ H Q r) : RKB K mg W O σ H1 Q r := by
  cases r with
  | ok d => exact fun H' v g' => h H' v (g.trans g')
  | ex e => exact fun H' c dd g' => h H' c dd (g.trans g')
  | bad => exact h
theorem RKT.grow {α : Type} {r : Rs α} {Q : α → Hp → Prop} (g : Gr H H1) (h : RKT K mg W O σ H Q r) : RKT K mg W O σ H1 Q r := by
  cases r with
  | ok d => exact fun H' g' => h H' (g.trans g')
  | ex e => exact fun H' c dd g' => h H' c dd (g.trans g')
  | bad => exact h
theorem RKB.toRK {r : Rs PyData} (h : RKB K mg W O σ H Q r) : RK K mg W O σ H Q r := by
  cases r with
  | ok d => exact fun H' v g rp => h H' v g (.inl rp)
  | ex e => exact h
  | bad => exact h
/-- at once: the result stands here -/
theorem RK.here {v : V} {d : PyData} (h : RK K mg W O σ H Q (.ok d)) (r : Rp K (hide H O) v d) : Q v H := h H v (Gr.refl H) r
theorem RK.new {p : Addr} {o : HO} {d : PyData} (h : RK K mg W O σ H Q (.ok d)) (hp : H p = none) (r : Rp K (hide (upd H p o) O) (.ref p) d) : Q (.ref p) (upd H p o) := h _ _ (same_upd hp) r
/-- a part is run, then the rest -/
theorem RKB.of {r : Rs PyData} {k : PyData → Rs PyData} (h : RK K mg W O σ H Q (r.bind k)) (hk : ∀ d H1 v, Gr H H1 → RpB K O H1 v d → RK K mg W O σ H1 Q (k d) → Q' v H1) : RKB K mg W O σ H Q' r := by
  cases r with
  | ok d => exact fun H' v g rp => hk d H' v g rp (RK.grow g h)
  | ex e => exact h
  | bad => exact h
theorem RK.of {r : Rs PyData} {k : PyData → Rs PyData} (h : RK K mg W O σ H Q (r.bind k)) (hk : ∀ d H1 v, Gr H H1 → Rp K (hide H1 O) v d → RK K mg W O σ H1 Q (k d) → Q' v H1) : RK K mg W O σ H Q' r := by
  cases r with
  | ok d => exact fun H' v g rp => hk d H' v g rp (RK.grow g h)
  | ex e => exact h
  | bad => exact h
theorem RKT.of {α : Type} {r : Rs α} {Q' : α → Hp → Prop} {k : α → Rs PyData} (h : RK K mg W O σ H Q (r.bind k)) (hk : ∀ d H1, Gr H H1 → RK K mg W O σ H1 Q (k d) → Q' d H1) : RKT K mg W O σ H Q' r := by
  cases r with
  | ok d => exact fun H' g => hk d H' g (RK.grow g h)
  | ex e => exact h
  | bad => exact h
theorem RKB.ofT {α : Type} {r : Rs PyData} {Q : α → Hp → Prop} {k : PyData → Rs α} (h : RKT K mg W O σ H Q (r.bind k)) (hk : ∀ d H1 v, Gr H H1 → RpB K O H1 v d → RKT K mg W O σ H1 Q (k d) → Q' v H1) : RKB K mg W O σ H Q' r := by
  cases r with
  | ok d => exact fun H' v g rp => hk d H' v g rp (RKT.grow g h)
  | ex e => exact h
  | bad => exact h
theorem RKT.ofT {α β : Type} {r : Rs α} {Q : β → Hp → Prop} {Q' : α → Hp → Prop} {k : α → Rs β} (h : RKT K mg W O σ H Q (r.bind k)) (hk : ∀ d H1, Gr H H1 → RKT K mg W O σ H1 Q (k d) → Q' d H1) : RKT K mg W O σ H Q' r := by
  cases r with
  | ok d => exact fun H' g => hk d H' g (RKT.grow g h)
  | ex e => exact h
  | bad => exact h
/-- what is borrowed, where nothing is hidden -/
theorem RpB.rp {v : V} {d : PyData} (h : RpB K O H v d) : Rp K H v d := by
  rcases h with h | ⟨a, rfl, h⟩
  · exact h.mono hide_sub
  · exact h.rp hide_sub
theorem RpB.grow {v : V} {d : PyData} (g : Gr H H1) (h : RpB K O H v d) : RpB K O H1 v d := by
  rcases h with h | ⟨a, rfl, h⟩
  · exact .inl (h.mono (hide_same _ g))
  · exact .inr ⟨a, rfl, h.mono (hide_same _ g) fun o e => g a o e⟩
/-- a list that is read -/
theorem RpB.list {v : V} {ds : List PyData} (h : RpB K O H v (.list ds)) : ∃ a xs, v = .ref a ∧ Rd H a (.lst xs) ∧ xs.length ≤ mx ∧ RpAll K (hide H O) xs ds := by
  rcases h with h | ⟨a, rfl, ⟨xs, es, e, h1, h2, h3⟩ | ⟨_, _, e, _⟩ | ⟨_, _, e, _⟩⟩
  · cases h with
    | lst s l r => exact ⟨_, _, rfl, Gr.rd hide_sub s, l, r⟩
  · cases e
    exact ⟨a, xs, rfl, .inl h1, h2, h3⟩
  · cases e
  · cases e
theorem RpB.tuple {v : V} {ds : List PyData} (h : RpB K O H v (.tuple ds)) : ∃ a xs, v = .ref a ∧ SqT K H a xs ∧ xs.length ≤ mx ∧ RpAll K (hide H O) xs ds := by
  rcases h with h | ⟨a, rfl, ⟨xs, es, e, h1, h2, h3⟩ | ⟨_, _, e, _⟩ | ⟨_, _, e, _⟩⟩
  · cases h with
    | tup s l r => exact ⟨_, _, rfl, Gr.seqT hide_sub s, l, r⟩
  · cases e
  · cases e
  · cases e
theorem RpB.scr {v : V} {ns : List PyData} (h : RpB K O H v (.dict [(.none, .list ns)])) : ∃ (a : Addr) (is : List Int), v = .ref a ∧ ns = is.map PyData.int ∧ SqL K H a (is.map V.int) ∧ is.length ≤ mx := by
  rcases h with h | ⟨a, rfl, ⟨xs, es, e, h1, h2, h3⟩ | ⟨kvs, _, e, _, h⟩ | ⟨kvs, _, e, _, h⟩⟩
  · cases h with
    | scr s l => exact ⟨_, _, rfl, rfl, hide_sub.seq s, l⟩
    | @dK a kvs _ s r =>
      cases kvs with
      | nil => cases r
      | cons p kvs =>
        obtain ⟨k, v⟩ := p
        cases k <;> cases r
    | @dT a kvs _ s r =>
      cases kvs with
      | nil => cases r
      | cons p kvs => cases r
  · cases e
  · cases e
    cases kvs with
    | nil => cases h
    | cons p kvs =>
      obtain ⟨k, v⟩ := p
      cases k <;> cases h
  · cases e
    cases kvs with
    | nil => cases h
    | cons p kvs => cases h
theorem RpB.int {v : V} {i : Int} (h : RpB K O H v (.int i)) : v = .int i := by
  rcases h with h | ⟨a, rfl, ⟨xs, es, e, _⟩ | ⟨_, _, e, _⟩ | ⟨_, _, e, _⟩⟩
  · cases h; rfl
  all_goals cases e
theorem RpB.str {v : V} {i : Str} (h : RpB K O H v (.str i)) : v = .str i := by
  rcases h with h | ⟨a, rfl, ⟨xs, es, e, _⟩ | ⟨_, _, e, _⟩ | ⟨_, _, e, _⟩⟩
  · cases h; rfl
  all_goals cases e
theorem RpB.bool {v : V} {i : Bool} (h : RpB K O H v (.bool i)) : v = .bl i := by
  rcases h with h | ⟨a, rfl, ⟨xs, es, e, _⟩ | ⟨_, _, e, _⟩ | ⟨_, _, e, _⟩⟩
  · cases h; rfl
  all_goals cases e
theorem RpB.none {v : V} (h : RpB K O H v .none) : v = .non := by
  rcases h with h | ⟨a, rfl, ⟨xs, es, e, _⟩ | ⟨_, _, e, _⟩ | ⟨_, _, e, _⟩⟩
  · cases h; rfl
  all_goals cases e
end

theorem PE.imp {X : Cx} {e : Expr} {t t' : TE} (h : PE X e t) (i : ∀ σ H Q, t' σ H Q → t σ H Q) : PE X e t' := ⟨fun pins s σ H Q I q => h.run pins s σ H Q I (i σ H Q q)⟩
theorem PT.imp {X : Cx} {e : Expr} {t t' : TT} (h : PT X e t) (i : ∀ σ H Q, t' σ H Q → t σ H Q) : PT X e t' := ⟨fun pins s σ H Q I q => h.run pins s σ H Q I (i σ H Q q)⟩

/-! ### operations on data -/
def mulOk (i j : Int) : Bool := (decide (-18446744073709551616 < i) && decide (i < 18446744073709551616)) || (decide (-18446744073709551616 < j) && decide (j < 18446744073709551616))
def oAdd : PyData → PyData → Rs PyData
  | .int i, .int j => .ok (.int (i + j))
  | .str i, .str j => if i.length + j.length ≤ mx then .ok (.str (i ++ j)) else .bad
  | .tuple i, .tuple j => if i.length + j.length ≤ mx then .ok (.tuple (i ++ j)) else .bad
  | .list i, .list j => if i.length + j.length ≤ mx then .ok (.list (i ++ j)) else .bad
  | _, _ => .bad
def oSub : PyData → PyData → Rs PyData
  | .int i, .int j => .ok (.int (i - j))
  | _, _ => .bad
def oMul : PyData → PyData → Rs PyData
  | .int i, .int j => if mulOk i j then .ok (.int (i * j)) else .bad
  | .list i, .int k => if decide (-4611686018427387904 ≤ k) && decide (k < 4611686018427387904) && decide (i.length * k.toNat ≤ mx) then .ok (.list (List.replicate k.toNat i).flatten) else .bad
  | _, _ => .bad
def oMod : PyData → PyData → Rs PyData
  | .int i, .int j => if 0 < j then .ok (.int (i % j)) else .bad
  | _, _ => .bad
def oDiv : PyData → PyData → Rs PyData
  | .int i, .int j => if 0 < j ∧ j < 1073741824 then .ok (.int (i / j)) else .bad
  | _, _ => .bad
def oPow : PyData → PyData → Rs PyData
  | .int i, .int j => if decide (0 ≤ j) && decide (j ≤ 1000000) && decide (i.natAbs < 18446744073709551616) then .ok (.int (i ^ j.toNat)) else .bad
  | _, _ => .bad
/-- data that may be compared -/
def cmpOk (d e : PyData) : Bool := d.plain && e.plain && decide (min d.depth e.depth ≤ 64)
def oEq (d e : PyData) : Rs PyData := if cmpOk d e then .ok (.bool (PyData.eqv d e)) else .bad
def oNe (d e : PyData) : Rs PyData := if cmpOk d e then .ok (.bool (!PyData.eqv d e)) else .bad
def oLt : PyData → PyData → Rs PyData
  | .int i, .int j => .ok (.bool (decide (i < j)))
  | _, _ => .bad
def oLe : PyData → PyData → Rs PyData
  | .int i, .int j => .ok (.bool (decide (i ≤ j)))
  | _, _ => .bad
def oGt : PyData → PyData → Rs PyData
  | .int i, .int j => .ok (.bool (decide (j < i)))
  | _, _ => .bad
def oGe : PyData → PyData → Rs PyData
  | .int i, .int j => .ok (.bool (decide (j ≤ i)))
  | _, _ => .bad
def oIsN : PyData → Rs PyData
  | .none => .ok (.bool true)
  | _ => .ok (.bool false)
def oNotN : PyData → Rs PyData
  | .none => .ok (.bool false)
  | _ => .ok (.bool true)
def oIx : PyData → PyData → Rs PyData
  | .list xs, .int i => match atI xs i with | some d => .ok d | none => .bad
  | .tuple xs, .int i => match atI xs i with | some d => .ok d | none => .bad
  | .dict [(.none, .list xs)], .int i => match atI xs i with | some d => .ok d | none => .bad
  | .str z, .int i => if z.length ≤ mx then (match atI z.cps.toList i with | some c => .ok (.str ⟨#[c]⟩) | none => .bad) else .bad
  | _, _ => .bad
def oLen : PyData → Rs PyData
  | .list xs => .ok (.int xs.length)
  | .tuple xs => .ok (.int xs.length)
  | .str z => if z.length ≤ mx then .ok (.int z.length) else .bad
  | .dict [(.none, .list xs)] => .ok (.int xs.length)
  | _ => .bad
def oInt : PyData → Rs PyData
  | .int i => .ok (.int i)
  | .bool b => .ok (.int (if b then 1 else 0))
  | _ => .bad
def oStr : PyData → Rs PyData
  | .int i => if i.natAbs.log2 < 1920 then .ok (.str (toString i)) else .bad
  | _ => .bad
def oTuple : PyData → Rs PyData
  | .list xs => .ok (.tuple xs)
  | .tuple xs => .ok (.tuple xs)
  | _ => .bad
def oList : PyData → Rs PyData
  | .list xs => .ok (.list xs)
  | .tuple xs => .ok (.list xs)
  | _ => .bad
def oMin2 : PyData → PyData → Rs PyData
  | .int i, .int j => .ok (.int (if j < i then j else i))
  | _, _ => .bad
def oMax2 : PyData → PyData → Rs PyData
  | .int i, .int j => .ok (.int (if j > i then j else i))
  | _, _ => .bad
/-- the truth of what is tested -/
def oTru : PyData → Rs Bool
  | .bool b => .ok b
  | _ => .bad

/-! ### rules: names, constants -/
section
variable {X : Cx} {W : WX} {a b c : Expr} {fa fb fc : En → Rs PyData} {pos : Pos}
theorem DE.be (h : DE X W a fa) : BE X W a fa := PE.imp h fun σ H Q ⟨ρ, O, H0, s, r⟩ => ⟨ρ, O, H0, s, r.toRK⟩
def dVar (i : Nat) : En → Rs PyData := fun ρ => match ρ[i]? with
  | some (some (.val d)) => .ok d
  | _ => .bad
def bVar (i : Nat) : En → Rs PyData := fun ρ => match ρ[i]? with
  | some (some (.val d)) => .ok d
  | some (some (.own d)) => .ok d
  | _ => .bad
theorem de_var (i : Nat) {x : Str} (hN : X.N[i]? = some x := by rfl) (hv : Vis X.env.scope x := by first | exact Or.inl rfl | exact Or.inr (Or.inl rfl) | exact Or.inr (Or.inr rfl)) (hd : (x == ("__debug__" : Str)) = false := by decide)
    (hcd : (x == ("__classdict__" : Str)) = false := by decide) : DE X W (.Name x pos) (dVar i) :=
  PE.imp (pe_var hN hv hd hcd) fun σ H Q ⟨ρ, O, H0, s, r⟩ => by
    unfold dVar at r
    split at r
    · rename_i d e
      obtain ⟨x, e1, v, e2, rp⟩ := s.slots.get e
      subst e2
      exact ⟨v, e1, r.here rp⟩
    · exact r.elim
theorem be_var (i : Nat) {x : Str} (hN : X.N[i]? = some x := by rfl) (hv : Vis X.env.scope x := by first | exact Or.inl rfl | exact Or.inr (Or.inl rfl) | exact Or.inr (Or.inr rfl)) (hd : (x == ("__debug__" : Str)) = false := by decide)
    (hcd : (x == ("__classdict__" : Str)) = false := by decide) : BE X W (.Name x pos) (bVar i) :=
  PE.imp (pe_var hN hv hd hcd) fun σ H Q ⟨ρ, O, H0, s, r⟩ => by
    unfold bVar at r
    split at r
    · rename_i d e
      obtain ⟨x, e1, v, e2, rp⟩ := s.slots.get e
      subst e2
      exact ⟨v, e1, r H v (Gr.refl H) (.inl rp)⟩
    · rename_i d e
      obtain ⟨x, e1, a, e2, rp⟩ := s.slots.get e
      subst e2
      exact ⟨.ref a, e1, r H (.ref a) (Gr.refl H) (.inr ⟨a, rfl, rp⟩)⟩
    · exact r.elim
def dC (d : PyData) : En → Rs PyData := fun _ => .ok d
theorem de_int {i : Int} {j : Nat} : DE X W (.Constant (.int i) j pos) (dC (.int i)) := PE.imp pe_int fun σ H Q ⟨ρ, O, H0, s, r⟩ => RK.here r (.int i)
theorem de_bl {i : Bool} {j : Nat} : DE X W (.Constant (.bool i) j pos) (dC (.bool i)) := PE.imp pe_bl fun σ H Q ⟨ρ, O, H0, s, r⟩ => RK.here r (.bl i)
theorem de_non {j : Nat} : DE X W (.Constant .none j pos) (dC .none) := PE.imp pe_non fun σ H Q ⟨ρ, O, H0, s, r⟩ => RK.here r .non
theorem de_str {i : Str} {j : Nat} : DE X W (.Constant (.str i) j pos) (dC (.str i)) := PE.imp pe_str fun σ H Q ⟨ρ, O, H0, s, r⟩ => RK.here r (.str i)
/-- a module's constant: an int, a text -/
theorem de_globI {x : Str} {i : Int} {t : Tok} (hg : Gl X x) (hm : X.mg x = some (.int i t)) (hd : (x == ("__debug__" : Str)) = false := by decide) : DE X W (.Name x pos) (dC (.int i)) :=
  PE.imp (pe_glob (v := .int i) hg hm ⟨t, rfl⟩ hd) fun σ H Q ⟨ρ, O, H0, s, r⟩ => RK.here r (.int i)
theorem de_globS {x : Str} {i : Str} {t : Tok} (hg : Gl X x) (hm : X.mg x = some (.str i t)) (hd : (x == ("__debug__" : Str)) = false := by decide) : DE X W (.Name x pos) (dC (.str i)) :=
  PE.imp (pe_glob (v := .str i) hg hm ⟨t, rfl⟩ hd) fun σ H Q ⟨ρ, O, H0, s, r⟩ => RK.here r (.str i)

/-! ### operators -/
def b1 (op : PyData → Rs PyData) (fa : En → Rs PyData) : En → Rs PyData := fun ρ => (fa ρ).bind op
def b2 (op : PyData → PyData → Rs PyData) (fa fb : En → Rs PyData) : En → Rs PyData := fun ρ => (fa ρ).bind fun d => (fb ρ).bind fun e => op d e
/-- an operation by values keeps to op -/
def Ok2 (X : Cx) (r : R2) (op : PyData → PyData → Rs PyData) : Prop := ∀ (W : WX) (O : List Addr) (σ : L2.St) (H : Hp) (Q : VK) (x y : V) (d e : PyData), (∀ a ∈ O, H a ≠ none) → RpB X.K O H x d → RpB X.K O H y e → RK X.K X.mg W O σ H Q (op d e) → r x y H Q
theorem go2 {r : R2} {op : PyData → PyData → Rs PyData} (h : Ok2 X r op) {σ : L2.St} {H : Hp} {Q : VK} (q : tD X.K X.mg W (b2 op fa fb) σ H Q) : tOp r (tB' X.K X.mg W fa) (tB' X.K X.mg W fb) σ H Q := by
  obtain ⟨ρ, O, H0, s, q⟩ := q
  refine ⟨ρ, O, H0, s, RKB.of q fun d H1 v g1 r1 q1 => ⟨ρ, O, H0, s.grow g1, RKB.of q1 fun e H2 u g2 r2 q2 => ?_⟩⟩
  exact h W _ σ H2 Q v u d e ((s.grow g1).grow g2).there (r1.grow g2) r2 q2
theorem de_op {op : Operator} {r : R2} {o : PyData → PyData → Rs PyData} (hr : OpR X (binaryOp op) r) (h : Ok2 X r o) (ha : BE X W a fa) (hb : BE X W b fb) : DE X W (.BinOp a op b pos) (b2 o fa fb) :=
  PE.imp (pe_op hr ha hb) fun _ _ _ q => go2 h q
theorem de_cmp {op : CmpOp} {r : R2} {o : PyData → PyData → Rs PyData} (hr : OpR X (compareOp op) r) (h : Ok2 X r o) (ha : BE X W a fa) (hb : BE X W b fb) (hm : behindInMarks op b = false) : DE X W (.Compare a [op] [b] pos) (b2 o fa fb) :=
  PE.imp (pe_cmpR hr ha hb hm) fun _ _ _ q => go2 h q
/-- a value as a test -/
def tst (f : En → Rs PyData) : En → Rs Bool := fun ρ => (f ρ).bind oTru
theorem tst_ok {f : En → Rs PyData} {σ : L2.St} {H : Hp} {Q : Bool → Hp → Prop} (q : tT X.K X.mg W (tst f) σ H Q) : tD X.K X.mg W f σ H fun x H' => ∃ k, x = .bl k ∧ Q k H' := by
  obtain ⟨ρ, O, H0, s, q⟩ := q
  refine ⟨ρ, O, H0, s, ?_⟩
  unfold tst at q
  cases e : f ρ with
  | ok d =>
    rw [e] at q
    intro H' v g rp
    cases d with
    | bool b =>
      cases rp
      exact ⟨b, rfl, q H' g⟩
    | _ => exact q.elim
  | ex x => rw [e] at q; exact q
  | bad => rw [e] at q; exact q
theorem dt_cmp {op : CmpOp} {r : R2} {o : PyData → PyData → Rs PyData} (hr : OpR X (compareOp op) r) (h : Ok2 X r o) (ha : BE X W a fa) (hb : BE X W b fb) (hm : behindInMarks op b = false) : DT X W (.Compare a [op] [b] pos) (tst (b2 o fa fb)) :=
  PT.imp (pt_cmpR hr ha hb hm) fun _ _ _ q => go2 h (tst_ok q)
theorem dt_val {f : En → Rs PyData} (h : DE X W a f) (he : ∀ whole, isTrue a X.env whole = (do let v ← whole; standAt a.pos; holding [v] (truthy v)) := by intro _; rfl) : DT X W a (tst f) :=
  PT.imp (pt_val h he) fun _ _ _ q => tst_ok q

/-! ### and, or, not; a if t else b -/
def tAndD (f g : En → Rs Bool) : En → Rs Bool := fun ρ => (f ρ).bind fun c => if c then g ρ else .ok false
def tOrD (f g : En → Rs Bool) : En → Rs Bool := fun ρ => (f ρ).bind fun c => if c then .ok true else g ρ
def tNotD (f : En → Rs Bool) : En → Rs Bool := fun ρ => (f ρ).bind fun c => .ok (!c)
abbrev DW (X : Cx) (W : WX) (e : Expr) (f : En → Rs Bool) : Prop := PW X e (tT X.K X.mg W f)
theorem PW.imp {X : Cx} {e : Expr} {t t' : TT} (h : PW X e t) (i : ∀ σ H Q, t' σ H Q → t σ H Q) : PW X e t' := ⟨fun wh pins s σ H Q I q => h.run wh pins s σ H Q I (i σ H Q q)⟩
variable {ga gb : En → Rs Bool} {rest : List Expr}
theorem dw_and1 (ha : DT X W a ga) : DW X W (.BoolOp .And [a] pos) ga := pw_and1 ha
theorem dw_or1 (ha : DT X W a ga) : DW X W (.BoolOp .Or [a] pos) ga := pw_or1 ha
theorem dw_and (ha : DT X W a ga) (hb : DW X W (.BoolOp .And (b :: rest) pos) gb) : DW X W (.BoolOp .And (a :: b :: rest) pos) (tAndD ga gb) :=
  PW.imp (pw_and ha hb) fun σ H Q ⟨ρ, O, H0, s, q⟩ => ⟨ρ, O, H0, s, RKT.ofT q fun c H1 g q1 => by
    cases c with
    | true => exact ⟨ρ, O, H0, s.grow g, q1⟩
    | false => exact q1 H1 (Gr.refl _)⟩
theorem dw_or (ha : DT X W a ga) (hb : DW X W (.BoolOp .Or (b :: rest) pos) gb) : DW X W (.BoolOp .Or (a :: b :: rest) pos) (tOrD ga gb) :=
  PW.imp (pw_or ha hb) fun σ H Q ⟨ρ, O, H0, s, q⟩ => ⟨ρ, O, H0, s, RKT.ofT q fun c H1 g q1 => by
    cases c with
    | true => exact q1 H1 (Gr.refl _)
    | false => exact ⟨ρ, O, H0, s.grow g, q1⟩⟩
theorem dt_w {e : Expr} (h : DW X W e ga) : DT X W e ga := h.pt
theorem dt_not (ha : DT X W a ga) : DT X W (.UnaryOp .Not a pos) (tNotD ga) :=
  PT.imp (pt_not ha) fun σ H Q ⟨ρ, O, H0, s, q⟩ => ⟨ρ, O, H0, s, RKT.ofT q fun c H1 g q1 => q1 H1 (Gr.refl _)⟩
end
end DL

namespace DL
open PySem PySem.Spec PyProof.Rows L2

section
variable {K : PySem.W.Frag} {mg : Str → Option Value} {W : WX} {O : List Addr} {σ : L2.St} {H : Hp} {Q : VK}
theorem RpAll.nil_iff {xs : List V} {ds : List PyData} (h : RpAll K H xs ds) : xs = [] ↔ ds = [] := by
  have e := h.length
  constructor
  · intro z
    rw [z] at e
    exact List.length_eq_zero_iff.mp e.symm
  · intro z
    rw [z] at e
    exact List.length_eq_zero_iff.mp e
theorem RpAll.rangeV (lo : Int) : ∀ n : Nat, RpAll K H ((List.range n).map fun i => V.int (lo + (i : Nat))) ((List.range n).map fun i => PyData.int (lo + (i : Nat)))
  | 0 => .nil
  | n + 1 => by
    rw [List.range_succ, List.map_append, List.map_append]
    exact (RpAll.rangeV lo n).append (.cons (.int _) .nil)
theorem RpB.tupleRp {v : V} {ds : List PyData} (h : RpB K O H v (.tuple ds)) : Rp K (hide H O) v (.tuple ds) := by
  rcases h with h | ⟨a, rfl, ⟨xs, es, e, _⟩ | ⟨_, _, e, _⟩ | ⟨_, _, e, _⟩⟩
  · exact h
  all_goals cases e
theorem RK.newT {ds : List PyData} {xs : List V} {p : Addr} (h : RK K mg W O σ H Q (.ok (.tuple ds))) (th : ∀ a ∈ O, H a ≠ none) (hp : H p = none) (hl : xs.length ≤ mx) (r : RpAll K (hide H O) xs ds) : Q (.ref p) (upd H p (.tup xs)) := by
  have np : p ∉ O := fun z => th p z hp
  refine h.new hp (.tup (.inl (.inl ?_)) hl (r.mono (hide_same _ (same_upd hp))))
  rw [hide_out np, upd_same]
theorem RK.newL {ds : List PyData} {xs : List V} {p : Addr} (h : RK K mg W O σ H Q (.ok (.list ds))) (th : ∀ a ∈ O, H a ≠ none) (hp : H p = none) (hl : xs.length ≤ mx) (r : RpAll K (hide H O) xs ds) : Q (.ref p) (upd H p (.lst xs)) := by
  have np : p ∉ O := fun z => th p z hp
  refine h.new hp (.lst (.inl ?_) hl (r.mono (hide_same _ (same_upd hp))))
  rw [hide_out np, upd_same]
end

section
variable {X : Cx} {W : WX} {a b c : Expr} {fa fb fc : En → Rs PyData} {pos : Pos}
/-! ### + - * % // ** -/
/-- lists that may be locked -/
def rCatR : R2 := fun x y H Q => ∃ l b xs zs, x = .ref l ∧ y = .ref b ∧ Rd H l (.lst xs) ∧ Rd H b (.lst zs) ∧ xs.length + zs.length ≤ sizeLine ∧ ∀ p, H p = none → Q (.ref p) (upd H p (.lst (xs ++ zs)))
theorem lst_rd {pins : List (Addr × Obj)} {σ : L2.St} {H : Hp} {s : Shared} {l : Addr} {xs : List V} (I : Inv X pins σ H s) (h : Rd H l (.lst xs)) : xs.length ≤ sizeLine ∧ ∃ (its : List Value) (n : Nat), Vals xs its ∧ xs.length = its.length ∧ s.heap.get? l = some { cls := .type "list", data := .seq its.toArray n } := by
  obtain ⟨z, its, n, r, e⟩ := h.ok I.hok
  exact ⟨z, its, n, r, r.length, e⟩
theorem op_catR : OpR X (binaryOp .Add) rCatR := by
  intro pins s σ H x y v u Q I rx ry h
  obtain ⟨l, b, xs, zs, rfl, rfl, hH, hB, hz, q⟩ := h
  cases rx
  cases ry
  obtain ⟨z, its, n, r, hl, e⟩ := lst_rd I hH
  obtain ⟨z2, its2, n2, r2, hl2, e2⟩ := lst_rd I hB
  refine PySem.P.add_list e e2 ?_ (by rw [List.size_toArray, List.size_toArray]; omega)
  have ea : its.toArray ++ its2.toArray = (its ++ its2).toArray := by simp
  rw [ea]
  exact ⟨.ref _, _, I.lnew (t' := s.toks) (r.append r2) (by rw [List.length_append]; omega), rfl, q _ I.fresh⟩
def rAddD (K : PySem.W.Frag) : R2 := fun x y H Q => (rI0 fun i j => .int (i + j)) x y H Q ∨ (∃ i j, x = .str i ∧ y = .str j ∧ i.length + j.length ≤ sizeLine ∧ Q (.str (i ++ j)) H) ∨ rCatA K x y H Q ∨ rCatR x y H Q
theorem op_addD : OpR X (binaryOp .Add) (rAddD X.K) := op_add.or (op_add_str.or (op_catA.or op_catR))
theorem ok_add : Ok2 X (rAddD X.K) oAdd := by
  intro W O σ H Q x y d e th rx ry q
  unfold oAdd at q
  split at q
  · cases rx.int
    cases ry.int
    exact .inl ⟨_, _, rfl, rfl, q.here (.int _)⟩
  · rename_i i j
    cases rx.str
    cases ry.str
    split at q
    · rename_i hz
      exact .inr (.inl ⟨_, _, rfl, rfl, by rw [← mx_line]; exact hz, q.here (.str _)⟩)
    · exact q.elim
  · rename_i i j
    have tX := rx.tupleRp
    have tY := ry.tupleRp
    obtain ⟨p, xs, rfl, hx, lx, rX⟩ := rx.tuple
    obtain ⟨p', ys, rfl, hy, ly, rY⟩ := ry.tuple
    split at q
    · rename_i hz
      have hz' : xs.length + ys.length ≤ mx := by rw [rX.length, rY.length]; exact hz
      refine .inr (.inr (.inl ⟨p, p', xs, ys, rfl, rfl, hx, hy, by rw [← mx_line]; exact hz', fun e => ?_, fun h1 h2 => ?_, fun h1 h2 u hu => ?_⟩))
      · have e' := rX.nil_iff.mp e
        subst e'
        exact q.here tY
      · have e' := rY.nil_iff.mp h2
        subst e'
        rw [List.append_nil] at q
        exact q.here tX
      · exact q.newT th hu (by rw [List.length_append]; exact hz') (rX.append rY)
    · exact q.elim
  · rename_i i j
    obtain ⟨p, xs, rfl, hx, lx, rX⟩ := rx.list
    obtain ⟨p', ys, rfl, hy, ly, rY⟩ := ry.list
    split at q
    · rename_i hz
      have hz' : xs.length + ys.length ≤ mx := by rw [rX.length, rY.length]; exact hz
      exact .inr (.inr (.inr ⟨p, p', xs, ys, rfl, rfl, hx, hy, by rw [← mx_line]; exact hz', fun u hu => q.newL th hu (by rw [List.length_append]; exact hz') (rX.append rY)⟩))
    · exact q.elim
  · exact q.elim
theorem ok_sub : Ok2 X (rI0 fun i j => .int (i - j)) oSub := by
  intro W O σ H Q x y d e th rx ry q
  unfold oSub at q
  split at q
  · cases rx.int
    cases ry.int
    exact ⟨_, _, rfl, rfl, q.here (.int _)⟩
  · exact q.elim
theorem RpAll.rep {K : PySem.W.Frag} {H : Hp} {xs : List V} {ds : List PyData} (h : RpAll K H xs ds) : ∀ n : Nat, RpAll K H (List.replicate n xs).flatten (List.replicate n ds).flatten
  | 0 => .nil
  | n + 1 => by
    rw [List.replicate_succ, List.replicate_succ, List.flatten_cons, List.flatten_cons]
    exact h.append (RpAll.rep h n)
/-- a list that may be locked, times an int -/
def rRepR : R2 := fun x y H Q => ∃ l k xs, x = .ref l ∧ y = .int k ∧ Rd H l (.lst xs) ∧ -(2 ^ 63) ≤ k ∧ k < 2 ^ 63 ∧ xs.length * k.toNat ≤ sizeLine ∧
  ∀ p, H p = none → Q (.ref p) (upd H p (.lst (List.replicate k.toNat xs).flatten))
theorem op_repR : OpR X (binaryOp .Mult) rRepR := by
  intro pins s σ H x y v u Q I rx ry h
  obtain ⟨l, k, xs, rfl, rfl, hH, h1, h2, hz, q⟩ := h
  cases rx
  obtain ⟨t, rfl⟩ := ry
  obtain ⟨z, its, n, r, hl, e⟩ := lst_rd I hH
  have hlen : its.toArray.size * k.toNat ≤ sizeLine := by rw [List.size_toArray, ← hl]; exact hz
  have hcap : ¬ its.toArray.size * k.toNat > (2 ^ 63 - 1) / 8 := by
    have : (sizeLine : Nat) ≤ (2 ^ 63 - 1) / 8 := by decide
    omega
  have hfit : ¬ (!Builtin.List.listFitsIndex k) = true := by
    rw [fitsIndex_both h1 h2]
    exact Bool.false_ne_true
  have hlong : ¬ Builtin.List.listTooLong (its.toArray.size * k.toNat) = true := by
    rw [notLongL hlen]
    exact Bool.false_ne_true
  have hnew : List.foldl (fun x1 x2 => x1 ++ x2) #[] (List.replicate (if its.toArray.isEmpty = true then 0 else k.toNat) its.toArray) = (List.replicate k.toNat its).flatten.toArray := by
    have f0 : ∀ m : Nat, List.foldl (fun x1 x2 => x1 ++ x2) #[] (List.replicate m its.toArray) = (List.replicate m its).flatten.toArray := fun m => by
      have := foldl_rep its m []
      rw [List.nil_append] at this
      exact this
    rw [f0]
    cases its with
    | nil => simp
    | cons a r' => rw [if_neg (by simp)]
  refine wpAny_binaryOp_repeat_ref (T := "list") (U := "int") (by decide) ⟨_, e, rfl⟩ (fun s' => typeIs_int s' k t) noFill_list_mul F.fills_int_mul F.slot_int_rmul repeat_list F.slot_int_index.lookup
    (call_meets F.slot_int_rmul (typeIs_int s k t) F.entry_int_rmul (F.args_int_rmul_2 _ _) (int___rmul___int_list k t l its.toArray n)
      ⟨e, rfl, ⟨_, e, rfl⟩, call_meets F.slot_list_mul ⟨_, e, rfl⟩ F.entry_list_mul (F.args_list_mul_2 _ _) (AutoListH.list___mul___list_int_3 l its.toArray n k t hfit hcap hlong) ⟨e, ?_⟩⟩)
  rw [hnew]
  exact ⟨.ref _, _, I.lnew (t' := s.toks) (r.rep k.toNat) (by rw [PyProof.Rows.lm_len_rep_flat, Nat.mul_comm]; exact hz), rfl, q _ I.fresh⟩
def rMulD : R2 := fun x y H Q => (rI CMul fun i j => .int (i * j)) x y H Q ∨ rRepR x y H Q
theorem op_mulD : OpR X (binaryOp .Mult) rMulD := op_mul.or op_repR
theorem ok_mul : Ok2 X rMulD oMul := by
  intro W O σ H Q x y d e th rx ry q
  unfold oMul at q
  split at q
  · rename_i i j
    cases rx.int
    cases ry.int
    split at q
    · rename_i hc
      refine .inl ⟨_, _, rfl, rfl, ?_, q.here (.int _)⟩
      unfold mulOk at hc
      simp only [Bool.or_eq_true, Bool.and_eq_true, decide_eq_true_eq] at hc
      exact hc
    · exact q.elim
  · rename_i i k
    cases ry.int
    obtain ⟨p, xs, rfl, hx, lx, rX⟩ := rx.list
    split at q
    · rename_i hc
      simp only [Bool.and_eq_true, decide_eq_true_eq] at hc
      obtain ⟨⟨h1, h2⟩, h3⟩ := hc
      refine .inr ⟨p, k, xs, rfl, rfl, hx, by omega, by omega, by rw [← mx_line, rX.length]; exact h3, fun u hu => q.newL th hu ?_ (rX.rep _)⟩
      rw [PyProof.Rows.lm_len_rep_flat, Nat.mul_comm, rX.length]
      exact h3
    · exact q.elim
  · exact q.elim
theorem ok_mod : Ok2 X (rI (fun _ j => 0 < j) fun i j => .int (i % j)) oMod := by
  intro W O σ H Q x y d e th rx ry q
  unfold oMod at q
  split at q
  · cases rx.int
    cases ry.int
    split at q
    · rename_i h
      exact ⟨_, _, rfl, rfl, h, q.here (.int _)⟩
    · exact q.elim
  · exact q.elim
theorem ok_div : Ok2 X (rI CDiv fun i j => .int (i / j)) oDiv := by
  intro W O σ H Q x y d e th rx ry q
  unfold oDiv at q
  split at q
  · cases rx.int
    cases ry.int
    split at q
    · rename_i h
      exact ⟨_, _, rfl, rfl, h, q.here (.int _)⟩
    · exact q.elim
  · exact q.elim
theorem ok_pow : Ok2 X (rI CPow fun i j => .int (i ^ j.toNat)) oPow := by
  intro W O σ H Q x y d e th rx ry q
  unfold oPow at q
  split at q
  · cases rx.int
    cases ry.int
    split at q
    · rename_i h
      simp only [Bool.and_eq_true, decide_eq_true_eq] at h
      exact ⟨_, _, rfl, rfl, ⟨h.1.1, h.1.2, h.2⟩, q.here (.int _)⟩
    · exact q.elim
  · exact q.elim

/-! ### comparisons -/
theorem RpB.dp {K : PySem.W.Frag} {O : List Addr} {H : Hp} {v : V} {d : PyData} (h : RpB K O H v d) (p : d.plain = true) : Dp K H v d := h.rp.dp p
def rEqP (A : Around) (K : PySem.W.Frag) (neg : Bool) : R2 := fun x y H Q => ∃ d e, Dp K H x d ∧ Dp K H y e ∧ d.plain = true ∧ e.plain = true ∧ min d.depth e.depth ≤ 64 ∧ Q (.bl (if neg then !PyData.eqv d e else PyData.eqv d e)) H
theorem op_eqP (hu : X.A.units + 64 < cLine) : OpR X (compareOp .Eq) (rEqP X.A X.K false) := by
  intro pins s σ H x y v u Q I rx ry h
  obtain ⟨d, e, hd, he, sd, se, hm, q⟩ := h
  obtain ⟨as, r1⟩ := Dp.reads I d x v hd rx
  obtain ⟨bs, r2⟩ := Dp.reads I e y u he ry
  exact SeqAt.eq_plain r1 r2 sd se (by omega) ⟨.bl _, H, I, rfl, q⟩
theorem op_neP (hu : X.A.units + 64 < cLine) : OpR X (compareOp .NotEq) (rEqP X.A X.K true) := by
  intro pins s σ H x y v u Q I rx ry h
  obtain ⟨d, e, hd, he, sd, se, hm, q⟩ := h
  obtain ⟨as, r1⟩ := Dp.reads I d x v hd rx
  obtain ⟨bs, r2⟩ := Dp.reads I e y u he ry
  exact SeqAt.ne_plain r1 r2 sd se (by omega) ⟨.bl _, H, I, rfl, q⟩
theorem cmpOk_of {d e : PyData} (h : cmpOk d e = true) : d.plain = true ∧ e.plain = true ∧ min d.depth e.depth ≤ 64 := by
  unfold cmpOk at h
  simp only [Bool.and_eq_true, decide_eq_true_eq] at h
  exact ⟨h.1.1, h.1.2, h.2⟩
theorem ok_eq : Ok2 X (rEqP X.A X.K false) oEq := by
  intro W O σ H Q x y d e th rx ry q
  unfold oEq at q
  split at q
  · rename_i h
    obtain ⟨h1, h2, h3⟩ := cmpOk_of h
    exact ⟨d, e, rx.dp h1, ry.dp h2, h1, h2, h3, q.here (.bl _)⟩
  · exact q.elim
theorem ok_ne : Ok2 X (rEqP X.A X.K true) oNe := by
  intro W O σ H Q x y d e th rx ry q
  unfold oNe at q
  split at q
  · rename_i h
    obtain ⟨h1, h2, h3⟩ := cmpOk_of h
    exact ⟨d, e, rx.dp h1, ry.dp h2, h1, h2, h3, q.here (.bl _)⟩
  · exact q.elim
theorem ok_lt : Ok2 X (rI0 fun i j => .bl (decide (i < j))) oLt := by
  intro W O σ H Q x y d e th rx ry q
  unfold oLt at q
  split at q
  · cases rx.int
    cases ry.int
    exact ⟨_, _, rfl, rfl, q.here (.bl _)⟩
  · exact q.elim
theorem ok_le : Ok2 X (rI0 fun i j => .bl (decide (i ≤ j))) oLe := by
  intro W O σ H Q x y d e th rx ry q
  unfold oLe at q
  split at q
  · cases rx.int
    cases ry.int
    exact ⟨_, _, rfl, rfl, q.here (.bl _)⟩
  · exact q.elim
theorem ok_gt : Ok2 X (rI0 fun i j => .bl (decide (j < i))) oGt := by
  intro W O σ H Q x y d e th rx ry q
  unfold oGt at q
  split at q
  · cases rx.int
    cases ry.int
    exact ⟨_, _, rfl, rfl, q.here (.bl _)⟩
  · exact q.elim
theorem ok_ge : Ok2 X (rI0 fun i j => .bl (decide (j ≤ i))) oGe := by
  intro W O σ H Q x y d e th rx ry q
  unfold oGe at q
  split at q
  · cases rx.int
    cases ry.int
    exact ⟨_, _, rfl, rfl, q.here (.bl _)⟩
  · exact q.elim
/-- is None: the right side None -/
def oIs : PyData → PyData → Rs PyData
  | d, .none => oIsN d
  | _, _ => .bad
def oIsNot : PyData → PyData → Rs PyData
  | d, .none => oNotN d
  | _, _ => .bad
theorem RpB.isNon {K : PySem.W.Frag} {O : List Addr} {H : Hp} {v : V} {d : PyData} (h : RpB K O H v d) : (d = .none ∧ v = .non) ∨ (d ≠ .none ∧ v ≠ .non) := by
  rcases h with h | ⟨a, rfl, ⟨xs, es, e, _⟩ | ⟨_, _, e, _⟩ | ⟨_, _, e, _⟩⟩
  · cases h with
    | non => exact .inl ⟨rfl, rfl⟩
    | _ => exact .inr ⟨(fun z => by cases z), (fun z => by cases z)⟩
  all_goals exact .inr ⟨(fun z => by rw [e] at z; cases z), (fun z => by cases z)⟩
theorem oIsN_of {d : PyData} (h : d ≠ .none) : oIsN d = .ok (.bool false) := by
  cases d <;> first | rfl | exact absurd rfl h
theorem oNotN_of {d : PyData} (h : d ≠ .none) : oNotN d = .ok (.bool true) := by
  cases d <;> first | rfl | exact absurd rfl h
theorem ok_is : Ok2 X (fun x y H Q => y = .non ∧ Q (.bl (decide (x = .non))) H) oIs := by
  intro W O σ H Q x y d e th rx ry q
  unfold oIs at q
  split at q
  · refine ⟨ry.none, ?_⟩
    rcases rx.isNon with ⟨rfl, rfl⟩ | ⟨h1, h2⟩
    · exact q.here (.bl _)
    · rw [oIsN_of h1] at q
      rw [decide_eq_false h2]
      exact q.here (.bl _)
  · exact q.elim
theorem ok_isnot : Ok2 X (fun x y H Q => y = .non ∧ Q (.bl (!decide (x = .non))) H) oIsNot := by
  intro W O σ H Q x y d e th rx ry q
  unfold oIsNot at q
  split at q
  · refine ⟨ry.none, ?_⟩
    rcases rx.isNon with ⟨rfl, rfl⟩ | ⟨h1, h2⟩
    · exact q.here (.bl _)
    · rw [oNotN_of h1] at q
      rw [decide_eq_false h2]
      exact q.here (.bl _)
  · exact q.elim

/-! ### a[i], len, int, str, tuple, list, min, max -/
theorem RpAll.atI {K : PySem.W.Frag} {H : Hp} {xs : List V} {ds : List PyData} {i : Int} {d : PyData} (h : RpAll K H xs ds) (e : atI ds i = some d) : ∃ x, L2.atI xs i = some x ∧ Rp K H x d := by
  unfold L2.atI at e ⊢
  rw [h.length]
  cases q : ixN ds.length i with
  | none => rw [q] at e; cases e
  | some j =>
    rw [q] at e
    exact h.get e
theorem ok_ix : Ok2 X (rIx X.K) oIx := by
  intro W O σ H Q x y d e th rx ry q
  unfold oIx at q
  split at q
  · cases ry.int
    obtain ⟨p, xs, rfl, hx, lx, rX⟩ := rx.list
    split at q
    · rename_i z
      obtain ⟨v, e1, r1⟩ := rX.atI z
      exact .inl ⟨p, xs, _, v, rfl, rfl, .inl hx, e1, q.here r1⟩
    · exact q.elim
  · cases ry.int
    obtain ⟨p, xs, rfl, hx, lx, rX⟩ := rx.tuple
    split at q
    · rename_i z
      obtain ⟨v, e1, r1⟩ := rX.atI z
      exact .inr (.inl ⟨p, xs, _, v, rfl, rfl, hx, e1, q.here r1⟩)
    · exact q.elim
  · cases ry.int
    obtain ⟨p, is, rfl, rfl, hx, lx⟩ := rx.scr
    split at q
    · rename_i z
      obtain ⟨v, e1, r1⟩ := (rpAll_ints (K := X.K) (H := hide H O) is).atI z
      exact .inl ⟨p, _, _, v, rfl, rfl, hx, e1, q.here r1⟩
    · exact q.elim
  · cases ry.int
    cases rx.str
    split at q
    · rename_i hz
      split at q
      · rename_i z
        exact .inr (.inr ⟨_, _, _, rfl, rfl, by rw [← mx_line]; exact hz, z, q.here (.str _)⟩)
      · exact q.elim
    · exact q.elim
  · exact q.elim
theorem de_ix (ha : BE X W a fa) (hb : BE X W b fb) (hs : PlainIx b := by exact fun _ _ => rfl) : DE X W (.Subscript a b pos) (b2 oIx fa fb) :=
  PE.imp (pe_ix ix_seq ha hb hs) fun _ _ _ q => go2 ok_ix q
/-- a call of a builtin with one argument -/
def Ok1 (X : Cx) (r : List V → Hp → VK → Prop) (op : PyData → Rs PyData) : Prop := ∀ (W : WX) (O : List Addr) (σ : L2.St) (H : Hp) (Q : VK) (x : V) (d : PyData), (∀ a ∈ O, H a ≠ none) → RpB X.K O H x d → RK X.K X.mg W O σ H Q (op d) → r [x] H Q
theorem go1 {r : List V → Hp → VK → Prop} {op : PyData → Rs PyData} (h : Ok1 X r op) {σ : L2.St} {H : Hp} {Q : VK} (q : tD X.K X.mg W (b1 op fa) σ H Q) : tCB r (tCons (tB' X.K X.mg W fa) tNil) σ H Q := by
  obtain ⟨ρ, O, H0, s, q⟩ := q
  exact ⟨ρ, O, H0, s, RKB.of q fun d H1 v g1 r1 q1 => h W _ σ H1 Q v d (s.grow g1).there r1 q1⟩
def Ok1b (X : Cx) (r : List V → Hp → VK → Prop) (op : PyData → PyData → Rs PyData) : Prop := ∀ (W : WX) (O : List Addr) (σ : L2.St) (H : Hp) (Q : VK) (x y : V) (d e : PyData), (∀ a ∈ O, H a ≠ none) → RpB X.K O H x d → RpB X.K O H y e → RK X.K X.mg W O σ H Q (op d e) → r [x, y] H Q
theorem go1b {r : List V → Hp → VK → Prop} {op : PyData → PyData → Rs PyData} (h : Ok1b X r op) {σ : L2.St} {H : Hp} {Q : VK} (q : tD X.K X.mg W (b2 op fa fb) σ H Q) : tCB r (tCons (tB' X.K X.mg W fa) (tCons (tB' X.K X.mg W fb) tNil)) σ H Q := by
  obtain ⟨ρ, O, H0, s, q⟩ := q
  refine ⟨ρ, O, H0, s, RKB.of q fun d H1 v g1 r1 q1 => ⟨ρ, O, H0, s.grow g1, RKB.of q1 fun e H2 u g2 r2 q2 => ?_⟩⟩
  exact h W _ σ H2 Q v u d e ((s.grow g1).grow g2).there (r1.grow g2) r2 q2
variable {x : Str} {p : Pos}
theorem de_call1 {id : String} {r : List V → Hp → VK → Prop} {op : PyData → Rs PyData} (hc : CallR X (.builtin id) r) (h : Ok1 X r op) (ha : BE X W a fa) (hm : X.mg x = none) (hv : bootBuiltins x = some (.builtin id)) (hg : Gl X x := by rfl) (hn : x ≠ "__name__" := by decide) (hdb : (x == ("__debug__" : Str)) = false := by decide)
    (he : starEach (a :: []) X.env = (false, eval a X.env) :: starEach [] X.env := by rfl) (hpl : (backTo pos (starEach [] X.env)).any (·.1) = false := by rfl) : DE X W (.Call (.Name x p) [a] [] pos) (b1 op fa) :=
  PE.imp (pe_callB hc hg hm hv (pa_cons ha pa_nil he) hn hdb he hpl) fun _ _ _ q => go1 h q
theorem de_callT1 {id : String} {r : List V → Hp → VK → Prop} {op : PyData → Rs PyData} (hc : CallR X (.type id) r) (h : Ok1 X r op) (ha : BE X W a fa) (hm : X.mg x = none) (hv : bootBuiltins x = some (.type id)) (hg : Gl X x := by rfl) (hn : x ≠ "__name__" := by decide) (hdb : (x == ("__debug__" : Str)) = false := by decide)
    (he : starEach (a :: []) X.env = (false, eval a X.env) :: starEach [] X.env := by rfl) (hpl : (backTo pos (starEach [] X.env)).any (·.1) = false := by rfl) : DE X W (.Call (.Name x p) [a] [] pos) (b1 op fa) :=
  PE.imp (pe_callTy hc hg hm hv (pa_cons ha pa_nil he) hn hdb he hpl) fun _ _ _ q => go1 h q
theorem de_call2 {id : String} {r : List V → Hp → VK → Prop} {op : PyData → PyData → Rs PyData} (hc : CallR X (.builtin id) r) (h : Ok1b X r op) (ha : BE X W a fa) (hb : BE X W b fb) (hm : X.mg x = none) (hv : bootBuiltins x = some (.builtin id)) (hg : Gl X x := by rfl) (hn : x ≠ "__name__" := by decide) (hdb : (x == ("__debug__" : Str)) = false := by decide)
    (he : starEach (a :: [b]) X.env = (false, eval a X.env) :: starEach [b] X.env := by rfl) (he2 : starEach (b :: []) X.env = (false, eval b X.env) :: starEach [] X.env := by rfl) (hpl : (backTo pos (starEach [b] X.env)).any (·.1) = false := by rfl) : DE X W (.Call (.Name x p) [a, b] [] pos) (b2 op fa fb) :=
  PE.imp (pe_callB hc hg hm hv (pa_cons ha (pa_cons hb pa_nil he2) he) hn hdb he hpl) fun _ _ _ q => go1b h q
end
end DL

namespace DL
open PySem PySem.Spec PyProof.Rows L2

section
variable {X : Cx} {W : WX} {a b c : Expr} {fa fb fc : En → Rs PyData} {pos : Pos}
/-! ### builtins -/
theorem ok_len : Ok1 X (fun xs H Q => ∃ x n, xs = [x] ∧ LenV X.K x H n ∧ Q (.int n) H) oLen := by
  intro W O σ H Q x d th rx q
  unfold oLen at q
  split at q
  · obtain ⟨p, xs, rfl, hx, lx, rX⟩ := rx.list
    exact ⟨_, _, rfl, .inl ⟨xs, .inl hx, rX.length.symm⟩, q.here (.int _)⟩
  · obtain ⟨p, xs, rfl, hx, lx, rX⟩ := rx.tuple
    exact ⟨_, _, rfl, .inr ⟨xs, hx, rX.length.symm⟩, q.here (.int _)⟩
  · cases rx.str
    split at q
    · rename_i hz
      exact ⟨_, _, rfl, ⟨by rw [← mx_line]; exact hz, rfl⟩, q.here (.int _)⟩
    · exact q.elim
  · obtain ⟨p, is, rfl, rfl, hx, lx⟩ := rx.scr
    exact ⟨_, _, rfl, .inl ⟨_, hx, by rw [List.length_map, List.length_map]⟩, q.here (.int _)⟩
  · exact q.elim
theorem ok_int : Ok1 X (fun xs H Q => (∃ i, xs = [.int i] ∧ Q (.int i) H) ∨ ∃ k, xs = [.bl k] ∧ Q (.int (if k then 1 else 0)) H) oInt := by
  intro W O σ H Q x d th rx q
  unfold oInt at q
  split at q
  · cases rx.int
    exact .inl ⟨_, rfl, q.here (.int _)⟩
  · cases rx.bool
    exact .inr ⟨_, rfl, q.here (.int _)⟩
  · exact q.elim
theorem ok_str : Ok1 X (fun xs H Q => ∃ i, xs = [.int i] ∧ i.natAbs.log2 < 1920 ∧ Q (.str (toString i)) H) oStr := by
  intro W O σ H Q x d th rx q
  unfold oStr at q
  split at q
  · cases rx.int
    split at q
    · rename_i h
      exact ⟨_, rfl, h, q.here (.str _)⟩
    · exact q.elim
  · exact q.elim
theorem ok_tuple : Ok1 X (fun xs H Q => ∃ p ys, xs = [.ref p] ∧ ((SqL X.K H p ys ∧ ∀ l, H l = none → Q (.ref l) (upd H l (.tup ys))) ∨ (SqT X.K H p ys ∧ Q (.ref p) H))) oTuple := by
  intro W O σ H Q x d th rx q
  unfold oTuple at q
  split at q
  · obtain ⟨p, xs, rfl, hx, lx, rX⟩ := rx.list
    exact ⟨p, xs, rfl, .inl ⟨.inl hx, fun l hl => q.newT th hl lx rX⟩⟩
  · have r := rx.tupleRp
    obtain ⟨p, xs, rfl, hx, lx, rX⟩ := rx.tuple
    exact ⟨p, xs, rfl, .inr ⟨hx, q.here r⟩⟩
  · exact q.elim
theorem ok_list : Ok1 X (fun xs H Q => ∃ p ys, xs = [.ref p] ∧ (SqL X.K H p ys ∨ SqT X.K H p ys) ∧ ∀ l, H l = none → Q (.ref l) (upd H l (.lst ys))) oList := by
  intro W O σ H Q x d th rx q
  unfold oList at q
  split at q
  · obtain ⟨p, xs, rfl, hx, lx, rX⟩ := rx.list
    exact ⟨p, xs, rfl, .inl (.inl hx), fun l hl => q.newL th hl lx rX⟩
  · obtain ⟨p, xs, rfl, hx, lx, rX⟩ := rx.tuple
    exact ⟨p, xs, rfl, .inr hx, fun l hl => q.newL th hl lx rX⟩
  · exact q.elim
theorem ok_min2 : Ok1b X (fun xs H Q => ∃ i j, xs = [.int i, .int j] ∧ Q (.int (if j < i then j else i)) H) oMin2 := by
  intro W O σ H Q x y d e th rx ry q
  unfold oMin2 at q
  split at q
  · cases rx.int
    cases ry.int
    exact ⟨_, _, rfl, q.here (.int _)⟩
  · exact q.elim
theorem ok_max2 : Ok1b X (fun xs H Q => ∃ i j, xs = [.int i, .int j] ∧ Q (.int (if j > i then j else i)) H) oMax2 := by
  intro W O σ H Q x y d e th rx ry q
  unfold oMax2 at q
  split at q
  · cases rx.int
    cases ry.int
    exact ⟨_, _, rfl, q.here (.int _)⟩
  · exact q.elim

/-! ### isinstance: one built-in class -/
def oIsTup : PyData → Rs PyData
  | .tuple _ => .ok (.bool true)
  | .dict _ => .bad
  | _ => .ok (.bool false)
def oIsLst : PyData → Rs PyData
  | .list _ => .ok (.bool true)
  | .dict _ => .bad
  | _ => .ok (.bool false)
def oIsStr : PyData → Rs PyData
  | .str _ => .ok (.bool true)
  | .dict _ => .bad
  | _ => .ok (.bool false)
def oIsInt : PyData → Rs PyData
  | .int _ => .ok (.bool true)
  | .bool _ => .ok (.bool true)
  | .dict _ => .bad
  | _ => .ok (.bool false)
def oIsBool : PyData → Rs PyData
  | .bool _ => .ok (.bool true)
  | .dict _ => .bad
  | _ => .ok (.bool false)
/-- op tells whether data is of the built-in class T -/
def IsiOp (T : String) (op : PyData → Rs PyData) : Prop :=
  (op .none = .ok (.bool false) ∧ kitB "NoneType" T = some false) ∧ (∀ es, op (.dict es) = .bad) ∧
  (∃ b1 b2 b3 b4 b5 : Bool, (∀ b, op (.bool b) = .ok (.bool b1)) ∧ (∀ b, op (.int b) = .ok (.bool b2)) ∧ (∀ b, op (.str b) = .ok (.bool b3)) ∧ (∀ b, op (.list b) = .ok (.bool b4)) ∧ (∀ b, op (.tuple b) = .ok (.bool b5)) ∧
    kitB "bool" T = some b1 ∧ kitB "int" T = some b2 ∧ kitB "str" T = some b3 ∧ kitB "list" T = some b4 ∧ kitB "tuple" T = some b5)
theorem isi_tup : IsiOp "tuple" oIsTup := ⟨⟨rfl, by decide +kernel⟩, fun _ => rfl, _, _, _, _, _, fun _ => rfl, fun _ => rfl, fun _ => rfl, fun _ => rfl, fun _ => rfl, by decide +kernel, by decide +kernel, by decide +kernel, by decide +kernel, by decide +kernel⟩
theorem isi_lst : IsiOp "list" oIsLst := ⟨⟨rfl, by decide +kernel⟩, fun _ => rfl, _, _, _, _, _, fun _ => rfl, fun _ => rfl, fun _ => rfl, fun _ => rfl, fun _ => rfl, by decide +kernel, by decide +kernel, by decide +kernel, by decide +kernel, by decide +kernel⟩
theorem isi_str : IsiOp "str" oIsStr := ⟨⟨rfl, by decide +kernel⟩, fun _ => rfl, _, _, _, _, _, fun _ => rfl, fun _ => rfl, fun _ => rfl, fun _ => rfl, fun _ => rfl, by decide +kernel, by decide +kernel, by decide +kernel, by decide +kernel, by decide +kernel⟩
theorem isi_int : IsiOp "int" oIsInt := ⟨⟨rfl, by decide +kernel⟩, fun _ => rfl, _, _, _, _, _, fun _ => rfl, fun _ => rfl, fun _ => rfl, fun _ => rfl, fun _ => rfl, by decide +kernel, by decide +kernel, by decide +kernel, by decide +kernel, by decide +kernel⟩
theorem isi_bool : IsiOp "bool" oIsBool := ⟨⟨rfl, by decide +kernel⟩, fun _ => rfl, _, _, _, _, _, fun _ => rfl, fun _ => rfl, fun _ => rfl, fun _ => rfl, fun _ => rfl, by decide +kernel, by decide +kernel, by decide +kernel, by decide +kernel, by decide +kernel⟩
theorem ok_isi {T : String} {op : PyData → Rs PyData} (hI : IsiOp T op) (W : WX) (O : List Addr) (σ : L2.St) (H : Hp) (Q : VK) (x : V) (d : PyData) (rx : RpB X.K O H x d) (q : RK X.K X.mg W O σ H Q (op d)) : rIsi X.K [x, .ty T] H Q := by
  obtain ⟨⟨hn, kn⟩, hd, b1, b2, b3, b4, b5, h1, h2, h3, h4, h5, k1, k2, k3, k4, k5⟩ := hI
  cases d with
  | none =>
    cases rx.none
    rw [hn] at q
    exact ⟨.non, .ty T, _, _, _, rfl, .ty T, .base .non, kit_ty kn, q.here (.bl _)⟩
  | bool b =>
    cases rx.bool
    rw [h1] at q
    exact ⟨.bl b, .ty T, _, _, _, rfl, .ty T, .base (.bl b), kit_ty k1, q.here (.bl _)⟩
  | int b =>
    cases rx.int
    rw [h2] at q
    exact ⟨.int b, .ty T, _, _, _, rfl, .ty T, .base (.int b), kit_ty k2, q.here (.bl _)⟩
  | str b =>
    cases rx.str
    rw [h3] at q
    exact ⟨.str b, .ty T, _, _, _, rfl, .ty T, .base (.str b), kit_ty k3, q.here (.bl _)⟩
  | list b =>
    obtain ⟨p, xs, rfl, hx, lx, rX⟩ := rx.list
    rw [h4] at q
    refine ⟨.ref p, .ty T, _, _, _, rfl, .ty T, ?_, kit_ty k4, q.here (.bl _)⟩
    rcases hx with hx | ⟨o, hx⟩
    · exact .base (.lst hx)
    · exact .base (.frz hx)
  | tuple b =>
    obtain ⟨p, xs, rfl, hx, lx, rX⟩ := rx.tuple
    rw [h5] at q
    refine ⟨.ref p, .ty T, _, _, _, rfl, .ty T, ?_, kit_ty k5, q.here (.bl _)⟩
    rcases hx with (hx | ⟨o, hx⟩) | ⟨o, its, n, hk, hc, _⟩
    · exact .base (.tup hx)
    · exact .fTuple hx
    · exact .kTuple hk hc
  | dict es =>
    rw [hd] at q
    exact q.elim
theorem de_isi {T : String} {op : PyData → Rs PyData} {p p2 : Pos} {y : Str} (hI : IsiOp T op) (ha : BE X W a fa) (hm : X.mg "isinstance" = none) (hm2 : X.mg y = none) (hv : bootBuiltins y = some (.type T)) (hg : Gl X "isinstance" := by rfl) (hg2 : Gl X y := by rfl)
    (hn : y ≠ "__name__" := by decide) (hdb : (y == ("__debug__" : Str)) = false := by decide)
    (he : starEach (a :: [.Name y p2]) X.env = (false, eval a X.env) :: starEach [.Name y p2] X.env := by rfl) (hpl : (backTo pos (starEach [.Name y p2] X.env)).any (·.1) = false := by rfl) :
    DE X W (.Call (.Name "isinstance" p) [a, .Name y p2] [] pos) (b1 op fa) :=
  PE.imp (pe_callB call_isi hg hm (by decide +kernel) (pa_cons ha (pa_cons (pe_bltn (v := .ty T) hg2 hm2 hv rfl hn hdb) pa_nil) he) (by decide) (by decide) he hpl) fun σ H Q ⟨ρ, O, H0, s, q⟩ =>
    ⟨ρ, O, H0, s, RKB.of q fun d H1 v g1 r1 q1 => ok_isi hI W _ σ H1 Q v d r1 q1⟩

/-! ### and, or, not, a if t else b: values -/
def vAnd (f g : En → Rs PyData) : En → Rs PyData := fun ρ => (f ρ).bind fun d => match d with
  | .bool true => g ρ
  | .bool false => .ok (.bool false)
  | _ => .bad
def vOr (f g : En → Rs PyData) : En → Rs PyData := fun ρ => (f ρ).bind fun d => match d with
  | .bool true => .ok (.bool true)
  | .bool false => g ρ
  | _ => .bad
def oNot : PyData → Rs PyData
  | .bool b => .ok (.bool (!b))
  | _ => .bad
variable {rest : List Expr}
theorem de_one {op : BoolOp} (h : DE X W a fa) : DE X W (.BoolOp op [a] pos) fa := pe_one h
theorem de_and (ha : DE X W a fa) (hb : DE X W (.BoolOp .And (b :: rest) pos) fb) : DE X W (.BoolOp .And (a :: b :: rest) pos) (vAnd fa fb) :=
  PE.imp (pe_and ha hb) fun σ H Q ⟨ρ, O, H0, s, q⟩ => ⟨ρ, O, H0, s, RK.of q fun d H1 v g r1 q1 => by
    split at q1
    · cases r1
      exact ⟨true, rfl, ρ, O, H0, s.grow g, q1⟩
    · cases r1
      exact ⟨false, rfl, q1.here (.bl _)⟩
    · exact q1.elim⟩
theorem de_or (ha : DE X W a fa) (hb : DE X W (.BoolOp .Or (b :: rest) pos) fb) : DE X W (.BoolOp .Or (a :: b :: rest) pos) (vOr fa fb) :=
  PE.imp (pe_or ha hb) fun σ H Q ⟨ρ, O, H0, s, q⟩ => ⟨ρ, O, H0, s, RK.of q fun d H1 v g r1 q1 => by
    split at q1
    · cases r1
      exact ⟨true, rfl, q1.here (.bl _)⟩
    · cases r1
      exact ⟨false, rfl, ρ, O, H0, s.grow g, q1⟩
    · exact q1.elim⟩
theorem de_not (ha : DE X W a fa) : DE X W (.UnaryOp .Not a pos) (b1 oNot fa) :=
  PE.imp (pe_not ha) fun σ H Q ⟨ρ, O, H0, s, q⟩ => ⟨ρ, O, H0, s, RK.of q fun d H1 v g r1 q1 => by
    unfold oNot at q1
    split at q1
    · cases r1
      exact ⟨_, rfl, q1.here (.bl _)⟩
    · exact q1.elim⟩
def vIf (t : En → Rs Bool) (f g : En → Rs PyData) : En → Rs PyData := fun ρ => (t ρ).bind fun c => if c then f ρ else g ρ
theorem de_ifExp {t : En → Rs Bool} (hc : DT X W c t) (ha : DE X W a fa) (hb : DE X W b fb) : DE X W (.IfExp c a b pos) (vIf t fa fb) :=
  PE.imp (pe_ifExp hc ha hb) fun σ H Q ⟨ρ, O, H0, s, q⟩ => ⟨ρ, O, H0, s, RKT.of q fun k H1 g q1 => by
    cases k with
    | true => exact ⟨ρ, O, H0, s.grow g, q1⟩
    | false => exact ⟨ρ, O, H0, s.grow g, q1⟩⟩
def oNeg : PyData → Rs PyData
  | .int i => .ok (.int (-i))
  | _ => .bad
theorem de_neg (ha : BE X W a fa) : DE X W (.UnaryOp .USub a pos) (b1 oNeg fa) :=
  PE.imp (pe_un un_neg ha) fun σ H Q ⟨ρ, O, H0, s, q⟩ => ⟨ρ, O, H0, s, RKB.of q fun d H1 v g r1 q1 => by
    unfold oNeg at q1
    split at q1
    · cases r1.int
      exact ⟨_, rfl, q1.here (.int _)⟩
    · exact q1.elim⟩

/-! ### argument lists; displays -/
def RKA (K : PySem.W.Frag) (mg : Str → Option Value) (W : WX) (O : List Addr) (σ : L2.St) (H : Hp) (Q : List V → Hp → Prop) : Rs (List PyData) → Prop
  | .ok d => ∀ H' v, Gr H H' → RpAll K (hide H' O) v d → Q v H'
  | .ex e => ∀ H' c dd, Gr H H' → ExR K mg (hide H' O) c dd e → W c dd σ H'
  | .bad => False
theorem RKA.grow {K : PySem.W.Frag} {mg : Str → Option Value} {W : WX} {O : List Addr} {σ : L2.St} {H H1 : Hp} {Q : List V → Hp → Prop} {r : Rs (List PyData)} (g : Gr H H1) (h : RKA K mg W O σ H Q r) : RKA K mg W O σ H1 Q r := by
  cases r with
  | ok d => exact fun H' v g' => h H' v (g.trans g')
  | ex e => exact fun H' c dd g' => h H' c dd (g.trans g')
  | bad => exact h
def tAD (K : PySem.W.Frag) (mg : Str → Option Value) (W : WX) (f : En → Rs (List PyData)) : TA := fun σ H Q => ∃ ρ O H0, SR K O H0 H σ ρ ∧ RKA K mg W (O ++ owned σ ρ) σ H Q (f ρ)
abbrev DA (X : Cx) (W : WX) (es : List Expr) (f : En → Rs (List PyData)) : Prop := PA X es (tAD X.K X.mg W f)
theorem PA.imp {X : Cx} {e : List Expr} {t t' : TA} (h : PA X e t) (i : ∀ σ H Q, t' σ H Q → t σ H Q) : PA X e t' := ⟨fun pos pins s σ H Q I q => h.run pos pins s σ H Q I (i σ H Q q)⟩
def aNil : En → Rs (List PyData) := fun _ => .ok []
def aCons (f : En → Rs PyData) (g : En → Rs (List PyData)) : En → Rs (List PyData) := fun ρ => (f ρ).bind fun d => (g ρ).bind fun ds => .ok (d :: ds)
theorem da_nil : DA X W [] aNil := PA.imp pa_nil fun σ H Q ⟨ρ, O, H0, s, q⟩ => q H [] (Gr.refl H) .nil
theorem RK.ofA {K : PySem.W.Frag} {mg : Str → Option Value} {W : WX} {O : List Addr} {σ : L2.St} {H : Hp} {Q : List V → Hp → Prop} {Q' : VK} {r : Rs PyData} {k : PyData → Rs (List PyData)} (h : RKA K mg W O σ H Q (r.bind k)) (hk : ∀ d H1 v, Gr H H1 → Rp K (hide H1 O) v d → RKA K mg W O σ H1 Q (k d) → Q' v H1) : RK K mg W O σ H Q' r := by
  cases r with
  | ok d => exact fun H' v g rp => hk d H' v g rp (RKA.grow g h)
  | ex e => exact h
  | bad => exact h
theorem RKA.ofA {K : PySem.W.Frag} {mg : Str → Option Value} {W : WX} {O : List Addr} {σ : L2.St} {H : Hp} {Q Q' : List V → Hp → Prop} {r : Rs (List PyData)} {k : List PyData → Rs (List PyData)} (h : RKA K mg W O σ H Q (r.bind k)) (hk : ∀ d H1 v, Gr H H1 → RpAll K (hide H1 O) v d → RKA K mg W O σ H1 Q (k d) → Q' v H1) : RKA K mg W O σ H Q' r := by
  cases r with
  | ok d => exact fun H' v g rp => hk d H' v g rp (RKA.grow g h)
  | ex e => exact h
  | bad => exact h
theorem RKA.of {K : PySem.W.Frag} {mg : Str → Option Value} {W : WX} {O : List Addr} {σ : L2.St} {H : Hp} {Q : VK} {Q' : List V → Hp → Prop} {r : Rs (List PyData)} {k : List PyData → Rs PyData} (h : RK K mg W O σ H Q (r.bind k)) (hk : ∀ d H1 v, Gr H H1 → RpAll K (hide H1 O) v d → RK K mg W O σ H1 Q (k d) → Q' v H1) : RKA K mg W O σ H Q' r := by
  cases r with
  | ok d => exact fun H' v g rp => hk d H' v g rp (RK.grow g h)
  | ex e => exact h
  | bad => exact h
theorem da_cons {es : List Expr} {g : En → Rs (List PyData)} (ha : DE X W a fa) (hr : DA X W es g) (hs : starEach (a :: es) X.env = (false, eval a X.env) :: starEach es X.env := by rfl) : DA X W (a :: es) (aCons fa g) :=
  PA.imp (pa_cons ha hr hs) fun σ H Q ⟨ρ, O, H0, s, q⟩ => ⟨ρ, O, H0, s, RK.ofA q fun d H1 v g1 r1 q1 => ⟨ρ, O, H0, s.grow g1, RKA.ofA q1 fun ds H2 vs g2 r2 q2 => q2 H2 (v :: vs) (Gr.refl _) (.cons (r1.mono (hide_same _ g2)) r2)⟩⟩
def mkT (f : En → Rs (List PyData)) : En → Rs PyData := fun ρ => (f ρ).bind fun ds => if ds.length ≤ mx then .ok (.tuple ds) else .bad
def mkL (f : En → Rs (List PyData)) : En → Rs PyData := fun ρ => (f ρ).bind fun ds => if ds.length ≤ mx then .ok (.list ds) else .bad
theorem de_tup {es : List Expr} {k : Nat} {f : En → Rs (List PyData)} (h : DA X W es f) : DE X W (.Tuple es k pos) (mkT f) :=
  PE.imp (pe_tup h) fun σ H Q ⟨ρ, O, H0, s, q⟩ => ⟨ρ, O, H0, s, RKA.of q fun ds H1 vs g r1 q1 => by
    split at q1
    · rename_i hz
      have hz' : vs.length ≤ mx := by rw [r1.length]; exact hz
      exact ⟨by rw [← mx_line]; exact hz', fun p hp => q1.newT (s.grow g).there hp hz' r1⟩
    · exact q1.elim⟩

/-! ### new objects -/
def RKO (K : PySem.W.Frag) (mg : Str → Option Value) (W : WX) (O : List Addr) (σ : L2.St) (H : Hp) (Q : VK) : Rs PyData → Prop
  | .ok d => ∀ H' a, Gr H H' → H a = none → OwnR K (hide H' (a :: O)) H' a d → Q (.ref a) H'
  | .ex e => ∀ H' c dd, Gr H H' → ExR K mg (hide H' O) c dd e → W c dd σ H'
  | .bad => False
def tO (K : PySem.W.Frag) (mg : Str → Option Value) (W : WX) (f : En → Rs PyData) : TE := fun σ H Q => ∃ ρ O H0, SR K O H0 H σ ρ ∧ RKO K mg W (O ++ owned σ ρ) σ H Q (f ρ)
/-- the value is a new list (a new dict) -/
abbrev OE (X : Cx) (W : WX) (e : Expr) (f : En → Rs PyData) : Prop := PE X e (tO X.K X.mg W f)
theorem OwnR.rpH {K : PySem.W.Frag} {O : List Addr} {H : Hp} {a : Addr} {d : PyData} (h : OwnR K (hide H (a :: O)) H a d) (n : a ∉ O) : Rp K (hide H O) (.ref a) d := by
  have g : Gr (hide H (a :: O)) (hide H O) := hide_less fun b hb => List.mem_cons_of_mem _ hb
  have e : hide H O a = H a := hide_out n
  rcases h with ⟨xs, ds, rfl, h2, h3, h4⟩ | ⟨xs, ds, rfl, h2, h4⟩ | ⟨xs, ds, rfl, h2, h4⟩
  · exact .lst (.inl (e.trans h2)) h3 (h4.mono g)
  · exact .dK (.inl (e.trans h2)) (h4.mono g)
  · exact .dT (.inl (e.trans h2)) (h4.mono g)
theorem OE.de {f : En → Rs PyData} (h : OE X W a f) : DE X W a f := PE.imp h fun σ H Q ⟨ρ, O, H0, s, q⟩ => ⟨ρ, O, H0, s, by
  cases e : f ρ with
  | ok d =>
    rw [e] at q
    exact fun H' a g hn r => q H' _ g (r.rpH (s.fresh hn))
  | ex x => rw [e] at q; exact q
  | bad => rw [e] at q; exact q⟩
theorem RKA.ofO {K : PySem.W.Frag} {mg : Str → Option Value} {W : WX} {O : List Addr} {σ : L2.St} {H : Hp} {Q : VK} {Q' : List V → Hp → Prop} {r : Rs (List PyData)} {k : List PyData → Rs PyData} (h : RKO K mg W O σ H Q (r.bind k))
    (hk : ∀ d H1 v, Gr H H1 → RpAll K (hide H1 O) v d → RKO K mg W O σ H1 Q (k d) → Q' v H1) : RKA K mg W O σ H Q' r := by
  cases r with
  | ok ds =>
    intro H' v g rp
    refine hk ds H' v g rp ?_
    have h' : RKO K mg W O σ H Q (k ds) := h
    cases e : k ds with
    | ok d =>
      rw [e] at h'
      exact fun H2 a g2 hn => h' H2 a (g.trans g2) (by
        cases z : H a with
        | none => rfl
        | some o => rw [g a o z] at hn; cases hn)
    | ex x =>
      rw [e] at h'
      exact fun H2 c dd g2 => h' H2 c dd (g.trans g2)
    | bad =>
      rw [e] at h'
      exact h'
  | ex e => exact h
  | bad => exact h
theorem RKO.newL {K : PySem.W.Frag} {mg : Str → Option Value} {W : WX} {O : List Addr} {σ : L2.St} {H : Hp} {Q : VK} {ds : List PyData} {xs : List V} {p : Addr} (h : RKO K mg W O σ H Q (.ok (.list ds))) (hp : H p = none) (hl : xs.length ≤ mx) (r : RpAll K (hide H O) xs ds) : Q (.ref p) (upd H p (.lst xs)) := by
  refine h _ p (same_upd hp) hp (.inl ⟨xs, ds, rfl, upd_same, hl, r.mono fun a o e => ?_⟩)
  obtain ⟨n, e'⟩ := hide_some e
  have np : a ≠ p := ne_of_none e' hp
  rw [hide_out (by simp only [List.mem_cons, not_or]; exact ⟨np, n⟩), upd_ne np]
  exact e'
theorem oe_lst {es : List Expr} {f : En → Rs (List PyData)} (h : DA X W es f) : OE X W (.List es pos) (mkL f) :=
  PE.imp (pe_lst h) fun σ H Q ⟨ρ, O, H0, s, q⟩ => ⟨ρ, O, H0, s, RKA.ofO q fun ds H1 vs g r1 q1 => by
    split at q1
    · rename_i hz
      have hz' : vs.length ≤ mx := by rw [r1.length]; exact hz
      exact ⟨by rw [← mx_line]; exact hz', fun p hp => q1.newL hp hz' r1⟩
    · exact q1.elim⟩
end
end DL

namespace DL
open PySem PySem.Spec PyProof.Rows L2

/-! ### statements -/
inductive SRes where
  | nx (ρ : En)
  | ret (d : PyData)
  | brk (ρ : En)
  | ct (ρ : En)
  | ex (e : Exn) (ρ : En)
  | bad
def SK (K : PySem.W.Frag) (mg : Str → Option Value) (W : WX) (O : List Addr) (H0 : Hp) (D : Ends) : SRes → Prop
  | .nx ρ => ∀ σ H, SR K O H0 H σ ρ → D.nx σ H
  | .ret d => ∀ v H, Gr H0 H → Rp K (hide H O) v d → D.rt v H
  | .brk ρ => ∀ σ H, SR K O H0 H σ ρ → D.bk σ H
  | .ct ρ => ∀ σ H, SR K O H0 H σ ρ → D.ct σ H
  | .ex e ρ => ∀ c dd σ H, SR K O H0 H σ ρ → ExR K mg (hide H (O ++ owned σ ρ)) c dd e → W c dd σ H
  | .bad => False
def tS (K : PySem.W.Frag) (mg : Str → Option Value) (W : WX) (g : En → SRes) : TS := fun D σ H => ∃ ρ O H0, SR K O H0 H σ ρ ∧ SK K mg W O H0 D (g ρ)
abbrev DS (X : Cx) (W : WX) (st : Stmt) (g : En → SRes) : Prop := PS X st (tS X.K X.mg W g)
abbrev DSs (X : Cx) (W : WX) (st : List Stmt) (g : En → SRes) : Prop := PSs X st (tS X.K X.mg W g)
theorem PS.imp {X : Cx} {e : Stmt} {t t' : TS} (h : PS X e t) (i : ∀ D σ H, t' D σ H → t D σ H) : PS X e t' := ⟨fun pins s σ H D I q => h.run pins s σ H D I (i D σ H q)⟩
theorem PSs.imp {X : Cx} {e : List Stmt} {t t' : TS} (h : PSs X e t) (i : ∀ D σ H, t' D σ H → t D σ H) : PSs X e t' := ⟨fun pins s σ H D I q => h.run pins s σ H D I (i D σ H q)⟩
/-- an expression's result, then a statement's -/
def eS {α : Type} (ρ : En) (r : Rs α) (k : α → SRes) : SRes := match r with
  | .ok d => k d
  | .ex e => .ex e ρ
  | .bad => .bad
@[simp] theorem eS_ok {α : Type} (ρ : En) (d : α) (k : α → SRes) : eS ρ (.ok d) k = k d := Eq.trans rfl rfl
@[simp] theorem eS_ex {α : Type} (ρ : En) (e : Exn) (k : α → SRes) : eS ρ (.ex e : Rs α) k = .ex e ρ := Eq.trans rfl rfl
@[simp] theorem eS_bad {α : Type} (ρ : En) (k : α → SRes) : eS ρ (.bad : Rs α) k = .bad := Eq.trans rfl rfl
def sThen (r : SRes) (k : En → SRes) : SRes := match r with
  | .nx ρ => k ρ
  | r => r
@[simp] theorem then_nx (ρ : En) (k : En → SRes) : sThen (.nx ρ) k = k ρ := Eq.trans rfl rfl
@[simp] theorem then_ret (d : PyData) (k : En → SRes) : sThen (.ret d) k = .ret d := Eq.trans rfl rfl
@[simp] theorem then_brk (ρ : En) (k : En → SRes) : sThen (.brk ρ) k = .brk ρ := Eq.trans rfl rfl
@[simp] theorem then_ct (ρ : En) (k : En → SRes) : sThen (.ct ρ) k = .ct ρ := Eq.trans rfl rfl
@[simp] theorem then_ex (e : Exn) (ρ : En) (k : En → SRes) : sThen (.ex e ρ) k = .ex e ρ := Eq.trans rfl rfl
@[simp] theorem then_bad (k : En → SRes) : sThen .bad k = .bad := Eq.trans rfl rfl

section
variable {K : PySem.W.Frag} {mg : Str → Option Value} {W : WX} {O : List Addr} {H0 H : Hp} {σ : L2.St} {ρ : En} {D : Ends}
theorem SK.expr {r : Rs PyData} {k : PyData → SRes} {Q : VK} (s : SR K O H0 H σ ρ) (h : SK K mg W O H0 D (eS ρ r k)) (hk : ∀ d H1 v, SR K O H0 H1 σ ρ → Rp K (hide H1 (O ++ owned σ ρ)) v d → SK K mg W O H0 D (k d) → Q v H1) : RK K mg W (O ++ owned σ ρ) σ H Q r := by
  cases r with
  | ok d => exact fun H' v g rp => hk d H' v (s.grow g) rp h
  | ex e => exact fun H' c dd g x => h c dd σ H' (s.grow g) x
  | bad => exact h
theorem SK.exprB {r : Rs PyData} {k : PyData → SRes} {Q : VK} (s : SR K O H0 H σ ρ) (h : SK K mg W O H0 D (eS ρ r k)) (hk : ∀ d H1 v, SR K O H0 H1 σ ρ → RpB K (O ++ owned σ ρ) H1 v d → SK K mg W O H0 D (k d) → Q v H1) : RKB K mg W (O ++ owned σ ρ) σ H Q r := by
  cases r with
  | ok d => exact fun H' v g rp => hk d H' v (s.grow g) rp h
  | ex e => exact fun H' c dd g x => h c dd σ H' (s.grow g) x
  | bad => exact h
theorem SK.exprT {α : Type} {r : Rs α} {k : α → SRes} {Q : α → Hp → Prop} (s : SR K O H0 H σ ρ) (h : SK K mg W O H0 D (eS ρ r k)) (hk : ∀ d H1, SR K O H0 H1 σ ρ → SK K mg W O H0 D (k d) → Q d H1) : RKT K mg W (O ++ owned σ ρ) σ H Q r := by
  cases r with
  | ok d => exact fun H' g => hk d H' (s.grow g) h
  | ex e => exact fun H' c dd g x => h c dd σ H' (s.grow g) x
  | bad => exact h
theorem SK.exprO {r : Rs PyData} {k : PyData → SRes} {Q : VK} (s : SR K O H0 H σ ρ) (h : SK K mg W O H0 D (eS ρ r k)) (hk : ∀ d H1 a, Gr H H1 → SR K O H0 H1 σ ρ → H a = none → OwnR K (hide H1 (a :: (O ++ owned σ ρ))) H1 a d → SK K mg W O H0 D (k d) → Q (.ref a) H1) : RKO K mg W (O ++ owned σ ρ) σ H Q r := by
  cases r with
  | ok d => exact fun H' a g hn rp => hk d H' a g (s.grow g) hn rp h
  | ex e => exact fun H' c dd g x => h c dd σ H' (s.grow g) x
  | bad => exact h

/-! ### slots are set -/
theorem owned_set {σ : L2.St} {ρ : En} {i : Nat} {x : Option V} {y : Option SV} {a : Addr} (h : a ∈ owned (σ.set i x) (ρ.set i y)) : a ∈ owned σ ρ ∨ own1 x y = some a := by
  induction σ generalizing ρ i with
  | nil => simp [owned] at h
  | cons u σ ih =>
    cases ρ with
    | nil => simp [owned] at h
    | cons w ρ =>
      cases i with
      | zero =>
        rw [List.set_cons_zero, List.set_cons_zero] at h
        unfold owned at h ⊢
        split at h
        · rename_i b hb
          rcases List.mem_cons.mp h with e | e
          · subst e; exact .inr hb
          · left
            split
            · exact List.mem_cons_of_mem _ e
            · exact e
        · left
          split
          · exact List.mem_cons_of_mem _ h
          · exact h
      | succ i =>
        rw [List.set_cons_succ, List.set_cons_succ] at h
        unfold owned at h ⊢
        split at h
        · rename_i b hb
          rcases List.mem_cons.mp h with e | e
          · subst e; exact .inl List.mem_cons_self
          · rcases ih e with q | q
            · exact .inl (List.mem_cons_of_mem _ q)
            · exact .inr q
        · exact ih h
theorem owned_nd {σ : L2.St} {ρ : En} {i : Nat} {x : Option V} {y : Option SV} (nd : (owned σ ρ).Nodup) (hx : ∀ a, own1 x y = some a → a ∉ owned (σ.set i none) (ρ.set i none)) : (owned (σ.set i x) (ρ.set i y)).Nodup := by
  induction σ generalizing ρ i with
  | nil => simp [owned]
  | cons u σ ih =>
    cases ρ with
    | nil => simp [owned]
    | cons w ρ =>
      have tl : (owned σ ρ).Nodup := by
        unfold owned at nd
        split at nd
        · exact (List.nodup_cons.mp nd).2
        · exact nd
      cases i with
      | zero =>
        rw [List.set_cons_zero, List.set_cons_zero]
        rw [List.set_cons_zero, List.set_cons_zero] at hx
        unfold owned
        split
        · rename_i b hb
          refine List.nodup_cons.mpr ⟨fun z => hx b hb ?_, tl⟩
          show b ∈ owned (none :: σ) (none :: ρ)
          unfold owned own1
          exact z
        · exact tl
      | succ i =>
        rw [List.set_cons_succ, List.set_cons_succ]
        rw [List.set_cons_succ, List.set_cons_succ] at hx
        have hx' : ∀ a, own1 x y = some a → a ∉ owned (σ.set i none) (ρ.set i none) := fun a e z => hx a e (by
          unfold owned
          split
          · exact List.mem_cons_of_mem _ z
          · exact z)
        have r := ih tl hx'
        unfold owned
        split
        · rename_i b hb
          refine List.nodup_cons.mpr ⟨fun z => ?_, r⟩
          rcases owned_set z with q | q
          · unfold owned at nd
            rw [hb] at nd
            exact (List.nodup_cons.mp nd).1 q
          · refine hx b q ?_
            unfold owned
            rw [hb]
            exact List.mem_cons_self
        · exact r
theorem SlotsR.set {G : Hp} (h : SlotsR K G H σ ρ) {i : Nat} {x : Option V} {y : Option SV} (hy : SlotR K G H x y) : SlotsR K G H (σ.set i x) (ρ.set i y) := by
  induction h generalizing i with
  | nil => exact .nil
  | cons h1 h2 ih =>
    cases i with
    | zero => exact .cons hy h2
    | succ i => exact .cons h1 ih
theorem owned_set_sub {i : Nat} {x : Option V} {y : Option SV} (hn : own1 x y = none) : ∀ a ∈ owned (σ.set i x) (ρ.set i y), a ∈ owned σ ρ := fun a h => by
  rcases owned_set h with q | q
  · exact q
  · rw [hn] at q; cases q
/-- a slot takes data -/
theorem SR.setV (s : SR K O H0 H σ ρ) {i : Nat} {v : V} {d : PyData} (r : Rp K (hide H (O ++ owned σ ρ)) v d) : SR K O H0 H (σ.set i (some v)) (ρ.set i (some (.val d))) := by
  have sub := owned_set_sub (σ := σ) (ρ := ρ) (i := i) (x := some v) (y := some (.val d)) (by cases v <;> rfl)
  have g : Gr (hide H (O ++ owned σ ρ)) (hide H (O ++ owned (σ.set i (some v)) (ρ.set i (some (.val d))))) := hide_less fun a ha => by
    rcases List.mem_append.mp ha with h | h
    · exact List.mem_append_left _ h
    · exact List.mem_append_right _ (sub a h)
  refine ⟨s.same, fun a h => s.new a (sub a h), owned_nd s.nd (fun a e => by cases v <;> cases e), s.old, (s.slots.set (x := some v) (y := some (.val d)) (show SlotR K _ H (some v) (some (.val d)) from ⟨v, rfl, r⟩)).mono g fun _ _ _ e => e⟩
/-- a slot is forgotten -/
theorem SR.setN (s : SR K O H0 H σ ρ) {i : Nat} {x : Option V} : SR K O H0 H (σ.set i x) (ρ.set i none) := by
  have hn : own1 x (none : Option SV) = none := by cases x with | none => rfl | some v => cases v <;> rfl
  have sub := owned_set_sub (σ := σ) (ρ := ρ) (i := i) (x := x) (y := none) hn
  have g : Gr (hide H (O ++ owned σ ρ)) (hide H (O ++ owned (σ.set i x) (ρ.set i none))) := hide_less fun a ha => by
    rcases List.mem_append.mp ha with h | h
    · exact List.mem_append_left _ h
    · exact List.mem_append_right _ (sub a h)
  exact ⟨s.same, fun a h => s.new a (sub a h), owned_nd s.nd (fun a e => by rw [hn] at e; cases e), s.old, (s.slots.set (x := x) (y := none) trivial).mono g fun _ _ _ e => e⟩
/-- a slot takes a new object -/
theorem SR.setO {H1 : Hp} (s : SR K O H0 H σ ρ) (g : Gr H H1) {i : Nat} {a : Addr} {d : PyData} (hn : H a = none) (r : OwnR K (hide H1 (a :: (O ++ owned σ ρ))) H1 a d) : SR K O H0 H1 (σ.set i (some (.ref a))) (ρ.set i (some (.own d))) := by
  have na := s.fresh hn
  have nO : a ∉ owned σ ρ := fun z => na (List.mem_append_right _ z)
  have n0 : H0 a = none := by
    cases e : H0 a with
    | none => rfl
    | some o => rw [s.same a o e] at hn; cases hn
  have sub : ∀ b ∈ O ++ owned (σ.set i (some (.ref a))) (ρ.set i (some (.own d))), b ∈ a :: (O ++ owned σ ρ) := fun b hb => by
    rcases List.mem_append.mp hb with h | h
    · exact List.mem_cons_of_mem _ (List.mem_append_left _ h)
    · rcases owned_set h with q | q
      · exact List.mem_cons_of_mem _ (List.mem_append_right _ q)
      · cases q; exact List.mem_cons_self
  have g2 : Gr (hide H (O ++ owned σ ρ)) (hide H1 (a :: (O ++ owned σ ρ))) := fun b o e => by
    obtain ⟨nb, e'⟩ := hide_some e
    have ne : b ≠ a := ne_of_none e' hn
    rw [hide_out (by simp only [List.mem_cons, not_or]; exact ⟨ne, nb⟩)]
    exact g b o e'
  refine ⟨s.same.trans g, fun b hb => ?_, owned_nd s.nd (fun b e => by
    cases e
    intro z
    rcases owned_set z with q | q
    · exact nO q
    · cases q), s.old, ?_⟩
  · rcases owned_set hb with q | q
    · exact s.new b q
    · cases q; exact n0
  · have base : SlotsR K (hide H1 (a :: (O ++ owned σ ρ))) H1 σ ρ := s.slots.mono g2 fun b _ o e => g b o e
    exact (base.set (i := i) (x := some (.ref a)) (y := some (.own d)) (show SlotR K _ H1 (some (.ref a)) (some (.own d)) from ⟨a, rfl, r⟩)).mono (hide_less sub) fun _ _ _ e => e
/-- an own object is changed -/
theorem hide_upd {H : Hp} {O : List Addr} {a : Addr} {o : HO} (h : a ∈ O) : hide (upd H a o) O = hide H O := by
  funext b
  by_cases q : b ∈ O
  · rw [hide_in q, hide_in q]
  · rw [hide_out q, hide_out q, upd_ne fun e => q (by rw [e]; exact h)]
theorem owned_mem {i : Nat} {a : Addr} {d : PyData} (h1 : σ[i]? = some (some (.ref a))) (h2 : ρ[i]? = some (some (.own d))) : a ∈ owned σ ρ := by
  induction σ generalizing ρ i with
  | nil => simp at h1
  | cons u σ ih =>
    cases ρ with
    | nil => simp at h2
    | cons w ρ =>
      unfold owned
      cases i with
      | zero =>
        simp at h1 h2
        subst h1
        subst h2
        exact List.mem_cons_self
      | succ i =>
        have q := ih (ρ := ρ) (i := i) (by simpa using h1) (by simpa using h2)
        split
        · exact List.mem_cons_of_mem _ q
        · exact q
theorem owned_same {i : Nat} {a : Addr} {d d' : PyData} (h1 : σ[i]? = some (some (.ref a))) (h2 : ρ[i]? = some (some (.own d))) : owned σ (ρ.set i (some (.own d'))) = owned σ ρ := by
  induction σ generalizing ρ i with
  | nil => simp at h1
  | cons u σ ih =>
    cases ρ with
    | nil => simp at h2
    | cons w ρ =>
      cases i with
      | zero =>
        simp at h1 h2
        subst h1
        subst h2
        rfl
      | succ i =>
        rw [List.set_cons_succ]
        unfold owned
        rw [ih (ρ := ρ) (i := i) (by simpa using h1) (by simpa using h2)]
/-- the slots but one -/
theorem SlotsR.change {G : Hp} {H' : Hp} (h : SlotsR K G H σ ρ) (nd : (owned σ ρ).Nodup) {i : Nat} {a : Addr} {d d' : PyData} (h1 : σ[i]? = some (some (.ref a))) (h2 : ρ[i]? = some (some (.own d)))
    (e : ∀ b o, b ≠ a → H b = some o → H' b = some o) (r : OwnR K G H' a d') : SlotsR K G H' σ (ρ.set i (some (.own d'))) := by
  induction h generalizing i with
  | nil => exact .nil
  | @cons x y σ ρ k1 k2 ih =>
    cases i with
    | zero =>
      simp at h1 h2
      subst h1
      subst h2
      have nd' : a ∉ owned σ ρ ∧ (owned σ ρ).Nodup := List.nodup_cons.mp nd
      exact .cons ⟨a, rfl, r⟩ (k2.mono (Gr.refl _) fun b hb o q => e b o (fun z => nd'.1 (by rw [← z]; exact hb)) q)
    | succ i =>
      have h1' : σ[i]? = some (some (.ref a)) := by simpa using h1
      have h2' : ρ[i]? = some (some (.own d)) := by simpa using h2
      have ma := owned_mem h1' h2'
      have nd2 : (owned σ ρ).Nodup := by
        unfold owned at nd
        split at nd
        · exact (List.nodup_cons.mp nd).2
        · exact nd
      refine .cons ?_ (ih nd2 h1' h2')
      cases y with
      | none => trivial
      | some sv =>
        cases sv with
        | val d => exact k1
        | own d2 =>
          obtain ⟨b, e1, r1⟩ := k1
          subst e1
          refine ⟨b, rfl, r1.mono (Gr.refl _) fun o q => e b o (fun z => ?_) q⟩
          have nd3 : (b :: owned σ ρ).Nodup := nd
          exact (List.nodup_cons.mp nd3).1 (by rw [z]; exact ma)
theorem SR.change (s : SR K O H0 H σ ρ) {i : Nat} {a : Addr} {d d' : PyData} {o : HO} (h1 : σ[i]? = some (some (.ref a))) (h2 : ρ[i]? = some (some (.own d))) (r : OwnR K (hide H (O ++ owned σ ρ)) (upd H a o) a d') :
    SR K O H0 (upd H a o) σ (ρ.set i (some (.own d'))) := by
  have ma := owned_mem h1 h2
  have eo := owned_same (d' := d') h1 h2
  refine ⟨fun b u e => ?_, by rw [eo]; exact s.new, by rw [eo]; exact s.nd, s.old, ?_⟩
  · rw [upd_ne fun z => by rw [z, s.new a ma] at e; cases e]
    exact s.same b u e
  · rw [eo, hide_upd (List.mem_append_right _ ma)]
    exact s.slots.change s.nd h1 h2 (fun b u n e => by rw [upd_ne n]; exact e) r
/-- an own object becomes data -/
def frz (i : Nat) (ρ : En) : En := match ρ[i]? with
  | some (some (.own d)) => ρ.set i (some (.val d))
  | _ => ρ
theorem set_self {σ : L2.St} {i : Nat} {x : Option V} (h : σ[i]? = some x) : σ.set i x = σ := by
  apply List.ext_getElem?
  intro j
  by_cases e : i = j
  · subst e
    have hl : i < σ.length := (List.getElem?_eq_some_iff.mp h).1
    rw [List.getElem?_set_self hl, h]
  · rw [List.getElem?_set_ne e]
theorem owned_not {i : Nat} {a : Addr} {d d' : PyData} (nd : (owned σ ρ).Nodup) (h1 : σ[i]? = some (some (.ref a))) (h2 : ρ[i]? = some (some (.own d))) : a ∉ owned σ (ρ.set i (some (.val d'))) := by
  induction σ generalizing ρ i with
  | nil => simp at h1
  | cons u σ ih =>
    cases ρ with
    | nil => simp at h2
    | cons w ρ =>
      cases i with
      | zero =>
        simp at h1 h2
        subst h1
        subst h2
        exact (List.nodup_cons.mp nd).1
      | succ i =>
        rw [List.set_cons_succ]
        have h1' : σ[i]? = some (some (.ref a)) := by simpa using h1
        have h2' : ρ[i]? = some (some (.own d)) := by simpa using h2
        have nd2 : (owned σ ρ).Nodup := by
          unfold owned at nd
          split at nd
          · exact (List.nodup_cons.mp nd).2
          · exact nd
        have q := ih nd2 h1' h2'
        unfold owned
        split
        · rename_i b hb
          intro z
          rcases List.mem_cons.mp z with e | e
          · subst e
            unfold owned at nd
            rw [hb] at nd
            exact (List.nodup_cons.mp nd).1 (owned_mem h1' h2')
          · exact q e
        · exact q
theorem SR.frz (s : SR K O H0 H σ ρ) (i : Nat) : SR K O H0 H σ (frz i ρ) := by
  unfold DL.frz
  split
  · rename_i d e
    obtain ⟨x, e1, a, e2, r⟩ := s.slots.get e
    subst e2
    have sub : ∀ b ∈ owned σ (ρ.set i (some (.val d))), b ∈ owned σ ρ := by
      have := owned_set_sub (σ := σ) (ρ := ρ) (i := i) (x := some (.ref a)) (y := some (.val d)) rfl
      rw [set_self e1] at this
      exact this
    have nd' : (owned σ (ρ.set i (some (.val d)))).Nodup := by
      have := owned_nd (σ := σ) (ρ := ρ) (i := i) (x := some (.ref a)) (y := some (.val d)) s.nd (fun a e => by cases e)
      rw [set_self e1] at this
      exact this
    have g : Gr (hide H (O ++ owned σ ρ)) (hide H (O ++ owned σ (ρ.set i (some (.val d))))) := hide_less fun b hb => by
      rcases List.mem_append.mp hb with h | h
      · exact List.mem_append_left _ h
      · exact List.mem_append_right _ (sub b h)
    have ma := owned_mem e1 e
    have naO : a ∉ O := fun z => s.old a z (s.new a ma)
    have nn : a ∉ O ++ owned σ (ρ.set i (some (.val d))) := fun z => by
      rcases List.mem_append.mp z with h | h
      · exact naO h
      · exact owned_not s.nd e1 e h
    have rp : Rp K (hide H (O ++ owned σ (ρ.set i (some (.val d))))) (.ref a) d := by
      rcases r with ⟨xs, ds, rfl, h2, h3, h4⟩ | ⟨xs, ds, rfl, h2, h4⟩ | ⟨xs, ds, rfl, h2, h4⟩
      · exact .lst (.inl (by rw [hide_out nn]; exact h2)) h3 (h4.mono g)
      · exact .dK (.inl (by rw [hide_out nn]; exact h2)) (h4.mono g)
      · exact .dT (.inl (by rw [hide_out nn]; exact h2)) (h4.mono g)
    refine ⟨s.same, fun b hb => s.new b (sub b hb), nd', s.old, ?_⟩
    have q := (s.slots.mono g fun _ _ _ e => e).set (i := i) (x := some (.ref a)) (y := some (.val d)) (show SlotR K _ H (some (.ref a)) (some (.val d)) from ⟨_, rfl, rp⟩)
    rw [set_self e1] at q
    exact q
  · exact s
end
end DL

namespace DL
open PySem PySem.Spec PyProof.Rows L2

section
variable {X : Cx} {W : WX} {a b c e : Expr} {fa fb fc f : En → Rs PyData} {pos : Pos} {st : Stmt} {rest : List Stmt} {g g2 : En → SRes}
/-! ### blocks -/
def sNil : En → SRes := fun ρ => .nx ρ
def sSeq (g1 g2 : En → SRes) : En → SRes := fun ρ => sThen (g1 ρ) g2
theorem dss_nil : DSs X W [] sNil := PSs.imp pss_nil fun D σ H ⟨ρ, O, H0, s, q⟩ => q σ H s
theorem SK.seq {K : PySem.W.Frag} {mg : Str → Option Value} {W : WX} {O : List Addr} {H0 : Hp} {D : Ends} {r : SRes} {k : En → SRes} (h : SK K mg W O H0 D (sThen r k)) : SK K mg W O H0 { D with nx := tS K mg W k D } r := by
  cases r with
  | nx ρ => exact fun σ H s => ⟨ρ, O, H0, s, h⟩
  | ret d => exact h
  | brk ρ => exact h
  | ct ρ => exact h
  | ex e ρ => exact h
  | bad => exact h
theorem dss_cons (h1 : DS X W st g) (h2 : DSs X W rest g2) : DSs X W (st :: rest) (sSeq g g2) :=
  PSs.imp (pss_cons h1 h2) fun D σ H ⟨ρ, O, H0, s, q⟩ => ⟨ρ, O, H0, s, q.seq⟩
theorem dss_one (h1 : DS X W st g) : DSs X W [st] g := pss_one h1
def sFrz (i : Nat) (g : En → SRes) : En → SRes := fun ρ => g (frz i ρ)
theorem dss_frz (i : Nat) {sts : List Stmt} (h : DSs X W sts g) : DSs X W sts (sFrz i g) := PSs.imp h fun D σ H ⟨ρ, O, H0, s, q⟩ => ⟨frz i ρ, O, H0, s.frz i, q⟩
theorem ds_frz (i : Nat) (h : DS X W st g) : DS X W st (sFrz i g) := PS.imp h fun D σ H ⟨ρ, O, H0, s, q⟩ => ⟨frz i ρ, O, H0, s.frz i, q⟩
def sBrk : En → SRes := fun ρ => .brk ρ
def sCt : En → SRes := fun ρ => .ct ρ
theorem ds_pass : DS X W (.Pass pos) sNil := PS.imp ps_pass fun D σ H ⟨ρ, O, H0, s, q⟩ => q σ H s
theorem ds_break : DS X W (.Break pos) sBrk := PS.imp ps_break fun D σ H ⟨ρ, O, H0, s, q⟩ => q σ H s
theorem ds_continue : DS X W (.Continue pos) sCt := PS.imp ps_continue fun D σ H ⟨ρ, O, H0, s, q⟩ => q σ H s
def sNever : En → SRes := fun _ => .bad
theorem ds_never : DS X W st sNever := PS.imp ps_never fun D σ H ⟨ρ, O, H0, s, q⟩ => q
theorem dss_never {sts : List Stmt} : DSs X W sts sNever := PSs.imp pss_never fun D σ H ⟨ρ, O, H0, s, q⟩ => q
/-! ### return, expressions, stores -/
def sRet (f : En → Rs PyData) : En → SRes := fun ρ => eS ρ (f ρ) .ret
theorem RpH {K : PySem.W.Frag} {O : List Addr} {σ : L2.St} {ρ : En} {H : Hp} {v : V} {d : PyData} (h : Rp K (hide H (O ++ owned σ ρ)) v d) : Rp K (hide H O) v d := h.mono (hide_less fun a ha => List.mem_append_left _ ha)
theorem ds_ret (h : DE X W e f) : DS X W (.Return (some e) pos) (sRet f) := PS.imp (ps_ret h) fun D σ H ⟨ρ, O, H0, s, q⟩ => ⟨ρ, O, H0, s, SK.expr s q fun d H1 v s1 r1 q1 => q1 v H1 s1.same (RpH r1)⟩
def sRetN : En → SRes := fun _ => .ret .none
theorem ds_retN : DS X W (.Return none pos) sRetN := PS.imp ps_retN fun D σ H ⟨ρ, O, H0, s, q⟩ => q .non H s.same .non
def sDrop (f : En → Rs PyData) : En → SRes := fun ρ => eS ρ (f ρ) fun _ => .nx ρ
theorem ds_expr (h : DE X W e f) (hs : swapsWith e none pos.line X.env = pure false := by rfl) : DS X W (.Expr e pos) (sDrop f) := PS.imp (ps_expr h hs) fun D σ H ⟨ρ, O, H0, s, q⟩ => ⟨ρ, O, H0, s, SK.expr s q fun d H1 v s1 r1 q1 => q1 σ H1 s1⟩
def sSet (i : Nat) (f : En → Rs PyData) : En → SRes := fun ρ => eS ρ (f ρ) fun d => .nx (ρ.set i (some (.val d)))
theorem ds_set (i : Nat) {x : Str} {pos' : Pos} (hN : X.N.Nodup) (he : DE X W e f) (hi : X.N[i]? = some x := by rfl) (hx : Loc X.env.scope x := by first | exact .inl rfl | exact .inr rfl) (hs : swapsWith e (some (.Name x pos')) pos.line X.env = pure false := by rfl) (hf : X.fn x = true ∨ X.env.scope.names.lookup x = some .local := by exact .inl rfl) :
    DS X W (.Assign [.Name x pos'] e pos) (sSet i f) := PS.imp (ps_set hN hi hx he hs hf) fun D σ H ⟨ρ, O, H0, s, q⟩ => ⟨ρ, O, H0, s, SK.expr s q fun d H1 v s1 r1 q1 => q1 _ H1 (s1.setV r1)⟩
def sSetO (i : Nat) (f : En → Rs PyData) : En → SRes := fun ρ => eS ρ (f ρ) fun d => .nx (ρ.set i (some (.own d)))
theorem ds_setO (i : Nat) {x : Str} {pos' : Pos} (hN : X.N.Nodup) (he : OE X W e f) (hi : X.N[i]? = some x := by rfl) (hx : Loc X.env.scope x := by first | exact .inl rfl | exact .inr rfl) (hs : swapsWith e (some (.Name x pos')) pos.line X.env = pure false := by rfl) (hf : X.fn x = true ∨ X.env.scope.names.lookup x = some .local := by exact .inl rfl) :
    DS X W (.Assign [.Name x pos'] e pos) (sSetO i f) := PS.imp (ps_set hN hi hx he hs hf) fun D σ H ⟨ρ, O, H0, s, q⟩ => ⟨ρ, O, H0, s, SK.exprO s q fun d H1 a g s1 hn r1 q1 => q1 _ H1 (s.setO g hn r1)⟩
/-! ### if -/
def sIf (t : En → Rs Bool) (g1 g2 : En → SRes) : En → SRes := fun ρ => eS ρ (t ρ) fun c => if c then g1 ρ else g2 ρ
theorem ds_if {t : En → Rs Bool} {A B : List Stmt} {ga gb : En → SRes} (hc : DT X W c t) (ha : DSs X W A ga) (hb : DSs X W B gb) : DS X W (.If c A B pos) (sIf t ga gb) :=
  PS.imp (ps_if hc ha hb) fun D σ H ⟨ρ, O, H0, s, q⟩ => ⟨ρ, O, H0, s, SK.exprT s q fun k H1 s1 q1 => by
    cases k with
    | true => exact ⟨ρ, O, H0, s1, q1⟩
    | false => exact ⟨ρ, O, H0, s1, q1⟩⟩
/-! ### while, by fuel -/
def whileS (t : En → Rs Bool) (body : En → SRes) : Nat → En → SRes
  | 0, _ => .bad
  | n + 1, ρ => eS ρ (t ρ) fun c => if c then (match body ρ with
      | .nx ρ' => whileS t body n ρ'
      | .ct ρ' => whileS t body n ρ'
      | .brk ρ' => .nx ρ'
      | r => r) else .nx ρ
def sWhile (fuel : En → Nat) (t : En → Rs Bool) (body : En → SRes) : En → SRes := fun ρ => whileS t body (fuel ρ) ρ
theorem ds_while (fuel : En → Nat) {t : En → Rs Bool} {B : List Stmt} {gb : En → SRes} (hp : PassesOwn (model X.prog X.w) X.A X.env X.xe) (hc : DT X W c t) (hb : DSs X W B gb) : DS X W (.While c B [] pos) (sWhile fuel t gb) :=
  PS.imp (ps_while hp hc hb) fun D σ H ⟨ρ, O, H0, s, q⟩ => by
    refine ⟨fun m σ H => ∃ ρ, SR X.K O H0 H σ ρ ∧ SK X.K X.mg W O H0 D (whileS t gb m ρ), ⟨fuel ρ, ρ, s, q⟩, ?_⟩
    rintro m σ1 H1 ⟨ρ1, s1, q1⟩
    cases m with
    | zero => exact q1.elim
    | succ m =>
      refine ⟨ρ1, O, H0, s1, SK.exprT s1 q1 fun k H2 s2 q2 => ?_⟩
      cases k with
      | false => exact q2 σ1 H2 s2
      | true =>
        refine ⟨fun σ' H' => ∃ ρ', SR X.K O H0 H' σ' ρ' ∧ SK X.K X.mg W O H0 D (whileS t gb m ρ'), fun σ' H' h => ⟨m, Nat.lt_succ_self m, h⟩, ρ1, O, H0, s2, ?_⟩
        rw [if_pos rfl] at q2
        cases e : gb ρ1 with
        | nx ρ' => rw [e] at q2; exact fun σ' H' s' => ⟨ρ', s', q2⟩
        | ct ρ' => rw [e] at q2; exact fun σ' H' s' => ⟨ρ', s', q2⟩
        | brk ρ' => rw [e] at q2; exact q2
        | ret d => rw [e] at q2; exact q2
        | ex x ρ' => rw [e] at q2; exact q2
        | bad => rw [e] at q2; exact q2
/-! ### targets -/
/-- what a target does to the slots -/
abbrev TgD := PyData → En → Rs En
/-- σ' is σ but at is -/
def But (is : List Nat) (σ σ' : L2.St) : Prop := σ'.length = σ.length ∧ ∀ j, j ∉ is → σ'[j]? = σ[j]?
theorem But.refl (is : List Nat) (σ : L2.St) : But is σ σ := ⟨rfl, fun _ _ => rfl⟩
theorem But.set (i : Nat) (σ : L2.St) (v : Option V) : But [i] σ (σ.set i v) := ⟨by simp, fun j hj => by rw [List.getElem?_set_ne (by intro e; apply hj; simp [e])]⟩
theorem But.trans {i : Nat} {is : List Nat} {σ σ1 σ2 : L2.St} (a : But [i] σ σ1) (b : But is σ1 σ2) : But (i :: is) σ σ2 :=
  ⟨b.1.trans a.1, fun j hj => (b.2 j fun z => hj (List.mem_cons_of_mem _ z)).trans (a.2 j fun z => hj (by simp at z; simp [z]))⟩
def tG (K : PySem.W.Frag) (is : List Nat) (τ : TgD) : TG := fun v σ H Q => ∃ ρ O H0 d, SR K O H0 H σ ρ ∧ Rp K (hide H (O ++ owned σ ρ)) v d ∧ (match τ d ρ with
  | .ok ρ' => ∀ σ', SR K O H0 H σ' ρ' → But is σ σ' → Q σ' H
  | _ => False)
abbrev DG (X : Cx) (tg : Expr) (is : List Nat) (τ : TgD) : Prop := PG X tg (tG X.K is τ)
theorem PG.imp {X : Cx} {e : Expr} {t t' : TG} (h : PG X e t) (i : ∀ v σ H Q, t' v σ H Q → t v σ H Q) : PG X e t' := ⟨fun pins s σ H v u Q I r q => h.run pins s σ H v u Q I r (i v σ H Q q)⟩
def τName (i : Nat) : TgD := fun d ρ => .ok (ρ.set i (some (.val d)))
theorem dg_name (i : Nat) {x : Str} (hN : X.N.Nodup) (hi : X.N[i]? = some x := by rfl) (hx : Loc X.env.scope x := by first | exact .inl rfl | exact .inr rfl) (hf : X.fn x = true ∨ X.env.scope.names.lookup x = some .local := by first | exact .inl rfl | exact .inr rfl) : DG X (.Name x pos) [i] (τName i) :=
  PG.imp (pg_name hN hi hx hf) fun v σ H Q ⟨ρ, O, H0, d, s, r, q⟩ => q _ (s.setV r) (But.set i σ _)
abbrev TgDs := List PyData → En → Rs En
def tGs (K : PySem.W.Frag) (is : List Nat) (τ : TgDs) : TGs := fun vs σ H Q => ∃ ρ O H0 ds, SR K O H0 H σ ρ ∧ RpAll K (hide H (O ++ owned σ ρ)) vs ds ∧ (match τ ds ρ with
  | .ok ρ' => ∀ σ', SR K O H0 H σ' ρ' → But is σ σ' → Q σ' H
  | _ => False)
theorem PGs.imp {X : Cx} {e : List Expr} {t t' : TGs} (h : PGs X e t) (i : ∀ v σ H Q, t' v σ H Q → t v σ H Q) : PGs X e t' := ⟨fun pins s σ H v u Q I r q => h.run pins s σ H v u Q I r (i v σ H Q q)⟩
/-- names, one for each item -/
def τNames : List Nat → TgDs
  | [], [], ρ => .ok ρ
  | i :: is, d :: ds, ρ => τNames is ds (ρ.set i (some (.val d)))
  | _, _, _ => .bad
theorem dgs_nil : PGs X [] (tGs X.K [] (τNames [])) := PGs.imp pgs_nil fun vs σ H Q ⟨ρ, O, H0, ds, s, r, q⟩ => by
  cases ds with
  | nil =>
    cases r
    exact ⟨rfl, q σ s (But.refl _ _)⟩
  | cons d ds => exact q.elim
theorem dgs_cons (i : Nat) {is : List Nat} {x : Str} {p : Pos} {es : List Expr} (hN : X.N.Nodup) (h2 : PGs X es (tGs X.K is (τNames is))) (hi : X.N[i]? = some x := by rfl) (hx : Loc X.env.scope x := by first | exact .inl rfl | exact .inr rfl) (hf : X.fn x = true ∨ X.env.scope.names.lookup x = some .local := by first | exact .inl rfl | exact .inr rfl)
    (hs : (assignEach (.Name x p :: es) X.env).map (·.2) = assign (.Name x p) X.env :: (assignEach es X.env).map (·.2) := by rfl) : PGs X (.Name x p :: es) (tGs X.K (i :: is) (τNames (i :: is))) :=
  PGs.imp (pgs_cons (pg_name hN hi hx hf) h2 hs) fun vs σ H Q ⟨ρ, O, H0, ds, s, r, q⟩ => by
    cases ds with
    | nil => exact q.elim
    | cons d ds =>
      cases r with
      | @cons v vs _ _ r1 r2 =>
        have s' := s.setV (i := i) r1
        refine ⟨v, vs, rfl, _, O, H0, ds, s', r2.mono (hide_less fun a ha => ?_), ?_⟩
        · rcases List.mem_append.mp ha with h | h
          · exact List.mem_append_left _ h
          · exact List.mem_append_right _ (owned_set_sub (i := i) (x := some v) (y := some (.val d)) (by cases v <;> rfl) a h)
        · have q' : (match τNames is ds (ρ.set i (some (.val d))) with
            | .ok ρ' => ∀ σ', SR X.K O H0 H σ' ρ' → But (i :: is) σ σ' → Q σ' H
            | _ => False) := q
          split
          · rename_i ρ' e
            rw [e] at q'
            exact fun σ' s2 b => q' σ' s2 ((But.set i σ _).trans b)
          · rename_i hn
            split at q'
            · rename_i ρ' e
              exact hn _ e
            · exact q'
def τTup (is : List Nat) : TgD := fun d ρ => match d with
  | .tuple ds => if ds.length = is.length then τNames is ds ρ else .bad
  | _ => .bad
theorem dg_tup {es : List Expr} {is : List Nat} {k : Nat} (hc : X.calm = true) (h : PGs X es (tGs X.K is (τNames is))) (hn : (assignEach es X.env).length = is.length := by rfl) (hst : (assignEach es X.env).findIdx? (·.1) = none := by rfl) : DG X (.Tuple es k pos) is (τTup is) :=
  PG.imp (pg_tup hc h hn hst) fun v σ H Q ⟨ρ, O, H0, d, s, r, q⟩ => by
    unfold τTup at q
    cases d with
    | tuple ds =>
      cases r with
      | tup hs hl ra =>
        dsimp only at q
        split at q
        · rename_i ρ' e
          split at e
          · rename_i hl2
            exact ⟨_, _, rfl, Gr.seqT hide_sub hs, by rw [ra.length]; exact hl2, ρ, O, H0, ds, s, ra, by rw [e]; exact q⟩
          · cases e
        · exact q.elim
    | _ => exact q.elim
def sAsg (f : En → Rs PyData) (τ : TgD) : En → SRes := fun ρ => eS ρ (f ρ) fun d => match τ d ρ with
  | .ok ρ' => .nx ρ'
  | _ => .bad
theorem ds_asg {tg : Expr} {is : List Nat} {τ : TgD} (he : DE X W e f) (hg : DG X tg is τ) (hs : swapsWithSole [tg] e pos.line X.env = pure false := by rfl) (hw : swappedStores [tg] e X.env = pure none := by rfl)
    (h1 : (assignEach [tg] X.env).map (·.2) = [assign tg X.env] := by rfl) : DS X W (.Assign [tg] e pos) (sAsg f τ) :=
  PS.imp (ps_asg he hg hs hw h1) fun D σ H ⟨ρ, O, H0, s, q⟩ => ⟨ρ, O, H0, s, SK.expr s q fun d H1 v s1 r1 q1 => ⟨ρ, O, H0, d, s1, r1, by
    cases e : τ d ρ with
    | ok ρ' => rw [e] at q1; exact fun σ' s' _ => q1 σ' H1 s'
    | ex x => rw [e] at q1; exact q1
    | bad => rw [e] at q1; exact q1⟩⟩

/-! ### what is walked -/
/-- while the heap keeps G, the iterator gives values that stand for ds over P -/
def Wk (K : PySem.W.Frag) (G P : Hp) (J : It) (ds : List PyData) : Prop := ∀ H1, Gr G H1 → ∀ i, (∀ d, ds[i]? = some d → J.go i H1 ∧ ∀ x H2, J.yld i H1 x H2 → H2 = H1 ∧ Rp K P x d) ∧ (ds.length ≤ i → J.stop i H1)
theorem Wk.mono {K : PySem.W.Frag} {G G' P P' : Hp} {J : It} {ds : List PyData} (h : Wk K G P J ds) (g : Gr G G') (p : Gr P P') : Wk K G' P' J ds := fun H1 g1 i => ⟨fun d e => ⟨((h H1 (g.trans g1) i).1 d e).1, fun x H2 y => ⟨(((h H1 (g.trans g1) i).1 d e).2 x H2 y).1, ((((h H1 (g.trans g1) i).1 d e).2 x H2 y).2).mono p⟩⟩, (h H1 (g.trans g1) i).2⟩
def RKI (K : PySem.W.Frag) (mg : Str → Option Value) (W : WX) (b : Bool) (O : List Addr) (σ : L2.St) (H : Hp) (R : It → Hp → Prop) : Rs (List PyData) → Prop
  | .ok ds => ∀ J H', Gr H H' → ds.length ≤ 4611686018427387904 → Wk K (if b then H' else hide H' O) (hide H' O) J ds → R J H'
  | .ex e => ∀ H' c dd, Gr H H' → ExR K mg (hide H' O) c dd e → W c dd σ H'
  | .bad => False
/-- b: an own object may be walked (in a comprehension) -/
def tI (K : PySem.W.Frag) (mg : Str → Option Value) (W : WX) (b : Bool) (f : En → Rs (List PyData)) : TI := fun σ H R => ∃ ρ O H0, SR K O H0 H σ ρ ∧ RKI K mg W b (O ++ owned σ ρ) σ H R (f ρ)
abbrev DI (X : Cx) (W : WX) (b : Bool) (tg e : Expr) (f : En → Rs (List PyData)) : Prop := PI X tg e (tI X.K X.mg W b f)
theorem PI.imp {X : Cx} {tg e : Expr} {t t' : TI} (h : PI X tg e t) (i : ∀ σ H R, t' σ H R → t σ H R) : PI X tg e t' := ⟨fun pins s σ H R I q => h.run pins s σ H R I (i σ H R q)⟩
def oItems : PyData → Rs (List PyData)
  | .list ds => .ok ds
  | .tuple ds => .ok ds
  | .dict [(.none, .list ds)] => .ok ds
  | _ => .bad
def oItemsL : PyData → Rs (List PyData)
  | .list ds => .ok ds
  | .dict [(.none, .list ds)] => .ok ds
  | _ => .bad
def oItemsT : PyData → Rs (List PyData)
  | .tuple ds => .ok ds
  | _ => .bad
def iOf (op : PyData → Rs (List PyData)) (f : En → Rs PyData) : En → Rs (List PyData) := fun ρ => (f ρ).bind op
theorem wk_list {K : PySem.W.Frag} {G P : Hp} {a : Addr} {xs : List V} {ds : List PyData} (hl : SqL K G a xs) (r : RpAll K P xs ds) (inj : ∀ H1, Gr G H1 → ∀ ys, SqL K H1 a ys → True) : Wk K G P (Itl K a) ds := fun H1 g i => by
  have hl1 : SqL K H1 a xs := g.seq hl
  refine ⟨fun d e => ?_, fun h => ⟨xs, hl1, by rw [r.length]; exact h⟩⟩
  obtain ⟨x, e1, rx⟩ := r.get e
  exact ⟨⟨xs, x, hl1, e1⟩, fun y H2 ⟨e2, h2⟩ => ⟨e2, by
    have := h2 xs hl1
    rw [e1] at this
    cases this
    exact rx⟩⟩
theorem wk_tup {K : PySem.W.Frag} {G P : Hp} {a : Addr} {xs : List V} {ds : List PyData} (hl : SqT K G a xs) (r : RpAll K P xs ds) : Wk K G P (Itt K a) ds := fun H1 g i => by
  have hl1 : SqT K H1 a xs := Gr.seqT g hl
  refine ⟨fun d e => ?_, fun h => ⟨xs, hl1, by rw [r.length]; exact h⟩⟩
  obtain ⟨x, e1, rx⟩ := r.get e
  exact ⟨⟨xs, x, hl1, e1⟩, fun y H2 ⟨e2, h2⟩ => ⟨e2, by
    have := h2 xs hl1
    rw [e1] at this
    cases this
    exact rx⟩⟩
theorem RK.ofI {K : PySem.W.Frag} {mg : Str → Option Value} {W : WX} {bb : Bool} {O : List Addr} {σ : L2.St} {H : Hp} {R : It → Hp → Prop} {Q' : VK} {r : Rs PyData} {k : PyData → Rs (List PyData)} (h : RKI K mg W bb O σ H R (r.bind k))
    (hk : ∀ d H1 v, Gr H H1 → Rp K (hide H1 O) v d → RKI K mg W bb O σ H1 R (k d) → Q' v H1) : RK K mg W O σ H Q' r := by
  cases r with
  | ok d =>
    intro H' v g rp
    refine hk d H' v g rp ?_
    have h' : RKI K mg W bb O σ H R (k d) := h
    cases e : k d with
    | ok ds => rw [e] at h'; exact fun J H2 g2 => h' J H2 (g.trans g2)
    | ex x => rw [e] at h'; exact fun H2 c dd g2 => h' H2 c dd (g.trans g2)
    | bad => rw [e] at h'; exact h'
  | ex e => exact h
  | bad => exact h
theorem RKB.ofI {K : PySem.W.Frag} {mg : Str → Option Value} {W : WX} {bb : Bool} {O : List Addr} {σ : L2.St} {H : Hp} {R : It → Hp → Prop} {Q' : VK} {r : Rs PyData} {k : PyData → Rs (List PyData)} (h : RKI K mg W bb O σ H R (r.bind k))
    (hk : ∀ d H1 v, Gr H H1 → RpB K O H1 v d → RKI K mg W bb O σ H1 R (k d) → Q' v H1) : RKB K mg W O σ H Q' r := by
  cases r with
  | ok d =>
    intro H' v g rp
    refine hk d H' v g rp ?_
    have h' : RKI K mg W bb O σ H R (k d) := h
    cases e : k d with
    | ok ds => rw [e] at h'; exact fun J H2 g2 => h' J H2 (g.trans g2)
    | ex x => rw [e] at h'; exact fun H2 c dd g2 => h' H2 c dd (g.trans g2)
    | bad => rw [e] at h'; exact h'
  | ex e => exact h
  | bad => exact h
theorem mx62 {n : Nat} (h : n ≤ mx) : n ≤ 4611686018427387904 := Nat.le_trans h (by decide)
/-- a list of data -/
theorem di_list {tg : Expr} (h : DE X W e f) : DI X W false tg e (iOf oItemsL f) :=
  PI.imp (pi_list h) fun σ H R ⟨ρ, O, H0, s, q⟩ => ⟨ρ, O, H0, s, RK.ofI q fun d H1 v g r1 q1 => by
    unfold oItemsL at q1
    split at q1
    · cases r1 with
      | lst hl hz ra => exact ⟨_, rfl, ⟨_, .inl (Gr.rd hide_sub hl)⟩, q1 _ H1 (Gr.refl _) (by rw [← ra.length]; exact mx62 hz) (wk_list (.inl hl) ra fun _ _ _ _ => trivial)⟩
    · obtain ⟨a, is, rfl, rfl, hx, lx⟩ := RpB.scr (O := []) (H := hide H1 (O ++ owned σ ρ)) (.inl (by rw [hide_nil]; exact r1))
      exact ⟨_, rfl, ⟨_, hide_sub.seq hx⟩, q1 _ H1 (Gr.refl _) (by rw [List.length_map]; exact mx62 lx) (wk_list hx (rpAll_ints is) fun _ _ _ _ => trivial)⟩
    · exact q1.elim⟩
theorem di_tup {tg : Expr} (h : DE X W e f) (bb : Bool) : DI X W bb tg e (iOf oItemsT f) :=
  PI.imp (pi_tup h) fun σ H R ⟨ρ, O, H0, s, q⟩ => ⟨ρ, O, H0, s, RK.ofI q fun d H1 v g r1 q1 => by
    unfold oItemsT at q1
    split at q1
    · cases r1 with
      | tup hl hz ra => exact ⟨_, rfl, ⟨_, Gr.seqT hide_sub hl⟩, q1 _ H1 (Gr.refl _) (by rw [← ra.length]; exact mx62 hz) ((wk_tup hl ra).mono (by cases bb; exact Gr.refl _; exact hide_sub) (Gr.refl _))⟩
    · exact q1.elim⟩
/-- a list, an own one too, that nothing changes meanwhile -/
theorem di_listB {tg : Expr} (h : BE X W e f) : DI X W true tg e (iOf (fun d => match d with | .list ds => .ok ds | _ => .bad) f) :=
  PI.imp (pi_list h) fun σ H R ⟨ρ, O, H0, s, q⟩ => ⟨ρ, O, H0, s, RKB.ofI q fun d H1 v g r1 q1 => by
    cases d with
    | list ds =>
      obtain ⟨a, xs, rfl, hl, hz, ra⟩ := r1.list
      exact ⟨_, rfl, ⟨_, .inl hl⟩, q1 _ H1 (Gr.refl _) (by rw [← ra.length]; exact mx62 hz) (wk_list (.inl hl) ra fun _ _ _ _ => trivial)⟩
    | _ => exact q1.elim⟩
/-- a text's signs -/
def oSigns : PyData → Rs (List PyData)
  | .str z => if z.length ≤ mx then .ok (z.cps.toList.map fun c => .str ⟨#[c]⟩) else .bad
  | _ => .bad
theorem di_str {tg : Expr} (h : BE X W e f) (bb : Bool) : DI X W bb tg e (iOf oSigns f) :=
  PI.imp (pi_str h) fun σ H R ⟨ρ, O, H0, s, q⟩ => ⟨ρ, O, H0, s, RKB.ofI q fun d H1 v g r1 q1 => by
    unfold oSigns at q1
    split at q1
    · rename_i z
      cases r1.str
      split at q1
      · rename_i hz
        refine ⟨z, rfl, q1 _ H1 (Gr.refl _) (by rw [List.length_map, Array.length_toList]; exact mx62 hz) fun H2 g2 i => ⟨fun d e => ?_, fun h => ?_⟩⟩
        · rw [List.getElem?_map] at e
          cases e2 : z.cps.toList[i]? with
          | none => rw [e2] at e; cases e
          | some c =>
            rw [e2] at e
            cases e
            have e3 : z.cps[i]? = some c := by rw [← Array.getElem?_toList]; exact e2
            refine ⟨(Array.getElem?_eq_some_iff.mp e3).1, fun x H3 ⟨e4, c', e5, e6⟩ => ⟨e4, ?_⟩⟩
            rw [e3] at e5
            cases e5
            subst e6
            exact .str _
        · rw [List.length_map, Array.length_toList] at h
          exact h
      · exact q1.elim
    · exact q1.elim⟩
/-- range(n), range(a, b) -/
def rngD (i j : Int) : Rs (List PyData) := if decide (-4611686018427387904 ≤ i) && decide (i < 4611686018427387904) && decide (-4611686018427387904 ≤ j) && decide (j < 4611686018427387904) && decide ((j - i).toNat ≤ 4611686018427387904) then .ok ((List.range (j - i).toNat).map fun (k : Nat) => .int (i + (k : Int))) else .bad
def iRange1 (f : En → Rs PyData) : En → Rs (List PyData) := fun ρ => (f ρ).bind fun d => match d with
  | .int n => rngD 0 n
  | _ => .bad
def iRange2 (f g : En → Rs PyData) : En → Rs (List PyData) := fun ρ => (f ρ).bind fun d => (g ρ).bind fun e => match d, e with
  | .int m, .int n => rngD m n
  | _, _ => .bad
theorem wk_range {K : PySem.W.Frag} {G P : Hp} (lo : Int) (n : Nat) : Wk K G P (Itr lo n) ((List.range n).map fun (k : Nat) => .int (lo + (k : Int))) := fun H1 g i => by
  refine ⟨fun d e => ?_, fun h => ?_⟩
  · rw [List.getElem?_map] at e
    by_cases hi : i < n
    · rw [List.getElem?_range hi] at e
      cases e
      exact ⟨hi, fun x H2 ⟨e1, e2⟩ => ⟨e1, by rw [e2]; exact .int _⟩⟩
    · rw [List.getElem?_eq_none (by rw [List.length_range]; omega)] at e
      cases e
  · rw [List.length_map, List.length_range] at h
    exact h
theorem rngD_ok {i j : Int} {K : PySem.W.Frag} {mg : Str → Option Value} {bb : Bool} {O : List Addr} {σ : L2.St} {H : Hp} {R : It → Hp → Prop} (q : RKI K mg W bb O σ H R (rngD i j)) : (-(2 ^ 62) ≤ i ∧ i < 2 ^ 62 ∧ -(2 ^ 62) ≤ j ∧ j < 2 ^ 62) ∧ R (Itr i (j - i).toNat) H := by
  unfold rngD at q
  split at q
  · rename_i h
    simp only [Bool.and_eq_true, decide_eq_true_eq] at h
    exact ⟨by omega, q _ H (Gr.refl _) (by rw [List.length_map, List.length_range]; omega) (wk_range i _)⟩
  · exact q.elim
theorem di_range1 {tg : Expr} {p : Pos} (bb : Bool) (ha : BE X W a fa) (hm : X.mg "range" = none) (hg : Gl X "range" := by rfl) (hs : starEach [a] X.env = [(false, eval a X.env)] := by rfl) : DI X W bb tg (.Call (.Name "range" p) [a] [] pos) (iRange1 fa) :=
  PI.imp (pi_range1 hg hm (pa_cons ha pa_nil (by rw [hs]; rfl)) hs) fun σ H R ⟨ρ, O, H0, s, q⟩ => ⟨ρ, O, H0, s, RKB.ofI q fun d H1 v g r1 q1 => by
    cases d with
    | int n =>
      cases r1.int
      obtain ⟨h, q2⟩ := rngD_ok q1
      exact ⟨n, rfl, h.2.2.1, h.2.2.2, by simpa using q2⟩
    | _ => exact q1.elim⟩
theorem di_range2 {tg : Expr} {p : Pos} (bb : Bool) (ha : BE X W a fa) (hb : BE X W b fb) (hm : X.mg "range" = none) (hg : Gl X "range" := by rfl) (hs : starEach [a, b] X.env = [(false, eval a X.env), (false, eval b X.env)] := by rfl) (hs2 : starEach [b] X.env = [(false, eval b X.env)] := by rfl) :
    DI X W bb tg (.Call (.Name "range" p) [a, b] [] pos) (iRange2 fa fb) :=
  PI.imp (pi_range2 hg hm (pa_cons ha (pa_cons hb pa_nil (by rw [hs2]; rfl)) (by rw [hs, hs2])) hs hs2) fun σ H R ⟨ρ, O, H0, s, q⟩ => ⟨ρ, O, H0, s, RKB.ofI q fun d H1 v g r1 q1 => ⟨ρ, O, H0, s.grow g, RKB.ofI q1 fun e H2 u g2 r2 q2 => by
    cases d with
    | int m =>
      cases e with
      | int n =>
        cases r1.int
        cases r2.int
        obtain ⟨h, q3⟩ := rngD_ok q2
        exact ⟨m, n, rfl, h, q3⟩
      | _ => exact q2.elim
    | _ => exact q2.elim⟩⟩
/-! ### for -/
def forS (τ : TgD) (body : En → SRes) : List PyData → En → SRes
  | [], ρ => .nx ρ
  | d :: ds, ρ => match τ d ρ with
    | .ok ρ1 => (match body ρ1 with
      | .nx ρ' => forS τ body ds ρ'
      | .ct ρ' => forS τ body ds ρ'
      | .brk ρ' => .nx ρ'
      | r => r)
    | _ => .bad
def sFor (fi : En → Rs (List PyData)) (τ : TgD) (body : En → SRes) : En → SRes := fun ρ => eS ρ (fi ρ) fun ds => forS τ body ds ρ
theorem SK.weak {K : PySem.W.Frag} {mg : Str → Option Value} {W : WX} {O : List Addr} {H0 H1 : Hp} {D : Ends} {r : SRes} (g : Gr H0 H1) (old : ∀ a ∈ O, H0 a ≠ none) (h : SK K mg W O H0 D r) : SK K mg W O H1 D r := by
  cases r with
  | nx ρ => exact fun σ H s => h σ H (s.weak g old)
  | ret d => exact fun v H g' => h v H (g.trans g')
  | brk ρ => exact fun σ H s => h σ H (s.weak g old)
  | ct ρ => exact fun σ H s => h σ H (s.weak g old)
  | ex e ρ => exact fun c dd σ H s => h c dd σ H (s.weak g old)
  | bad => exact h
theorem hide_app {H : Hp} {O P : List Addr} : hide (hide H P) O = hide H (O ++ P) := by
  funext a
  by_cases h1 : a ∈ O
  · rw [hide_in h1, hide_in (List.mem_append_left _ h1)]
  · rw [hide_out h1]
    by_cases h2 : a ∈ P
    · rw [hide_in h2, hide_in (List.mem_append_right _ h2)]
    · rw [hide_out h2, hide_out fun z => (List.mem_append.mp z).elim h1 h2]
theorem ds_for {tg iter : Expr} {B : List Stmt} {fi : En → Rs (List PyData)} {is : List Nat} {τ : TgD} {gb : En → SRes} (hp : PassesOwn (model X.prog X.w) X.A X.env X.xe) (hc : X.calm = true) (hi : DI X W false tg iter fi) (hg : DG X tg is τ) (hb : DSs X W B gb)
    (hs : ∀ x, foldedSetIterable iter X.env x = pure x := by intro _; rfl) : DS X W (.For tg iter B [] pos) (sFor fi τ gb) :=
  PS.imp (ps_for hp hc hi hg hb hs) fun D σ H ⟨ρ, O, H0, s, q⟩ => by
    refine ⟨ρ, O, H0, s, ?_⟩
    unfold sFor at q
    cases e : fi ρ with
    | ex x => rw [e] at q; exact fun H' c dd g x => q c dd σ H' (s.grow g) x
    | bad => rw [e] at q; exact q
    | ok ds =>
      rw [e] at q
      intro J H1 g _ wk
      have s1 := s.grow g
      -- the ground of the loop
      obtain ⟨B0, hB0⟩ : ∃ B0, B0 = hide H1 (owned σ ρ) := ⟨_, rfl⟩
      have sB : SR X.K O B0 H1 σ ρ := by rw [hB0]; exact s1.rebase
      have g0 : Gr H0 B0 := by rw [hB0]; exact s1.base_sub
      have wk' : Wk X.K (hide H1 (O ++ owned σ ρ)) (hide B0 O) J ds := by rw [hB0, hide_app]; exact wk
      refine ⟨fun i m σ' H' => m = ds.length - i ∧ i ≤ ds.length ∧ ∃ ρ', SR X.K O B0 H' σ' ρ' ∧ SK X.K X.mg W O B0 D (forS τ gb (ds.drop i) ρ'), ⟨ds.length, by simp, Nat.zero_le _, ρ, sB, SK.weak g0 s.old q⟩, ?_⟩
      rintro i m σ2 H2 ⟨rfl, hi2, ρ2, s2, q2⟩
      have gG : Gr (hide H1 (O ++ owned σ ρ)) H2 := fun a o ea => by
        obtain ⟨na, ea'⟩ := hide_some ea
        refine s2.same a o ?_
        rw [hB0, hide_out fun z => na (List.mem_append_right _ z)]
        exact ea'
      by_cases hlt : i < ds.length
      · have ed : ds[i]? = some ds[i] := List.getElem?_eq_getElem hlt
        have edrop : ds.drop i = ds[i] :: ds.drop (i + 1) := by rw [List.drop_eq_getElem_cons hlt]
        obtain ⟨go, yl⟩ := (wk' H2 gG i).1 _ ed
        rw [edrop] at q2
        refine .inr ⟨go, fun σ' H' => ∃ ρ', SR X.K O B0 H' σ' ρ' ∧ SK X.K X.mg W O B0 D (forS τ gb (ds.drop (i + 1)) ρ'), fun σ' H' h => ⟨ds.length - (i + 1), by omega, rfl, hlt, h⟩, fun x H3 y => ?_⟩
        obtain ⟨rfl, rx⟩ := yl x H3 y
        refine ⟨ρ2, O, B0, ds[i], s2, rx.mono fun a o ea => ?_, ?_⟩
        · obtain ⟨na, ea'⟩ := hide_some ea
          have n2 : a ∉ owned σ2 ρ2 := fun z => by rw [s2.new a z] at ea'; cases ea'
          rw [hide_out fun z => (List.mem_append.mp z).elim na n2]
          exact s2.same a o ea'
        · unfold forS at q2
          cases et : τ ds[i] ρ2 with
          | ex x => rw [et] at q2; exact q2
          | bad => rw [et] at q2; exact q2
          | ok ρ3 =>
            rw [et] at q2
            intro σ3 s3 _
            refine ⟨ρ3, O, B0, s3, ?_⟩
            dsimp only at q2
            cases eb : gb ρ3 with
            | nx ρ' => rw [eb] at q2; exact fun σ' H' s' => ⟨ρ', s', q2⟩
            | ct ρ' => rw [eb] at q2; exact fun σ' H' s' => ⟨ρ', s', q2⟩
            | brk ρ' => rw [eb] at q2; exact q2
            | ret d => rw [eb] at q2; exact q2
            | ex x ρ' => rw [eb] at q2; exact q2
            | bad => rw [eb] at q2; exact q2
      · have ei : i = ds.length := by omega
        subst ei
        rw [List.drop_length] at q2
        exact .inl ⟨(wk' H2 gG _).2 (Nat.le_refl _), q2 σ2 H2 s2⟩
end
end DL

namespace DL
open PySem PySem.Spec PyProof.Rows L2

/-! ### functions -/
def RKF (K : PySem.W.Frag) (mg : Str → Option Value) (O : List Addr) (H : Hp) (Q : VK) (E : XK) : Rs PyData → Prop
  | .ok d => ∀ H' v, Gr H H' → Rp K (hide H' O) v d → Q v H'
  | .ex e => ∀ H' c dd, Gr H H' → ExR K mg (hide H' O) c dd e → E c dd H'
  | .bad => False
/-- what a def promises that denotes g -/
def spD (K : PySem.W.Frag) (mg : Str → Option Value) (g : List PyData → Rs PyData) : Sp := fun vs H Q E => ∃ O ds, (∀ a ∈ O, H a ≠ none) ∧ RpAll K (hide H O) vs ds ∧ RKF K mg O H Q E (g ds)
/-- the def of this name denotes g, by k calls at most one in another -/
def Fn (P : Program) (w : World) (K : PySem.W.Frag) (mg : Str → Option Value) (base : Heap) (k : Nat) (x : Str) (g : List PyData → Rs PyData) : Prop :=
  ∃ f fd ps, FnOk P w K mg base (L2.CX P w) k f fd ps (spD K mg g) ∧ mg x = some (.ref f) ∧ PySem.W.keepIn K (.ref f) = true ∧ Binds K fd ps []
theorem Fn.mono {P : Program} {w : World} {K : PySem.W.Frag} {mg : Str → Option Value} {base : Heap} {j k : Nat} {x : Str} {g : List PyData → Rs PyData} (F : Fn P w K mg base j x g) (h : j ≤ k) : Fn P w K mg base k x g :=
  let ⟨f, fd, ps, F, r⟩ := F
  ⟨f, fd, ps, F.mono h, r⟩
section
variable {X : Cx} {W : WX} {a b c e : Expr} {fa fb fc f : En → Rs PyData} {pos p : Pos} {st : Stmt} {rest : List Stmt} {x : Str} {es : List Expr} {k : Nat} {g : List PyData → Rs PyData}
def dCall (g : List PyData → Rs PyData) (f : En → Rs (List PyData)) : En → Rs PyData := fun ρ => (f ρ).bind g
theorem RK.toF {K : PySem.W.Frag} {mg : Str → Option Value} {O : List Addr} {σ : L2.St} {H : Hp} {Q : VK} {r : Rs PyData} (h : RK K mg W O σ H Q r) : RKF K mg O H Q (WE W σ) r := by
  cases r with
  | ok d => exact h
  | ex e => exact h
  | bad => exact h
theorem de_call {f : En → Rs (List PyData)} (F : Fn X.prog X.w X.K X.mg X.base k x g) (hr : Room k X.A) (tk : Takes X W) (ha : DA X W (a :: es) f) (hg : Gl X x := by rfl) (hdb : (x == ("__debug__" : Str)) = false := by decide)
    (he : starEach (a :: es) X.env = (false, eval a X.env) :: starEach es X.env := by rfl) (hpl : (backTo pos (starEach es X.env)).any (·.1) = false := by rfl) : DE X W (.Call (.Name x p) (a :: es) [] pos) (dCall g f) := by
  obtain ⟨fn, fd, ps, F, hm, hk, hb⟩ := F
  exact PE.imp (pe_callS F hr hg hm hk hb (fun σ => passAt tk σ) ha hdb he hpl) fun σ H Q ⟨ρ, O, H0, s, q⟩ => ⟨ρ, O, H0, s, RKA.of q fun ds H1 vs g1 r1 q1 => ⟨O ++ owned σ ρ, ds, (s.grow g1).there, r1, q1.toF⟩⟩

/-! ### a call with own lists among the arguments: what comes back holds no list -/
mutual
def flatD : PyData → Bool
  | .list _ => false
  | .dict _ => false
  | .tuple ds => flatDs ds
  | _ => true
def flatDs : List PyData → Bool
  | [] => true
  | d :: ds => flatD d && flatDs ds
end
/-- what is hidden are lists and dicts -/
def Lsts (H : Hp) (O : List Addr) : Prop := ∀ a ∈ O, (∃ xs, H a = some (.lst xs)) ∨ (∃ kvs, H a = some (.dK kvs)) ∨ ∃ kvs, H a = some (.dT kvs)
mutual
theorem Rp.flat {K : PySem.W.Frag} {H : Hp} {O : List Addr} (hl : Lsts H O) : ∀ {d : PyData} {v : V}, flatD d = true → Rp K H v d → Rp K (hide H O) v d
  | .none, _, _, h => by cases h; exact .non
  | .bool _, _, _, h => by cases h; exact .bl _
  | .int _, _, _, h => by cases h; exact .int _
  | .str _, _, _, h => by cases h; exact .str _
  | .list ds, _, p, h => by simp [flatD] at p
  | .dict ds, _, p, h => by simp [flatD] at p
  | .tuple ds, _, p, h => by
    cases h with
    | @tup a xs _ s l r =>
      refine .tup ?_ l (RpAll.flat hl (by simpa [flatD] using p) r)
      rcases s with (s | ⟨o, s⟩) | s
      · left; left
        rw [hide_out fun z => by rcases hl a z with ⟨xs, q⟩ | ⟨kvs, q⟩ | ⟨kvs, q⟩ <;> (rw [s] at q; cases q)]
        exact s
      · left; right
        refine ⟨o, ?_⟩
        rw [hide_out fun z => by rcases hl a z with ⟨xs, q⟩ | ⟨kvs, q⟩ | ⟨kvs, q⟩ <;> (rw [s] at q; cases q)]
        exact s
      · exact .inr s
theorem RpAll.flat {K : PySem.W.Frag} {H : Hp} {O : List Addr} (hl : Lsts H O) : ∀ {ds : List PyData} {vs : List V}, flatDs ds = true → RpAll K H vs ds → RpAll K (hide H O) vs ds
  | [], _, _, h => by cases h; exact .nil
  | d :: ds, _, p, h => by
    cases h with
    | cons r t =>
      have p' : flatD d = true ∧ flatDs ds = true := by simpa [flatDs] using p
      exact .cons (Rp.flat hl p'.1 r) (RpAll.flat hl p'.2 t)
end
theorem OwnR.lsts {K : PySem.W.Frag} {G H : Hp} {a : Addr} {d : PyData} (h : OwnR K G H a d) : (∃ xs, H a = some (.lst xs)) ∨ (∃ kvs, H a = some (.dK kvs)) ∨ ∃ kvs, H a = some (.dT kvs) := by
  rcases h with ⟨xs, ds, h1, h2, h3⟩ | ⟨xs, ds, h1, h2, h3⟩ | ⟨xs, ds, h1, h2, h3⟩
  · exact .inl ⟨_, h2⟩
  · exact .inr (.inl ⟨_, h2⟩)
  · exact .inr (.inr ⟨_, h2⟩)
theorem SlotsR.lsts {K : PySem.W.Frag} {G H : Hp} {σ : L2.St} {ρ : En} (h : SlotsR K G H σ ρ) : Lsts H (owned σ ρ) := by
  induction h with
  | nil => intro a ha; simp [owned] at ha
  | @cons x y σ ρ h1 h2 ih =>
    intro a ha
    unfold owned at ha
    split at ha
    · rename_i b hb
      rcases List.mem_cons.mp ha with q | q
      · subst q
        unfold own1 at hb
        split at hb
        · cases hb
          obtain ⟨a', e1, r⟩ := h1
          cases e1
          exact r.lsts
        · cases hb
      · exact ih a q
    · exact ih a ha
def RKAB (K : PySem.W.Frag) (mg : Str → Option Value) (W : WX) (O : List Addr) (σ : L2.St) (H : Hp) (Q : List V → Hp → Prop) : Rs (List PyData) → Prop
  | .ok d => ∀ H' v, Gr H H' → RpAll K (hide H' O) v d → Q v H'
  | .ex e => ∀ H' c dd, Gr H H' → ExR K mg (hide H' O) c dd e → W c dd σ H'
  | .bad => False
/-- the same with the own objects as data: O is what the caller hides -/
def tAB (K : PySem.W.Frag) (mg : Str → Option Value) (W : WX) (f : En → Rs (List PyData)) : TA := fun σ H Q => ∃ ρ O H0, SR K O H0 H σ ρ ∧ (match f ρ with
  | .ok d => ∀ H' v, Gr H H' → RpAll K (hide H' O) v d → Q v H'
  | .ex e => ∀ H' c dd, Gr H H' → ExR K mg (hide H' (O ++ owned σ ρ)) c dd e → W c dd σ H'
  | .bad => False)
abbrev BA (X : Cx) (W : WX) (es : List Expr) (f : En → Rs (List PyData)) : Prop := PA X es (tAB X.K X.mg W f)
theorem ba_nil : BA X W [] aNil := PA.imp pa_nil fun σ H Q ⟨ρ, O, H0, s, q⟩ => q H [] (Gr.refl H) .nil
theorem RpB.rpO {K : PySem.W.Frag} {O : List Addr} {H0 H : Hp} {σ : L2.St} {ρ : En} {v : V} {d : PyData} (s : SR K O H0 H σ ρ) (h : RpB K (O ++ owned σ ρ) H v d) (hv : ∀ a, v = .ref a → a ∈ O → Rp K (hide H (O ++ owned σ ρ)) v d) : Rp K (hide H O) v d := by
  have g : Gr (hide H (O ++ owned σ ρ)) (hide H O) := hide_less fun a ha => List.mem_append_left _ ha
  rcases h with h | ⟨a, rfl, h⟩
  · exact h.mono g
  · by_cases n : a ∈ O
    · exact (hv a rfl n).mono g
    · have e : hide H O a = H a := hide_out n
      rcases h with ⟨xs, ds, rfl, h2, h3, h4⟩ | ⟨xs, ds, rfl, h2, h4⟩ | ⟨xs, ds, rfl, h2, h4⟩
      · exact .lst (.inl (e.trans h2)) h3 (h4.mono g)
      · exact .dK (.inl (e.trans h2)) (h4.mono g)
      · exact .dT (.inl (e.trans h2)) (h4.mono g)
/-- an own name as an argument -/
theorem ba_own (i : Nat) {y : Str} {p' : Pos} {g : En → Rs (List PyData)} (hr : BA X W es g) (hN : X.N[i]? = some y := by rfl) (hv : Vis X.env.scope y := by first | exact Or.inl rfl | exact Or.inr (Or.inl rfl) | exact Or.inr (Or.inr rfl)) (hd : (y == ("__debug__" : Str)) = false := by decide)
    (hcd : (y == ("__classdict__" : Str)) = false := by decide) (hs : starEach (.Name y p' :: es) X.env = (false, eval (.Name y p') X.env) :: starEach es X.env := by rfl) : BA X W (.Name y p' :: es) (aCons (bVar i) g) :=
  PA.imp (pa_cons (pe_var hN hv hd hcd) hr hs) fun σ H Q ⟨ρ, O, H0, s, q⟩ => by
    unfold aCons bVar at q
    have go : ∀ (v : V) (d : PyData), Rp X.K (hide H O) v d → (match (Rs.ok d).bind fun d => (g ρ).bind fun ds => Rs.ok (d :: ds) with
        | .ok d => ∀ H' v, Gr H H' → RpAll X.K (hide H' O) v d → Q v H'
        | .ex e => ∀ H' c dd, Gr H H' → ExR X.K X.mg (hide H' (O ++ owned σ ρ)) c dd e → W c dd σ H'
        | .bad => False) → tAB X.K X.mg W g σ H fun xs H2 => Q (v :: xs) H2 := fun v d r q => ⟨ρ, O, H0, s, by
      cases e : g ρ with
      | ok ds =>
        rw [e] at q
        exact fun H' vs g1 r1 => q H' (v :: vs) g1 (.cons (r.mono (hide_same _ g1)) r1)
      | ex x => rw [e] at q; exact q
      | bad => rw [e] at q; exact q⟩
    cases e : ρ[i]? with
    | none => rw [e] at q; exact q.elim
    | some sv =>
      cases sv with
      | none => rw [e] at q; exact q.elim
      | some sv =>
        cases sv with
        | val d =>
          rw [e] at q
          obtain ⟨x, e1, v, e2, rp⟩ := s.slots.get e
          subst e2
          exact ⟨v, e1, go v d (RpH rp) q⟩
        | own d =>
          rw [e] at q
          obtain ⟨x, e1, a, e2, rp⟩ := s.slots.get e
          subst e2
          have ma := owned_mem e1 e
          have naO : a ∉ O := fun z => s.old a z (s.new a ma)
          have g' : Gr (hide H (O ++ owned σ ρ)) (hide H O) := hide_less fun a ha => List.mem_append_left _ ha
          have ee : hide H O a = H a := hide_out naO
          refine ⟨.ref a, e1, go (.ref a) d ?_ q⟩
          rcases rp with ⟨xs, ds, rfl, h2, h3, h4⟩ | ⟨xs, ds, rfl, h2, h4⟩ | ⟨xs, ds, rfl, h2, h4⟩
          · exact .lst (.inl (ee.trans h2)) h3 (h4.mono g')
          · exact .dK (.inl (ee.trans h2)) (h4.mono g')
          · exact .dT (.inl (ee.trans h2)) (h4.mono g')
theorem ba_cons {g : En → Rs (List PyData)} (ha : DE X W a fa) (hr : BA X W es g) (hs : starEach (a :: es) X.env = (false, eval a X.env) :: starEach es X.env := by rfl) : BA X W (a :: es) (aCons fa g) :=
  PA.imp (pa_cons ha hr hs) fun σ H Q ⟨ρ, O, H0, s, q⟩ => ⟨ρ, O, H0, s, by
    unfold aCons at q
    cases e : fa ρ with
    | ok d =>
      rw [e] at q
      intro H1 v g1 r1
      refine ⟨ρ, O, H0, s.grow g1, ?_⟩
      cases e2 : g ρ with
      | ok ds =>
        rw [bind_ok, e2] at q
        exact fun H' vs g2 r2 => q H' (v :: vs) (g1.trans g2) (.cons ((RpH r1).mono (hide_same _ g2)) r2)
      | ex x =>
        rw [bind_ok, e2] at q
        exact fun H' c dd g2 r2 => q H' c dd (g1.trans g2) r2
      | bad =>
        rw [bind_ok, e2] at q
        exact q
    | ex x => rw [e] at q; exact q
    | bad => rw [e] at q; exact q⟩
/-- only what holds no list comes back -/
def outF : Rs PyData → Rs PyData
  | .ok d => if flatD d then .ok d else .bad
  | .ex e => if e.fs.all fun p => flatD p.2 then .ex e else .bad
  | .bad => .bad
def dCallB (g : List PyData → Rs PyData) (f : En → Rs (List PyData)) : En → Rs PyData := fun ρ => (f ρ).bind fun ds => outF (g ds)
theorem Lsts.grow {H H' : Hp} {O : List Addr} (g : Gr H H') (h : Lsts H O) : Lsts H' O := fun a ha => by
  rcases h a ha with ⟨xs, q⟩ | ⟨xs, q⟩ | ⟨xs, q⟩
  · exact .inl ⟨xs, g _ _ q⟩
  · exact .inr (.inl ⟨xs, g _ _ q⟩)
  · exact .inr (.inr ⟨xs, g _ _ q⟩)
theorem RpFs.flat {K : PySem.W.Frag} {H : Hp} {O : List Addr} (hl : Lsts H O) {fs : List (Str × V)} {ds : List (Str × PyData)} (h : RpFs K H fs ds) (p : (ds.all fun p => flatD p.2) = true) : RpFs K (hide H O) fs ds := by
  induction h with
  | nil => exact .nil
  | cons r _ ih =>
    rw [List.all_cons, Bool.and_eq_true] at p
    exact .cons (r.flat hl p.1) (ih p.2)
theorem de_callB {f : En → Rs (List PyData)} (F : Fn X.prog X.w X.K X.mg X.base k x g) (hr : Room k X.A) (tk : Takes X W) (ha : BA X W (a :: es) f) (hg : Gl X x := by rfl) (hdb : (x == ("__debug__" : Str)) = false := by decide)
    (he : starEach (a :: es) X.env = (false, eval a X.env) :: starEach es X.env := by rfl) (hpl : (backTo pos (starEach es X.env)).any (·.1) = false := by rfl) : DE X W (.Call (.Name x p) (a :: es) [] pos) (dCallB g f) := by
  obtain ⟨fn, fd, ps, F, hm, hk, hb⟩ := F
  refine PE.imp (pe_callS F hr hg hm hk hb (fun σ => passAt tk σ) ha hdb he hpl) fun σ H Q ⟨ρ, O, H0, s, q⟩ => ⟨ρ, O, H0, s, ?_⟩
  unfold dCallB at q
  cases e : f ρ with
  | ex x => rw [e] at q; exact q
  | bad => rw [e] at q; exact q
  | ok ds =>
    rw [e, bind_ok] at q
    intro H1 vs g1 r1
    have s1 := s.grow g1
    have ll := s1.slots.lsts
    refine ⟨O, ds, fun a ha => s1.there a (List.mem_append_left _ ha), r1, ?_⟩
    have hh : ∀ {H' : Hp}, hide (hide H' O) (owned σ ρ) = hide H' (O ++ owned σ ρ) := fun {H'} => by
      rw [hide_app]
      funext a
      unfold hide
      simp only [List.mem_append]
      congr 1
      rw [Or.comm]
    have lO : ∀ {H' : Hp}, Gr H1 H' → Lsts (hide H' O) (owned σ ρ) := fun {H'} g' a ha => by
      have naO : a ∉ O := fun z => s.old a z (s.new a ha)
      rw [hide_out naO]
      exact ll.grow g' a ha
    cases er : g ds with
    | ok d =>
      rw [er] at q
      unfold outF at q
      dsimp only at q
      split at q
      · rename_i fl
        exact fun H' v g' r' => q H' v (g1.trans g') (by rw [← hh]; exact r'.flat (lO g') fl)
      · exact q.elim
    | ex x =>
      rw [er] at q
      unfold outF at q
      dsimp only at q
      split at q
      · rename_i fl
        intro H' c dd g' ⟨C, d, fs, h1, h2, h3, h4, h5⟩
        refine q H' c dd (g1.trans g') ⟨C, d, fs, h1, h2, h3, ?_, by rw [← hh]; exact h5.flat (lO g') fl⟩
        rw [← hh, hide_out fun z => by rcases lO g' d z with ⟨xs, w⟩ | ⟨xs, w⟩ | ⟨xs, w⟩ <;> (rw [h4] at w; cases w)]
        exact h4
      · exact q.elim
    | bad =>
      rw [er] at q
      exact q

/-! ### own lists: append, x[k] = e -/
def sApp (i : Nat) (f : En → Rs PyData) : En → SRes := fun ρ => match ρ[i]? with
  | some (some (.own (.list ds))) => eS ρ (f ρ) fun d => if ds.length < mx then .nx (ρ.set i (some (.own (.list (ds ++ [d]))))) else .bad
  | _ => .bad
theorem own_list {K : PySem.W.Frag} {G H : Hp} {a : Addr} {ds : List PyData} (h : OwnR K G H a (.list ds)) : ∃ xs, H a = some (.lst xs) ∧ xs.length ≤ mx ∧ RpAll K G xs ds := by
  rcases h with ⟨xs, es, e, h2, h3, h4⟩ | ⟨xs, es, e, h2, h4⟩ | ⟨xs, es, e, h2, h4⟩
  · cases e; exact ⟨xs, h2, h3, h4⟩
  · cases e
  · cases e
theorem ds_app (i : Nat) {y : Str} {p1 p2 : Pos} {pos2 : Pos} (he : DE X W e f) (hN : X.N[i]? = some y := by rfl) (hv : Vis X.env.scope y := by first | exact Or.inl rfl | exact Or.inr (Or.inl rfl) | exact Or.inr (Or.inr rfl)) (hd : (y == ("__debug__" : Str)) = false := by decide)
    (hcd : (y == ("__classdict__" : Str)) = false := by decide) (hbase : attributeBase (.Name y p1) "append" X.env (eval (.Name y p1) X.env) = eval (.Name y p1) X.env := by rfl)
    (hfew : ((backTo pos (starEach (e :: []) X.env)).all (fun x => !x.1) && (backToKw pos (keywordEach [] X.env)).all (fun x => x.1.isSome)
      && decide ((e :: []).length + ([] : List Keyword).length + (if ([] : List Keyword).isEmpty then 0 else 1) < 30)) = true := by rfl)
    (hline : (p2.endLine == pos.line) = true := by rfl) (hs : starEach (e :: []) X.env = (false, eval e X.env) :: starEach [] X.env := by rfl) (hplain : (backTo pos (starEach [] X.env)).any (·.1) = false := by rfl)
    (hsw : swapsWith (.Call (.Attribute (.Name y p1) "append" p2) [e] [] pos) none pos2.line X.env = pure false := by rfl) :
    DS X W (.Expr (.Call (.Attribute (.Name y p1) "append" p2) [e] [] pos) pos2) (sApp i f) := by
  have h1 : PS X (.Expr (.Call (.Attribute (.Name y p1) "append" p2) [e] [] pos) pos2) (tDrop (tBM X.K "list" rAppend (tVar i) (tCons (tD X.K X.mg W f) tNil))) :=
    ps_expr (pe_bm PySem.F.plainAttrs_list PySem.F.slot_list_append PySem.F.type_list_append mt_append (pe_var hN hv hd hcd) (pa_cons he pa_nil hs) hbase hfew hline hs hplain) hsw
  exact
  PS.imp h1 fun D σ H ⟨ρ, O, H0, s, q⟩ => by
    unfold sApp at q
    split at q
    · rename_i ds ei
      obtain ⟨x, e1, a, e2, rp⟩ := s.slots.get ei
      subst e2
      obtain ⟨xs, hx, hl, rx⟩ := own_list rp
      refine ⟨.ref a, e1, .inl ⟨rfl, _, .inl (.inl hx)⟩, ρ, O, H0, s, SK.expr s q fun d H1 v s1 r1 q1 => ?_⟩
      obtain ⟨x, e1', a', e2', rp1⟩ := s1.slots.get ei
      rw [e1] at e1'
      cases e1'
      cases e2'
      obtain ⟨xs1, hx1, hl1, rx1⟩ := own_list rp1
      split at q1
      · rename_i hlt
        have hlt' : xs1.length < mx := by rw [rx1.length]; exact hlt
        refine ⟨a, xs1, v, rfl, rfl, hx1, by rw [← mx_line]; exact hlt', q1 σ _ (s1.change e1 ei (.inl ⟨_, _, rfl, upd_same, ?_, rx1.append (.cons r1 .nil)⟩))⟩
        rw [List.length_append]
        exact hlt'
      · exact q1.elim
    · exact q.elim
def sSetIx (i : Nat) (fk fe : En → Rs PyData) : En → SRes := fun ρ => match ρ[i]? with
  | some (some (.own (.list ds))) => eS ρ (fe ρ) fun d => eS ρ (fk ρ) fun k => match k with
    | .int k => (match ixN ds.length k with
      | some j => .nx (ρ.set i (some (.own (.list (ds.set j d)))))
      | none => .bad)
    | _ => .bad
  | _ => .bad

/-! ### list comprehensions -/
def WF : WX := fun _ _ _ _ => False
def wipeE (ρ : En) : List Nat → En
  | [] => ρ
  | v :: vs => (wipeE ρ vs).set v none
def lcL (τ : TgD) (tt : En → Rs Bool) (te : En → Rs PyData) : List PyData → En → Rs (List PyData)
  | [], _ => .ok []
  | d :: ds, ρ => match τ d ρ with
    | .ok ρ1 => (match tt ρ1 with
      | .ok true => (match te ρ1 with
        | .ok y => (lcL τ tt te ds ρ).bind fun r => .ok (y :: r)
        | _ => .bad)
      | .ok false => lcL τ tt te ds ρ
      | _ => .bad)
    | _ => .bad
/-- none of these slots holds an own object -/
def noOwn (ρ : En) (vs : List Nat) : Bool := vs.all fun v => match ρ[v]? with
  | some (some (.own _)) => false
  | _ => true
def lcD (vs : List Nat) (fi : En → Rs (List PyData)) (τ : TgD) (tt : En → Rs Bool) (te : En → Rs PyData) : En → Rs PyData := fun ρ => (fi ρ).bind fun ds =>
  if ds.length ≤ mx && noOwn ρ vs then (lcL τ tt te ds (wipeE ρ vs)).bind fun r => .ok (.list r) else .bad
theorem lcL_noex (τ : TgD) (tt : En → Rs Bool) (te : En → Rs PyData) : ∀ (ds : List PyData) (ρ : En) (e : Exn), lcL τ tt te ds ρ ≠ .ex e
  | [], _, _ => fun z => by cases z
  | d :: ds, ρ, e => by
    have ih := lcL_noex τ tt te ds ρ e
    unfold lcL
    split
    · split
      · split
        · intro z
          cases q : lcL τ tt te ds ρ with
          | ok r => rw [q] at z; cases z
          | ex x => rw [q] at z; cases z; exact ih q
          | bad => rw [q] at z; cases z
        · exact fun z => by cases z
      · exact ih
      · exact fun z => by cases z
    · exact fun z => by cases z
theorem lcL_len (τ : TgD) (tt : En → Rs Bool) (te : En → Rs PyData) : ∀ (ds : List PyData) (ρ : En) (r : List PyData), lcL τ tt te ds ρ = .ok r → r.length ≤ ds.length
  | [], _, _, h => by cases h; exact Nat.le_refl _
  | d :: ds, ρ, r, h => by
    unfold lcL at h
    split at h
    · split at h
      · split at h
        · cases q : lcL τ tt te ds ρ with
          | ok r' =>
            rw [q] at h
            cases h
            exact Nat.succ_le_succ (lcL_len τ tt te ds ρ r' q)
          | ex x => rw [q] at h; cases h
          | bad => rw [q] at h; cases h
        · cases h
      · exact Nat.le_succ_of_le (lcL_len τ tt te ds ρ r h)
      · cases h
    · cases h
/-- a target changes the slots is alone -/
def TgOk (is : List Nat) (τ : TgD) : Prop := ∀ d ρ ρ', τ d ρ = .ok ρ' → ∀ j, j ∉ is → ρ'[j]? = ρ[j]?
theorem tok_name (i : Nat) : TgOk [i] (τName i) := fun d ρ ρ' h j hj => by
  cases h
  rw [List.getElem?_set_ne (by intro e; apply hj; simp [e])]
theorem tok_names : ∀ (is : List Nat) (ds : List PyData) (ρ ρ' : En), τNames is ds ρ = .ok ρ' → ∀ j, j ∉ is → ρ'[j]? = ρ[j]?
  | [], [], _, _, h, _, _ => by cases h; rfl
  | [], _ :: _, _, _, h, _, _ => by cases h
  | _ :: _, [], _, _, h, _, _ => by cases h
  | i :: is, d :: ds, ρ, ρ', h, j, hj => by
    have := tok_names is ds _ ρ' h j fun z => hj (List.mem_cons_of_mem _ z)
    rw [this, List.getElem?_set_ne (by intro e; apply hj; simp [e])]
theorem tok_tup (is : List Nat) : TgOk is (τTup is) := fun d ρ ρ' h j hj => by
  unfold τTup at h
  split at h
  · split at h
    · exact tok_names is _ ρ ρ' h j hj
    · cases h
  · cases h
theorem wipe_get (σ : L2.St) : ∀ (vs : List Nat) (j : Nat), (wipe σ vs)[j]? = if j ∈ vs then (σ[j]?).map fun _ => none else σ[j]?
  | [], j => by simp [wipe]
  | v :: vs, j => by
    unfold wipe
    by_cases e : v = j
    · subst e
      rw [if_pos List.mem_cons_self]
      by_cases hl : v < (wipe σ vs).length
      · rw [List.getElem?_set_self hl]
        rw [wipe_length] at hl
        rw [List.getElem?_eq_getElem hl]
        rfl
      · rw [List.getElem?_eq_none (by simpa using hl)]
        rw [wipe_length] at hl
        rw [List.getElem?_eq_none (by omega)]
        rfl
    · rw [List.getElem?_set_ne e, wipe_get σ vs j]
      have : j ∈ v :: vs ↔ j ∈ vs := by simp [Ne.symm e]
      simp only [this]
theorem wipeE_get (ρ : En) : ∀ (vs : List Nat) (j : Nat), (wipeE ρ vs)[j]? = if j ∈ vs then (ρ[j]?).map fun _ => none else ρ[j]?
  | [], j => by simp [wipeE]
  | v :: vs, j => by
    unfold wipeE
    have hlen : ∀ vs : List Nat, (wipeE ρ vs).length = ρ.length := fun vs => by
      induction vs with
      | nil => rfl
      | cons v vs ih => unfold wipeE; rw [List.length_set, ih]
    by_cases e : v = j
    · subst e
      rw [if_pos List.mem_cons_self]
      by_cases hl : v < (wipeE ρ vs).length
      · rw [List.getElem?_set_self hl]
        rw [hlen] at hl
        rw [List.getElem?_eq_getElem hl]
        rfl
      · rw [List.getElem?_eq_none (by simpa using hl)]
        rw [hlen] at hl
        rw [List.getElem?_eq_none (by omega)]
        rfl
    · rw [List.getElem?_set_ne e, wipeE_get ρ vs j]
      have : j ∈ v :: vs ↔ j ∈ vs := by simp [Ne.symm e]
      simp only [this]
theorem SR.wipe {K : PySem.W.Frag} {O : List Addr} {H0 H : Hp} {σ : L2.St} {ρ : En} (s : SR K O H0 H σ ρ) : ∀ vs : List Nat, SR K O H0 H (L2.wipe σ vs) (wipeE ρ vs)
  | [] => s
  | v :: vs => (SR.wipe s vs).setN
theorem mem_owned {σ : L2.St} {ρ : En} {a : Addr} : a ∈ owned σ ρ ↔ ∃ (j : Nat) (d : PyData), σ[j]? = some (some (V.ref a)) ∧ ρ[j]? = some (some (SV.own d)) := by
  constructor
  · intro h
    induction σ generalizing ρ with
    | nil => simp [owned] at h
    | cons u σ ih =>
      cases ρ with
      | nil => simp [owned] at h
      | cons w ρ =>
        unfold owned at h
        split at h
        · rename_i b hb
          rcases List.mem_cons.mp h with e | e
          · subst e
            unfold own1 at hb
            split at hb
            · cases hb
              exact ⟨0, _, rfl, rfl⟩
            · cases hb
          · obtain ⟨j, d, h1, h2⟩ := ih e
            exact ⟨j + 1, d, by simpa using h1, by simpa using h2⟩
        · obtain ⟨j, d, h1, h2⟩ := ih h
          exact ⟨j + 1, d, by simpa using h1, by simpa using h2⟩
  · rintro ⟨j, d, h1, h2⟩
    exact owned_mem h1 h2
/-- within a block whose new list stands at D -/
theorem SR.block {K : PySem.W.Frag} {O : List Addr} {H0 H1 H' : Hp} {σ : L2.St} {ρ : En} {D : Addr} (s : SR K O H0 H1 σ ρ) (g : Gr H1 H') (hD : H1 D = none) (hD' : H' D ≠ none) : SR K (D :: O) (hide H' (owned σ ρ)) H' σ ρ := by
  have nD := s.fresh hD
  refine ⟨hide_sub, fun a h => hide_in h, s.nd, fun a h => ?_, s.slots.mono (fun b o e => ?_) fun a _ o e => g a o e⟩
  · rcases List.mem_cons.mp h with e | h
    · subst e
      rw [hide_out fun z => nD (List.mem_append_right _ z)]
      exact hD'
    · have n : a ∉ owned σ ρ := fun z => s.old a h (s.new a z)
      rw [hide_out n]
      exact (s.grow g).there a (List.mem_append_left _ h)
  · obtain ⟨nb, e'⟩ := hide_some e
    have ne : b ≠ D := ne_of_none e' hD
    rw [hide_out (by rw [List.cons_append, List.mem_cons, not_or]; exact ⟨ne, nb⟩)]
    exact g b o e'
theorem lc_go {K : PySem.W.Frag} {mg : Str → Option Value} {vs is : List Nat} {fi : En → Rs (List PyData)} {τ : TgD} {tt : En → Rs Bool} {te : En → Rs PyData} (hvs : ∀ j ∈ is, j ∈ vs) (hτ : TgOk is τ) {σ : L2.St} {H : Hp} {Q : VK}
    (q : tO K mg W (lcD vs fi τ tt te) σ H Q) : tLc (tI K mg W true fi) (tG K is τ) (tT K mg WF tt) (tD K mg WF te) vs σ H Q := by
  obtain ⟨ρ, O, H0, s, q⟩ := q
  refine ⟨ρ, O, H0, s, ?_⟩
  unfold lcD at q
  cases efi : fi ρ with
  | ex x => rw [efi] at q; exact q
  | bad => rw [efi] at q; exact q
  | ok ds =>
    rw [efi, bind_ok] at q
    intro J H1 g _ wk D hD
    have hchk : (decide (ds.length ≤ mx) && noOwn ρ vs) = true := by
      cases z : (decide (ds.length ≤ mx) && noOwn ρ vs) with
      | true => rfl
      | false =>
        rw [z, if_neg Bool.false_ne_true] at q
        exact q.elim
    rw [if_pos hchk] at q
    simp only [Bool.and_eq_true, decide_eq_true_eq] at hchk
    obtain ⟨hmx, hno⟩ := hchk
    cases el : lcL τ tt te ds (wipeE ρ vs) with
    | ex x => exact absurd el (lcL_noex τ tt te ds _ x)
    | bad => rw [el] at q; exact q.elim
    | ok r =>
      rw [el, bind_ok] at q
      have s1 := s.grow g
      have sw : SR K O H0 H1 (L2.wipe σ vs) (wipeE ρ vs) := s1.wipe vs
      -- the own objects are the same within the block
      have ow : ∀ a, a ∈ owned (L2.wipe σ vs) (wipeE ρ vs) → a ∈ owned σ ρ := fun a ha => by
        obtain ⟨j, d, h1, h2⟩ := mem_owned.mp ha
        rw [wipe_get] at h1
        rw [wipeE_get] at h2
        by_cases hj : j ∈ vs
        · rw [if_pos hj] at h1
          cases z : σ[j]? with
          | none => rw [z] at h1; cases h1
          | some u => rw [z] at h1; cases h1
        · rw [if_neg hj] at h1 h2
          exact mem_owned.mpr ⟨j, d, h1, h2⟩
      have keep : ∀ {σ' : L2.St} {ρ' : En} {d : PyData}, τ d (wipeE ρ vs) = .ok ρ' → But is (L2.wipe σ vs) σ' → ∀ a, a ∈ owned σ ρ → a ∈ owned σ' ρ' := fun {σ' ρ' d} et b a ha => by
        obtain ⟨j, d', h1, h2⟩ := mem_owned.mp ha
        have hj : j ∉ vs := fun z => by
          unfold noOwn at hno
          have := List.all_eq_true.mp hno j z
          rw [h2] at this
          cases this
        have hji : j ∉ is := fun z => hj (hvs j z)
        refine mem_owned.mpr ⟨j, d', ?_, ?_⟩
        · rw [b.2 j hji, wipe_get, if_neg hj, h1]
        · rw [hτ d _ ρ' et j hji, wipeE_get, if_neg hj, h2]
      let T : List Addr := D :: (O ++ owned σ ρ)
      let Pv : Nat → Hp → Prop := fun i H' => ∃ acc accD rest, H' D = some (.lst acc) ∧ RpAll K (hide H' T) acc accD ∧ acc.length ≤ i ∧ Gr H1 H' ∧ lcL τ tt te (ds.drop i) (wipeE ρ vs) = .ok rest ∧ accD ++ rest = r
      refine ⟨fun i m H' => m = ds.length - i ∧ i ≤ ds.length ∧ Pv i H', ⟨ds.length, by simp, Nat.zero_le _, [], [], r, upd_same, .nil, Nat.le_refl _, same_upd hD, el, rfl⟩, ?_⟩
      rintro i m H2 ⟨rfl, hi2, acc, accD, rest, hacc, racc, lacc, g2, erest, esum⟩
      by_cases hlt : i < ds.length
      · have ed : ds[i]? = some ds[i] := List.getElem?_eq_getElem hlt
        have edrop : ds.drop i = ds[i] :: ds.drop (i + 1) := by rw [List.drop_eq_getElem_cons hlt]
        obtain ⟨go, yl⟩ := (wk H2 g2 i).1 _ ed
        refine .inr ⟨go, Pv (i + 1), fun H' h => ⟨ds.length - (i + 1), by omega, rfl, hlt, h⟩, fun x H3 y => ?_⟩
        obtain ⟨rfl, rx⟩ := yl x H3 y
        have sb : SR K (D :: O) (hide H3 (owned (L2.wipe σ vs) (wipeE ρ vs))) H3 (L2.wipe σ vs) (wipeE ρ vs) := sw.block g2 hD (by rw [hacc]; exact fun z => by cases z)
        refine ⟨wipeE ρ vs, D :: O, _, ds[i], sb, rx.mono fun b o e => ?_, ?_⟩
        · obtain ⟨nb, e'⟩ := hide_some e
          have ne : b ≠ D := ne_of_none e' hD
          rw [hide_out (by
            rw [List.cons_append, List.mem_cons, not_or]
            exact ⟨ne, fun z => nb ((List.mem_append.mp z).elim (List.mem_append_left _) fun w => List.mem_append_right _ (ow b w))⟩)]
          exact g2 b o e'
        · rw [edrop] at erest
          unfold lcL at erest
          cases et : τ ds[i] (wipeE ρ vs) with
          | ex x => rw [et] at erest; cases erest
          | bad => rw [et] at erest; cases erest
          | ok ρ1 =>
            rw [et] at erest
            dsimp only at erest
            intro σ1 sr1 but
            refine ⟨?_, ρ1, D :: O, _, sr1, ?_⟩
            · apply List.ext_getElem?
              intro j
              rw [wipe_get, wipe_get]
              by_cases hj : j ∈ vs
              · rw [if_pos hj, if_pos hj]
                have hl : σ1.length = σ.length := by rw [but.1, wipe_length]
                by_cases hjl : j < σ.length
                · rw [List.getElem?_eq_getElem hjl, List.getElem?_eq_getElem (by omega)]
                  rfl
                · rw [List.getElem?_eq_none (by omega), List.getElem?_eq_none (by omega)]
              · rw [if_neg hj, if_neg hj, but.2 j fun z => hj (hvs j z), wipe_get, if_neg hj]
            · cases ett : tt ρ1 with
              | ex x => rw [ett] at erest; cases erest
              | bad => rw [ett] at erest; cases erest
              | ok bb =>
                rw [ett] at erest
                intro H4 g4
                cases bb with
                | false =>
                  rw [if_neg Bool.false_ne_true]
                  dsimp only at erest
                  exact ⟨acc, accD, rest, g4 _ _ hacc, racc.mono (hide_same _ g4), by omega, g2.trans g4, erest, esum⟩
                | true =>
                  rw [if_pos rfl]
                  dsimp only at erest
                  refine ⟨ρ1, D :: O, _, sr1.grow g4, ?_⟩
                  cases ete : te ρ1 with
                  | ex x => rw [ete] at erest; cases erest
                  | bad => rw [ete] at erest; cases erest
                  | ok yd =>
                    rw [ete] at erest
                    dsimp only at erest
                    intro H5 v g5 rv
                    cases erl : lcL τ tt te (ds.drop (i + 1)) (wipeE ρ vs) with
                    | ex x => rw [erl] at erest; cases erest
                    | bad => rw [erl] at erest; cases erest
                    | ok rest' =>
                      rw [erl] at erest
                      have e2 : rest = yd :: rest' := by
                        have := erest
                        simp only [bind_ok, Rs.ok.injEq] at this
                        exact this.symm
                      subst e2
                      have g45 := g4.trans g5
                      have hT : D ∈ T := List.mem_cons_self
                      have rvT : Rp K (hide H5 T) v yd := rv.mono (hide_less fun a ha => ?_)
                      refine ⟨acc, g45 _ _ hacc, by rw [← mx_line]; omega, acc ++ [v], accD ++ [yd], rest', upd_same, ?_, by rw [List.length_append]; exact Nat.succ_le_succ lacc, ?_, erl, by rw [List.append_assoc]; exact esum⟩
                      · rw [hide_upd hT]
                        exact (racc.mono (hide_same _ g45)).append (.cons rvT .nil)
                      · intro b o e
                        rw [upd_ne (ne_of_none e hD)]
                        exact g45 b o (g2 b o e)
                      · rcases List.mem_cons.mp ha with e | h
                        · subst e; exact List.mem_append_left _ List.mem_cons_self
                        · rcases List.mem_append.mp h with h | h
                          · exact List.mem_append_left _ (List.mem_cons_of_mem _ h)
                          · exact List.mem_append_right _ (keep et but a h)
      · have ei : i = ds.length := by omega
        subst ei
        rw [List.drop_length] at erest
        cases erest
        rw [List.append_nil] at esum
        subst esum
        exact .inl ⟨(wk H2 g2 _).2 (Nat.le_refl _), q H2 D (g.trans g2) (by
          cases z : H D with
          | none => rfl
          | some o => rw [g D o z] at hD; cases hD) (.inl ⟨acc, accD, rfl, hacc, by omega, racc⟩)⟩
end
end DL

namespace DL
open PySem PySem.Spec PyProof.Rows L2

section
variable {X : Cx} {W : WX} {a b c e : Expr} {fa fb fc f : En → Rs PyData} {pos p : Pos} {st : Stmt} {rest : List Stmt} {x : Str} {es : List Expr} {k : Nat} {g : List PyData → Rs PyData}
abbrev DTs (X : Cx) (W : WX) (ifs : List Expr) (t : En → Rs Bool) : Prop := PTs X ifs (tT X.K X.mg W t)
def tY : En → Rs Bool := fun _ => .ok true
theorem dts_nil : DTs X W [] tY := ⟨fun pins s σ H Q I ⟨ρ, O, H0, sr, q⟩ => pts_nil.run pins s σ H Q I (q H (Gr.refl H))⟩
theorem dts_one {t : En → Rs Bool} (h : DT X W c t) : DTs X W [c] t := pts_one h
section
variable {elt tg iter : Expr} {ifs : List Expr} {scope : Scope} {is : List Nat} {fi : En → Rs (List PyData)} {τ : TgD} {tt : En → Rs Bool} {te : En → Rs PyData}
theorem oe_lc (own : List (Str × Nat)) (hc : X.calm = true) (hN : X.N.Nodup) (hi : DI X W true tg iter fi) (ok : BlkOk X.N X.env.scope scope own)
    (hg : ∀ (s : Shared) (H : Hp) (C : Addr) (cl : List (Str × Addr)) (fp : List Addr), DG (X.blk s H scope (compEnvC scope cl C X.env) fp) tg is τ) (hτ : TgOk is τ)
    (ht : ∀ (s : Shared) (H : Hp) (C : Addr) (cl : List (Str × Addr)) (fp : List Addr), DTs (X.blk s H scope (compEnvC scope cl C X.env) fp) WF ifs tt)
    (he : ∀ (s : Shared) (H : Hp) (C : Addr) (cl : List (Str × Addr)) (fp : List Addr), DE (X.blk s H scope (compEnvC scope cl C X.env) fp) WF elt te) (hvs : ∀ j ∈ is, j ∈ own.map (·.2) := by decide) (hs : ∀ x, foldedSetIterable iter X.env x = pure x := by intro _; rfl) :
    OE X W (.ListComp elt [⟨tg, iter, ifs, 0⟩] scope pos) (lcD (own.map (·.2)) fi τ tt te) :=
  PE.imp (pe_lc hc hN hi ok hg ht he hs) fun σ H Q q => lc_go hvs hτ q
theorem ds_setLc (i : Nat) {y : Str} {py spos : Pos} (own : List (Str × Nat)) (hc : X.calm = true) (hN : X.N.Nodup) (hi : DI X W true tg iter fi) (ok : BlkOk X.N X.env.scope scope own)
    (hg : ∀ (s : Shared) (H : Hp) (C : Addr) (cl : List (Str × Addr)) (fp : List Addr), DG (X.blk s H scope (compEnvC scope cl C X.env) fp) tg is τ) (hτ : TgOk is τ)
    (ht : ∀ (s : Shared) (H : Hp) (C : Addr) (cl : List (Str × Addr)) (fp : List Addr), DTs (X.blk s H scope (compEnvC scope cl C X.env) fp) WF ifs tt)
    (he : ∀ (s : Shared) (H : Hp) (C : Addr) (cl : List (Str × Addr)) (fp : List Addr), DE (X.blk s H scope (compEnvC scope cl C X.env) fp) WF elt te)
    (hsw : swapsWith (.ListComp elt [⟨tg, iter, ifs, 0⟩] scope pos) (some (.Name y py)) spos.line X.env = pure true)
    (hy : X.N[i]? = some y := by rfl) (hyl : X.env.scope.names.lookup y = some .local := by rfl) (hvs : ∀ j ∈ is, j ∈ own.map (·.2) := by decide) (hs : ∀ x, foldedSetIterable iter X.env x = pure x := by intro _; rfl) :
    DS X W (.Assign [.Name y py] (.ListComp elt [⟨tg, iter, ifs, 0⟩] scope pos) spos) (sSetO i (lcD (own.map (·.2)) fi τ tt te)) :=
  PS.imp (ps_setLc hc hN hy hyl hsw hi ok hg ht he hs) fun D σ H ⟨ρ, O, H0, s, q⟩ => lc_go hvs hτ ⟨ρ, O, H0, s, SK.exprO s q fun d H1 a g s1 hn r1 q1 => q1 _ H1 (s.setO g hn r1)⟩
end

/-! ### further new lists -/
theorem RKO.grow {K : PySem.W.Frag} {mg : Str → Option Value} {O : List Addr} {σ : L2.St} {H H1 : Hp} {Q : VK} {r : Rs PyData} (g : Gr H H1) (h : RKO K mg W O σ H Q r) : RKO K mg W O σ H1 Q r := by
  cases r with
  | ok d => exact fun H2 a g2 hn => h H2 a (g.trans g2) (by
      cases z : H a with
      | none => rfl
      | some o => rw [g a o z] at hn; cases hn)
  | ex e => exact fun H' c dd g' => h H' c dd (g.trans g')
  | bad => exact h
theorem RKB.ofO {K : PySem.W.Frag} {mg : Str → Option Value} {O : List Addr} {σ : L2.St} {H : Hp} {Q Q' : VK} {r : Rs PyData} {k : PyData → Rs PyData} (h : RKO K mg W O σ H Q (r.bind k))
    (hk : ∀ d H1 v, Gr H H1 → RpB K O H1 v d → RKO K mg W O σ H1 Q (k d) → Q' v H1) : RKB K mg W O σ H Q' r := by
  cases r with
  | ok d => exact fun H' v g rp => hk d H' v g rp (RKO.grow g h)
  | ex e => exact h
  | bad => exact h
/-- list(x) -/
theorem oe_list (ha : BE X W a fa) (hm : X.mg "list" = none) (hg : Gl X "list" := by rfl)
    (he : starEach (a :: []) X.env = (false, eval a X.env) :: starEach [] X.env := by rfl) (hpl : (backTo pos (starEach [] X.env)).any (·.1) = false := by rfl) : OE X W (.Call (.Name "list" p) [a] [] pos) (b1 oList fa) :=
  PE.imp (pe_callTy call_list_of hg hm (by decide +kernel) (pa_cons ha pa_nil he) (by decide) (by decide) he hpl) fun σ H Q ⟨ρ, O, H0, s, q⟩ => ⟨ρ, O, H0, s, RKB.ofO q fun d H1 v g1 r1 q1 => by
    unfold oList at q1
    split at q1
    · obtain ⟨p, xs, rfl, hx, lx, rX⟩ := r1.list
      exact ⟨p, xs, rfl, .inl (.inl hx), fun l hl => q1.newL hl lx rX⟩
    · obtain ⟨p, xs, rfl, hx, lx, rX⟩ := r1.tuple
      exact ⟨p, xs, rfl, .inr hx, fun l hl => q1.newL hl lx rX⟩
    · exact q1.elim⟩
/-- list + list -/
def oAddL : PyData → PyData → Rs PyData
  | .list i, .list j => if i.length + j.length ≤ mx then .ok (.list (i ++ j)) else .bad
  | _, _ => .bad
def oMulL : PyData → PyData → Rs PyData
  | .list i, .int k => if decide (-4611686018427387904 ≤ k) && decide (k < 4611686018427387904) && decide (i.length * k.toNat ≤ mx) then .ok (.list (List.replicate k.toNat i).flatten) else .bad
  | _, _ => .bad
theorem oe_cat (ha : BE X W a fa) (hb : BE X W b fb) : OE X W (.BinOp a .Add b pos) (b2 oAddL fa fb) :=
  PE.imp (pe_op op_catR ha hb) fun σ H Q ⟨ρ, O, H0, s, q⟩ => ⟨ρ, O, H0, s, RKB.ofO q fun d H1 v g1 r1 q1 => ⟨ρ, O, H0, s.grow g1, RKB.ofO q1 fun e H2 u g2 r2 q2 => by
    unfold oAddL at q2
    split at q2
    · rename_i i j
      obtain ⟨p, xs, rfl, hx, lx, rX⟩ := r1.list
      obtain ⟨p', ys, rfl, hy, ly, rY⟩ := r2.list
      split at q2
      · rename_i hz
        have hz' : xs.length + ys.length ≤ mx := by rw [rX.length, rY.length]; exact hz
        exact ⟨p, p', xs, ys, rfl, rfl, Gr.rd g2 hx, hy, by rw [← mx_line]; exact hz', fun u hu => q2.newL hu (by rw [List.length_append]; exact hz') ((rX.mono (hide_same _ g2)).append rY)⟩
      · exact q2.elim
    · exact q2.elim⟩⟩
/-- list * int -/
theorem oe_rep (ha : BE X W a fa) (hb : BE X W b fb) : OE X W (.BinOp a .Mult b pos) (b2 oMulL fa fb) :=
  PE.imp (pe_op op_repR ha hb) fun σ H Q ⟨ρ, O, H0, s, q⟩ => ⟨ρ, O, H0, s, RKB.ofO q fun d H1 v g1 r1 q1 => ⟨ρ, O, H0, s.grow g1, RKB.ofO q1 fun e H2 u g2 r2 q2 => by
    unfold oMulL at q2
    split at q2
    · rename_i i k
      obtain ⟨p, xs, rfl, hx, lx, rX⟩ := r1.list
      cases r2.int
      split at q2
      · rename_i hc
        simp only [Bool.and_eq_true, decide_eq_true_eq] at hc
        obtain ⟨⟨h1, h2⟩, h3⟩ := hc
        refine ⟨p, k, xs, rfl, rfl, Gr.rd g2 hx, by omega, by omega, by rw [← mx_line, rX.length]; exact h3, fun u hu => q2.newL hu ?_ ((rX.mono (hide_same _ g2)).rep _)⟩
        rw [PyProof.Rows.lm_len_rep_flat, Nat.mul_comm, rX.length]
        exact h3
      · exact q2.elim
    · exact q2.elim⟩⟩

/-! ### slices -/
def PoD (K : PySem.W.Frag) (mg : Str → Option Value) (W : WX) (f : En → Rs (Option Int)) : TO := fun σ H Q => ∃ ρ O H0, SR K O H0 H σ ρ ∧ RKT K mg W (O ++ owned σ ρ) σ H Q (f ρ)
abbrev DO (X : Cx) (W : WX) (e : Option Expr) (f : En → Rs (Option Int)) : Prop := PO X e (PoD X.K X.mg W f)
theorem PO.imp {X : Cx} {e : Option Expr} {t t' : TO} (h : PO X e t) (i : ∀ σ H Q, t' σ H Q → t σ H Q) : PO X e t' := ⟨fun pins s σ H Q I q => h.run pins s σ H Q I (i σ H Q q)⟩
def pNo : En → Rs (Option Int) := fun _ => .ok none
def pSo (f : En → Rs PyData) : En → Rs (Option Int) := fun ρ => (f ρ).bind fun d => match d with
  | .int i => .ok (some i)
  | _ => .bad
theorem do_none : DO X W none pNo := PO.imp po_none fun σ H Q ⟨ρ, O, H0, s, q⟩ => q H (Gr.refl H)
theorem do_some (h : BE X W a fa) : DO X W (some a) (pSo fa) := PO.imp (po_some h) fun σ H Q ⟨ρ, O, H0, s, q⟩ => ⟨ρ, O, H0, s, RKB.ofT q fun d H1 v g r q1 => by
  cases d with
  | int i =>
    cases r.int
    exact ⟨i, rfl, q1 H1 (Gr.refl _)⟩
  | _ => exact q1.elim⟩
/-- xs[lo:hi] of data -/
def cutD {α : Type} (xs : List α) (lo hi : Option Int) : List α := (xs.drop (HT.sIx xs.length 0 lo)).take (HT.sIx xs.length xs.length hi - HT.sIx xs.length 0 lo)
theorem RpAll.cut {K : PySem.W.Frag} {H : Hp} {xs : List V} {ds : List PyData} (h : RpAll K H xs ds) (lo hi : Option Int) : RpAll K H (cutV xs lo hi) (cutD ds lo hi) := by
  unfold cutV cutD
  rw [h.length]
  exact (h.drop _).take _
def oCut (lo hi : Option Int) : PyData → Rs PyData
  | .list xs => .ok (.list (cutD xs lo hi))
  | .tuple xs => .ok (.tuple (cutD xs lo hi))
  | _ => .bad
def dCut (f : En → Rs PyData) (flo fhi : En → Rs (Option Int)) : En → Rs PyData := fun ρ => (f ρ).bind fun d => (flo ρ).bind fun lo => (fhi ρ).bind fun hi => oCut lo hi d
def rSlR : V → Option Int → Option Int → Hp → VK → Prop := fun x lo hi H Q => ∃ a xs, x = .ref a ∧ Rd H a (.lst xs) ∧ ∀ p, H p = none → Q (.ref p) (upd H p (.lst (cutV xs lo hi)))
theorem sl_listR : SlR X rSlR := by
  intro pins s σ H x y v u lo hi sl Q I rx hs pl pu ⟨a, xs, e, hx, q⟩
  exact sl_list pins s σ H x y v u lo hi sl Q I rx hs pl pu ⟨a, xs, e, .inl hx, q⟩
theorem RKT.of2 {K : PySem.W.Frag} {mg : Str → Option Value} {O : List Addr} {σ : L2.St} {H : Hp} {Q : VK} {α : Type} {r : Rs α} {Q' : α → Hp → Prop} {k : α → Rs PyData} (h : RKO K mg W O σ H Q (r.bind k)) (hk : ∀ d H1, Gr H H1 → RKO K mg W O σ H1 Q (k d) → Q' d H1) : RKT K mg W O σ H Q' r := by
  cases r with
  | ok d => exact fun H' g => hk d H' g (RKO.grow g h)
  | ex e => exact h
  | bad => exact h
theorem cutV_mx {xs : List V} (h : xs.length ≤ mx) (lo hi : Option Int) : (cutV xs lo hi).length ≤ mx := Nat.le_trans (cutV_length xs lo hi) h
theorem cutV_all {xs : List V} {lo hi : Option Int} (h : HT.sIx xs.length 0 lo = 0 ∧ HT.sIx xs.length xs.length hi = xs.length) : cutV xs lo hi = xs := by
  unfold cutV
  rw [h.1, h.2, List.drop_zero, Nat.sub_zero, List.take_length]
theorem cutD_all {α : Type} {xs : List α} {lo hi : Option Int} (h : HT.sIx xs.length 0 lo = 0 ∧ HT.sIx xs.length xs.length hi = xs.length) : cutD xs lo hi = xs := by
  unfold cutD
  rw [h.1, h.2, List.drop_zero, Nat.sub_zero, List.take_length]
/-- a tuple's or a list's slice -/
theorem de_cut {lo hi : Option Expr} {flo fhi : En → Rs (Option Int)} {p2 : Pos} (ha : BE X W a fa) (hl : DO X W lo flo) (hh : DO X W hi fhi) : DE X W (.Subscript a (.Slice lo hi none p2) pos) (dCut fa flo fhi) :=
  PE.imp (pe_slice (sl_listR.or sl_tupA) ha hl hh) fun σ H Q ⟨ρ, O, H0, s, q⟩ => ⟨ρ, O, H0, s, RKB.of q fun d H1 v g1 r1 q1 => ⟨ρ, O, H0, s.grow g1, RKT.of q1 fun l H2 g2 q2 => ⟨ρ, O, H0, (s.grow g1).grow g2, RKT.of q2 fun u H3 g3 q3 => by
    have r3 := (r1.grow g2).grow g3
    have th := (((s.grow g1).grow g2).grow g3).there
    unfold oCut at q3
    split at q3
    · obtain ⟨p, xs, rfl, hx, lx, rX⟩ := r3.list
      exact .inl ⟨p, xs, rfl, hx, fun q hq => q3.newL th hq (cutV_mx lx _ _) (rX.cut _ _)⟩
    · have tX := r3.tupleRp
      obtain ⟨p, xs, rfl, hx, lx, rX⟩ := r3.tuple
      refine .inr ⟨p, xs, rfl, hx, fun h => ?_, fun h q hq => q3.newT th hq (cutV_mx lx _ _) (rX.cut _ _)⟩
      rw [rX.length] at h
      rw [cutD_all h] at q3
      exact q3.here tX
    · exact q3.elim⟩⟩⟩
def oCutL (lo hi : Option Int) : PyData → Rs PyData
  | .list xs => .ok (.list (cutD xs lo hi))
  | _ => .bad
def dCutL (f : En → Rs PyData) (flo fhi : En → Rs (Option Int)) : En → Rs PyData := fun ρ => (f ρ).bind fun d => (flo ρ).bind fun lo => (fhi ρ).bind fun hi => oCutL lo hi d
theorem oe_cut {lo hi : Option Expr} {flo fhi : En → Rs (Option Int)} {p2 : Pos} (ha : BE X W a fa) (hl : DO X W lo flo) (hh : DO X W hi fhi) : OE X W (.Subscript a (.Slice lo hi none p2) pos) (dCutL fa flo fhi) :=
  PE.imp (pe_slice sl_listR ha hl hh) fun σ H Q ⟨ρ, O, H0, s, q⟩ => ⟨ρ, O, H0, s, RKB.ofO q fun d H1 v g1 r1 q1 => ⟨ρ, O, H0, s.grow g1, RKT.of2 q1 fun l H2 g2 q2 => ⟨ρ, O, H0, (s.grow g1).grow g2, RKT.of2 q2 fun u H3 g3 q3 => by
    have r3 := (r1.grow g2).grow g3
    unfold oCutL at q3
    split at q3
    · obtain ⟨p, xs, rfl, hx, lx, rX⟩ := r3.list
      exact ⟨p, xs, rfl, hx, fun q hq => q3.newL hq (cutV_mx lx _ _) (rX.cut _ _)⟩
    · exact q3.elim⟩⟩⟩

/-! ### range(a, b, c) -/
def rng3 (m n c : Int) : Rs (List PyData) := if decide (c ≠ 0) && decide (c.natAbs < 1073741824) && Builtin.Range.small m n c && decide (Builtin.Range.rangeSize m n c = ((Builtin.Range.rangeSize m n c).toNat : Int)) && decide ((Builtin.Range.rangeSize m n c).toNat ≤ 4611686018427387904) then
  .ok ((List.range (Builtin.Range.rangeSize m n c).toNat).map fun (k : Nat) => .int (m + (k : Int) * c)) else .bad
def iRange3 (f g h : En → Rs PyData) : En → Rs (List PyData) := fun ρ => (f ρ).bind fun d => (g ρ).bind fun e => (h ρ).bind fun k => match d, e, k with
  | .int m, .int n, .int c => rng3 m n c
  | _, _, _ => .bad
theorem wk_rangeC {K : PySem.W.Frag} {G P : Hp} (lo c : Int) (n : Nat) : Wk K G P (Itc lo c n) ((List.range n).map fun (k : Nat) => .int (lo + (k : Int) * c)) := fun H1 g i => by
  refine ⟨fun d e => ?_, fun h => ?_⟩
  · rw [List.getElem?_map] at e
    by_cases hi : i < n
    · rw [List.getElem?_range hi] at e
      cases e
      exact ⟨hi, fun x H2 ⟨e1, e2⟩ => ⟨e1, by rw [e2]; exact .int _⟩⟩
    · rw [List.getElem?_eq_none (by rw [List.length_range]; omega)] at e
      cases e
  · rw [List.length_map, List.length_range] at h
    exact h
theorem di_range3 {tg : Expr} (bb : Bool) (ha : BE X W a fa) (hb : BE X W b fb) (hcc : BE X W c fc) (hm : X.mg "range" = none) (hg : Gl X "range" := by rfl)
    (hs : starEach [a, b, c] X.env = (false, eval a X.env) :: starEach [b, c] X.env := by rfl) (hs2 : starEach [b, c] X.env = (false, eval b X.env) :: starEach [c] X.env := by rfl) (hs3 : starEach [c] X.env = (false, eval c X.env) :: starEach [] X.env := by rfl) (hpl : (backTo pos (starEach [b, c] X.env)).any (·.1) = false := by rfl) :
    DI X W bb tg (.Call (.Name "range" p) [a, b, c] [] pos) (iRange3 fa fb fc) :=
  PI.imp (pi_range3 hg hm (pa_cons ha (pa_cons hb (pa_cons hcc pa_nil hs3) hs2) hs) hs hpl) fun σ H R ⟨ρ, O, H0, s, q⟩ => ⟨ρ, O, H0, s, RKB.ofI q fun d H1 v g r1 q1 => ⟨ρ, O, H0, s.grow g, RKB.ofI q1 fun e H2 u g2 r2 q2 => ⟨ρ, O, H0, (s.grow g).grow g2, RKB.ofI q2 fun k H3 w g3 r3 q3 => by
    cases d with
    | int m =>
      cases e with
      | int n =>
        cases k with
        | int cc =>
          cases r1.int
          cases r2.int
          cases r3.int
          dsimp only at q3
          unfold rng3 at q3
          split at q3
          · rename_i h
            simp only [Bool.and_eq_true, decide_eq_true_eq] at h
            exact ⟨m, n, cc, _, rfl, ⟨h.1.1.1.1, h.1.1.1.2, h.1.1.2, h.1.2⟩, q3 _ H3 (Gr.refl _) (by rw [List.length_map, List.length_range]; exact h.2) (wk_rangeC m cc _)⟩
          · exact q3.elim
        | _ => exact q3.elim
      | _ => exact q3.elim
    | _ => exact q3.elim⟩⟩⟩

/-! ### a def denotes its body's function -/
def outS : SRes → Rs PyData
  | .ret d => .ok d
  | .nx _ => .ok .none
  | .ex e _ => .ex e
  | _ => .bad
def runF (n m : Nat) (body : En → SRes) (ds : List PyData) : Rs PyData := if ds.length = m then outS (body (ds.map (fun d => some (.val d)) ++ List.replicate (n - m) none)) else .bad
theorem slots_start {K : PySem.W.Frag} {G H : Hp} : ∀ {vs : List V} {ds : List PyData} (j : Nat), RpAll K G vs ds → SlotsR K G H (vs.map some ++ List.replicate j none) (ds.map (fun d => some (.val d)) ++ List.replicate j none)
  | _, _, 0, .nil => .nil
  | _, _, j + 1, .nil => .cons trivial (slots_start (vs := []) (ds := []) j .nil)
  | _, _, j, .cons r t => .cons ⟨_, rfl, r⟩ (slots_start j t)
theorem owned_start : ∀ (vs : List V) (ds : List PyData) (j : Nat), owned (vs.map some ++ List.replicate j none) (ds.map (fun d => some (SV.val d)) ++ List.replicate j none) = []
  | [], [], 0 => rfl
  | [], [], j + 1 => owned_start [] [] j
  | [], d :: ds, 0 => rfl
  | [], d :: ds, j + 1 => by
    show owned (none :: List.replicate j none) (some (SV.val d) :: _) = []
    unfold owned own1
    have := owned_none (ds.map (fun d => some (SV.val d)) ++ List.replicate (j + 1) none) j
    exact this
  | v :: vs, [], 0 => by cases vs <;> rfl
  | v :: vs, [], j + 1 => by
    show owned (some v :: _) (none :: _) = []
    unfold owned
    have e : own1 (some v) (none : Option SV) = none := by cases v <;> rfl
    rw [e]
    exact owned_noneR (vs.map some ++ List.replicate (j + 1) none) j
  | v :: vs, d :: ds, j => by
    show owned (some v :: _) (some (SV.val d) :: _) = []
    unfold owned
    have e : own1 (some v) (some (SV.val d)) = none := by cases v <;> rfl
    rw [e]
    exact owned_start vs ds j
where
  owned_none : ∀ (ρ : En) (j : Nat), owned (List.replicate j none) ρ = []
    | _, 0 => by unfold owned; rfl
    | [], j + 1 => by rw [List.replicate_succ]; unfold owned; rfl
    | y :: ρ, j + 1 => by rw [List.replicate_succ]; unfold owned own1; exact owned_none ρ j
  owned_noneR : ∀ (σ : L2.St) (j : Nat), owned σ (List.replicate j none) = []
    | [], j => by unfold owned; rfl
    | u :: σ, 0 => by unfold owned; rfl
    | u :: σ, j + 1 => by
      rw [List.replicate_succ]
      unfold owned
      have e : own1 u (none : Option SV) = none := by cases u with | none => rfl | some v => cases v <;> rfl
      rw [e]
      exact owned_noneR σ j
end
section
variable {P : Program} {w : World} {K : PySem.W.Frag} {mg : Str → Option Value} {base : Heap}
theorem fnok_mk {name : Str} {st : Stmt} {f : Addr} {fd : FuncData} {N ps : List Str} {k : Nat} {body : En → SRes} (F : Fun K name name st f fd) (S : FnScope N ps (defScope st))
    (hb : ∀ (cdv : Value) (A : Around) (outer : List Env) (s : Shared) (H : Hp) (E : XK), Room k (A.deeper (envOfC name (defScope st) s.heap.objs.size f cdv)) →
      Takes (cxOf (L2.CX P w) P w K mg base N name (defScope st) f cdv A outer s H E) (fun c d _ H => E c d H) → PassesOwn (model P w) (A.deeper (envOfC name (defScope st) s.heap.objs.size f cdv)) (envOfC name (defScope st) s.heap.objs.size f cdv) (cxOf (L2.CX P w) P w K mg base N name (defScope st) f cdv A outer s H E).xe →
      DSs (cxOf (L2.CX P w) P w K mg base N name (defScope st) f cdv A outer s H E) (fun c d _ H => E c d H) (defBody st) body) : FnOk P w K mg base (L2.CX P w) (k + 1) f fd ps (spD K mg (runF N.length ps.length body)) := by
  have hpl : ps.length ≤ N.length := by
    have := congrArg List.length S.pre
    rw [List.length_take] at this
    omega
  refine F.okX S (fun vs H Q E h => ?_) (fun cdv A outer s H vs Q E hr h => ⟨_, hb cdv A outer s H E hr (takes_of rfl rfl rfl rfl) PassesOwn.leaving, ?_⟩)
  · obtain ⟨O, ds, th, r, q⟩ := h
    rw [r.length]
    unfold runF at q
    split at q
    · assumption
    · exact q.elim
  · obtain ⟨O, ds, th, r, q⟩ := h
    unfold runF at q
    split at q
    · rename_i hl
      have el : vs.length = ps.length := by rw [r.length]; exact hl
      refine ⟨ds.map (fun d => some (.val d)) ++ List.replicate (N.length - ps.length) none, O, H, ⟨Gr.refl H, fun a h => ?_, ?_, th, ?_⟩, ?_⟩
      · unfold L2.start at h
        rw [el, owned_start] at h
        cases h
      · unfold L2.start
        rw [el, owned_start]
        exact List.nodup_nil
      · unfold L2.start
        rw [el, owned_start, List.append_nil]
        exact slots_start _ r
      · cases eb : body (ds.map (fun d => some (.val d)) ++ List.replicate (N.length - ps.length) none) with
        | ret d => rw [eb] at q; exact fun v H' g r' => q H' v g r'
        | nx ρ => rw [eb] at q; exact fun σ' H' s' => q H' .non s'.same .non
        | brk ρ => rw [eb] at q; exact q.elim
        | ct ρ => rw [eb] at q; exact q.elim
        | ex e ρ => rw [eb] at q; exact fun c dd σ' H' s' x => q H' c dd s'.same (x.mono (hide_less fun a ha => List.mem_append_left _ ha))
        | bad => rw [eb] at q; exact q.elim
    · exact q.elim
theorem fn_mk {name : Str} {st : Stmt} {f : Addr} {fd : FuncData} {N ps : List Str} {k : Nat} {body : En → SRes} (F : Fun K name name st f fd) (S : FnScope N ps (defScope st)) (bn : Binds K fd ps []) (hm : mg name = some (.ref f))
    (hb : ∀ (cdv : Value) (A : Around) (outer : List Env) (s : Shared) (H : Hp) (E : XK), Room k (A.deeper (envOfC name (defScope st) s.heap.objs.size f cdv)) →
      Takes (cxOf (L2.CX P w) P w K mg base N name (defScope st) f cdv A outer s H E) (fun c d _ H => E c d H) → PassesOwn (model P w) (A.deeper (envOfC name (defScope st) s.heap.objs.size f cdv)) (envOfC name (defScope st) s.heap.objs.size f cdv) (cxOf (L2.CX P w) P w K mg base N name (defScope st) f cdv A outer s H E).xe →
      DSs (cxOf (L2.CX P w) P w K mg base N name (defScope st) f cdv A outer s H E) (fun c d _ H => E c d H) (defBody st) body) : Fn P w K mg base (k + 1) name (runF N.length ps.length body) :=
  ⟨f, fd, ps, fnok_mk F S hb, hm, F.kp, bn⟩
/-- nothing is promised -/
theorem fn_zero {name : Str} {f : Addr} {fd : FuncData} {ps : List Str} {k : Nat} (kp : PySem.W.keepIn K (.ref f) = true) (bn : Binds K fd ps []) (hm : mg name = some (.ref f)) : Fn P w K mg base k name fun _ => .bad :=
  ⟨f, fd, ps, ⟨fun vs H Q E h => by obtain ⟨O, ds, th, r, q⟩ := h; exact q.elim, fun A outer s H args us vs Q E hr he hb hv h => by obtain ⟨O, ds, th, r, q⟩ := h; exact q.elim⟩, hm, kp, bn⟩

/-! ### the law's end -/
/-- what the law promises: True, for every script of at most 63 ints -/
def spL (K : PySem.W.Frag) : Sp := fun vs H Q _ => ∃ (a : Addr) (ns : List Int), vs = [.ref a] ∧ SqL K H a (ns.map V.int) ∧ ns.length ≤ 63 ∧ ∀ H', Q (.bl true) H'
/-- the script as data -/
abbrev scr (ns : List Int) : PyData := .dict [(.none, .list (ns.map PyData.int))]
theorem law_end {P : Program} {w : World} {K : PySem.W.Frag} {mg : Str → Option Value} {fa : Addr} {k : Nat} {g : List PyData → Rs PyData}
    (h : ∃ fd : FuncData, (∀ (s : Shared) (v : Value), BindsTo s fd ⟨[v], []⟩ [("script", v)]) ∧ ∀ base : Heap, K.In base → base.Ns mainGlobals mg → FnOk P w K mg base (L2.CX P w) k fa fd ["script"] (spD K mg g))
    (t : ∀ ns : List Int, ns.length ≤ 63 → g [scr ns] = .ok (.bool true)) :
    ∃ fd : FuncData, (∀ (s : Shared) (v : Value), BindsTo s fd ⟨[v], []⟩ [("script", v)]) ∧ ∀ base : Heap, K.In base → base.Ns mainGlobals mg → FnOk P w K mg base (L2.CX P w) k fa fd ["script"] (spL K) := by
  obtain ⟨fd, hb, hF⟩ := h
  refine ⟨fd, hb, fun base kb nb => (hF base kb nb).imp fun vs H Q E ⟨a, ns, e, hs, hl, q⟩ => ?_⟩
  subst e
  refine ⟨[], [scr ns], fun a h => (by cases h), .cons (.scr (by rw [hide_nil]; exact hs) (Nat.le_trans hl (by decide))) .nil, ?_⟩
  rw [t ns hl]
  intro H' v g' r
  cases r
  exact q H'
theorem cx_no {P : Program} {w : World} {outer : List Env} {H : Hp} {s : Shared} {e : Value} {s' : Shared} (h : L2.CX P w outer H s (fun _ _ _ => False) e s') : False := by
  obtain ⟨_, _, _, _, _, _, _, _, _, _, _, _, z⟩ := h
  exact z
end
end DL

namespace DL
open PySem PySem.Spec PyProof.Rows L2

section
variable {X : Cx} {W : WX} {a b c e : Expr} {fa fb fc f : En → Rs PyData} {pos p : Pos} {st : Stmt} {rest : List Stmt} {x : Str} {es : List Expr} {k : Nat} {g : List PyData → Rs PyData}
/-! ### x in c, for a list, a tuple, a text -/
def inOk (xs : List PyData) (d : PyData) : Bool := PyData.plainAll xs && d.plain && decide (min (PyData.depthAll xs) d.depth ≤ 60)
/-- one sign in a text -/
def signIn (z t : Str) : Bool := !(Builtin.Str.occurrences t z 0 t.length 1).isEmpty
def oIn : PyData → PyData → Rs PyData
  | d, .list xs => if inOk xs d then .ok (.bool (xs.any fun y => PyData.eqv y d)) else .bad
  | d, .tuple xs => if inOk xs d then .ok (.bool (xs.any fun y => PyData.eqv y d)) else .bad
  | .str z, .str t => .ok (.bool (signIn z t))
  | _, _ => .bad
def oNotIn : PyData → PyData → Rs PyData
  | d, .list xs => if inOk xs d then .ok (.bool (!xs.any fun y => PyData.eqv y d)) else .bad
  | d, .tuple xs => if inOk xs d then .ok (.bool (!xs.any fun y => PyData.eqv y d)) else .bad
  | .str z, .str t => .ok (.bool (!signIn z t))
  | _, _ => .bad
theorem inOk_of {xs : List PyData} {d : PyData} (h : inOk xs d = true) : PyData.plainAll xs = true ∧ d.plain = true ∧ min (PyData.depthAll xs) d.depth ≤ 60 := by
  unfold inOk at h
  simp only [Bool.and_eq_true, decide_eq_true_eq] at h
  exact ⟨h.1.1, h.1.2, h.2⟩
def rInP (K : PySem.W.Frag) (neg : Bool) : R2 := fun x y H Q => (∃ d xs, Dp K H x d ∧ (Dp K H y (.list xs) ∨ Dp K H y (.tuple xs)) ∧ inOk xs d = true ∧ Q (.bl (if neg then !(xs.any fun y => PyData.eqv y d) else xs.any fun y => PyData.eqv y d)) H) ∨
  (∃ i j, x = .str i ∧ y = .str j ∧ Q (.bl (if neg then !signIn i j else signIn i j)) H)
theorem op_inP (hu : X.A.units + 64 < cLine) : OpR X (compareOp .In) (rInP X.K false) := by
  intro pins s σ H x y v u Q I rx ry h
  rcases h with ⟨d, xs, hd, hx, ho, q⟩ | h
  · obtain ⟨h1, h2, h3⟩ := inOk_of ho
    obtain ⟨as, r1⟩ := Dp.reads I d x v hd rx
    rcases hx with hx | hx
    · obtain ⟨bs, r2⟩ := Dp.reads I _ y u hx ry
      exact SeqAt.in_list_data r2 r1 h1 h2 (by omega) ⟨.bl _, H, I, rfl, q⟩
    · obtain ⟨bs, r2⟩ := Dp.reads I _ y u hx ry
      exact SeqAt.in_tuple_data r2 r1 h1 h2 (by omega) ⟨.bl _, H, I, rfl, q⟩
  · exact op_in_str pins s σ H x y v u Q I rx ry h
theorem op_notInP (hu : X.A.units + 64 < cLine) : OpR X (compareOp .NotIn) (rInP X.K true) := by
  intro pins s σ H x y v u Q I rx ry h
  rcases h with ⟨d, xs, hd, hx, ho, q⟩ | h
  · obtain ⟨h1, h2, h3⟩ := inOk_of ho
    obtain ⟨as, r1⟩ := Dp.reads I d x v hd rx
    rcases hx with hx | hx
    · obtain ⟨bs, r2⟩ := Dp.reads I _ y u hx ry
      exact SeqAt.notIn_list_data r2 r1 h1 h2 (by omega) ⟨.bl _, H, I, rfl, q⟩
    · obtain ⟨bs, r2⟩ := Dp.reads I _ y u hx ry
      exact SeqAt.notIn_tuple_data r2 r1 h1 h2 (by omega) ⟨.bl _, H, I, rfl, q⟩
  · exact op_notin_str pins s σ H x y v u Q I rx ry h
theorem ok_in : Ok2 X (rInP X.K false) oIn := by
  intro W O σ H Q x y d e th rx ry q
  unfold oIn at q
  split at q
  · rename_i xs
    split at q
    · rename_i h
      obtain ⟨h1, h2, h3⟩ := inOk_of h
      exact .inl ⟨d, xs, rx.dp h2, .inl (ry.dp (by simpa [PyData.plain] using h1)), h, q.here (.bl _)⟩
    · exact q.elim
  · rename_i xs
    split at q
    · rename_i h
      obtain ⟨h1, h2, h3⟩ := inOk_of h
      exact .inl ⟨d, xs, rx.dp h2, .inr (ry.dp (by simpa [PyData.plain] using h1)), h, q.here (.bl _)⟩
    · exact q.elim
  · exact .inr ⟨_, _, rx.str, ry.str, q.here (.bl _)⟩
  · exact q.elim
theorem ok_notin : Ok2 X (rInP X.K true) oNotIn := by
  intro W O σ H Q x y d e th rx ry q
  unfold oNotIn at q
  split at q
  · rename_i xs
    split at q
    · rename_i h
      obtain ⟨h1, h2, h3⟩ := inOk_of h
      exact .inl ⟨d, xs, rx.dp h2, .inl (ry.dp (by simpa [PyData.plain] using h1)), h, q.here (.bl _)⟩
    · exact q.elim
  · rename_i xs
    split at q
    · rename_i h
      obtain ⟨h1, h2, h3⟩ := inOk_of h
      exact .inl ⟨d, xs, rx.dp h2, .inr (ry.dp (by simpa [PyData.plain] using h1)), h, q.here (.bl _)⟩
    · exact q.elim
  · exact .inr ⟨_, _, rx.str, ry.str, q.here (.bl _)⟩
  · exact q.elim

/-! ### a list, a tuple, a text, walked -/
def iAnyV (K : PySem.W.Frag) (tl : TE) : TI := fun σ H R => tl σ H fun x H1 => (∃ a, x = .ref a ∧ (∃ xs, SqL K H1 a xs) ∧ R (Itl K a) H1) ∨ (∃ a, x = .ref a ∧ (∃ xs, SqT K H1 a xs) ∧ R (Itt K a) H1) ∨ (∃ z, x = .str z ∧ R (Its z) H1)
theorem pi_any {tg l : Expr} {tl : TE} (hl : PE X l tl) : PI X tg l (iAnyV X.K tl) := by
  refine ⟨fun pins s σ H R I h => ?_⟩
  refine thn (hl.run pins s σ H _ I h) fun v s1 ⟨x, H1, I1, r1, q1⟩ => ?_
  rcases q1 with ⟨a, e, ⟨xs, hq⟩, q⟩ | ⟨a, e, ⟨xs, hq⟩, q⟩ | ⟨z, ex, q⟩
  · subst e
    cases r1
    obtain ⟨its, rv, p, hz⟩ := I1.list hq
    refine wpAny_pyIter_list p.isList ?_
    refine ⟨s1.heap.objs.size, [s1.heap.objs.size], _, _, H1, rfl, I1.kept (t' := s1.toks) fun b o e => Heap.get?_push_of_some _ e, turn_list a _, ⟨_, Heap.get?_push_size _ rfl, rfl, rfl⟩, fun b hb => ?_, q⟩
    have e : b = s1.heap.objs.size := by simpa using hb
    subst e
    exact I1.fpOk (Nat.le_refl _) (I1.hok.fresh (Nat.le_refl _))
  · subst e
    cases r1
    obtain ⟨its, rv, p, hz⟩ := I1.tuple hq
    refine wpAny_pyIter_tuple (show s1.heap.IsTuple a its.toArray from p) ?_
    refine ⟨s1.heap.objs.size, [s1.heap.objs.size], _, _, H1, rfl, I1.kept (t' := s1.toks) fun b o e => Heap.get?_push_of_some _ e, turn_tuple a _, ⟨_, Heap.get?_push_size _ rfl, rfl, rfl⟩, fun b hb => ?_, q⟩
    have e : b = s1.heap.objs.size := by simpa using hb
    subst e
    exact I1.fpOk (Nat.le_refl _) (I1.hok.fresh (Nat.le_refl _))
  · subst ex
    obtain ⟨t, rfl⟩ := r1
    cases ha : z.cps.all (· < 128)
    · exact wpAny_pyIter_wide ha (pi_one (tk := s1.toks) I1 _ (turn_str _ z t "str_iterator" (.inr rfl)) ⟨_, Heap.get?_push_size _ rfl, rfl, rfl⟩ q)
    · exact wpAny_pyIter_ascii ha (pi_one (tk := s1.toks) I1 _ (turn_str _ z t "str_ascii_iterator" (.inl rfl)) ⟨_, Heap.get?_push_size _ rfl, rfl, rfl⟩ q)
/-- what a walk over data gives -/
def oAny : PyData → Rs (List PyData)
  | .list ds => .ok ds
  | .tuple ds => .ok ds
  | .dict [(.none, .list ds)] => .ok ds
  | .str z => if z.length ≤ mx then .ok (z.cps.toList.map fun c => .str ⟨#[c]⟩) else .bad
  | _ => .bad
theorem wk_str {K : PySem.W.Frag} {G P : Hp} (z : Str) : Wk K G P (Its z) (z.cps.toList.map fun c => .str ⟨#[c]⟩) := fun H2 g2 i => by
  refine ⟨fun d e => ?_, fun h => ?_⟩
  · rw [List.getElem?_map] at e
    cases e2 : z.cps.toList[i]? with
    | none => rw [e2] at e; cases e
    | some c =>
      rw [e2] at e
      cases e
      have e3 : z.cps[i]? = some c := by rw [← Array.getElem?_toList]; exact e2
      refine ⟨(Array.getElem?_eq_some_iff.mp e3).1, fun x H3 ⟨e4, c', e5, e6⟩ => ⟨e4, ?_⟩⟩
      rw [e3] at e5
      cases e5
      subst e6
      exact .str _
  · rw [List.length_map, Array.length_toList] at h
    exact h
theorem di_any {tg : Expr} (h : DE X W e f) : DI X W false tg e (iOf oAny f) :=
  PI.imp (pi_any h) fun σ H R ⟨ρ, O, H0, s, q⟩ => ⟨ρ, O, H0, s, RK.ofI q fun d H1 v g r1 q1 => by
    unfold oAny at q1
    split at q1
    · cases r1 with
      | lst hl hz ra => exact .inl ⟨_, rfl, ⟨_, .inl (Gr.rd hide_sub hl)⟩, q1 _ H1 (Gr.refl _) (by rw [← ra.length]; exact mx62 hz) (wk_list (.inl hl) ra fun _ _ _ _ => trivial)⟩
    · cases r1 with
      | tup hl hz ra => exact .inr (.inl ⟨_, rfl, ⟨_, Gr.seqT hide_sub hl⟩, q1 _ H1 (Gr.refl _) (by rw [← ra.length]; exact mx62 hz) (wk_tup hl ra)⟩)
    · obtain ⟨a, is, rfl, rfl, hx, lx⟩ := RpB.scr (O := []) (H := hide H1 (O ++ owned σ ρ)) (.inl (by rw [hide_nil]; exact r1))
      exact .inl ⟨_, rfl, ⟨_, hide_sub.seq hx⟩, q1 _ H1 (Gr.refl _) (by rw [List.length_map]; exact mx62 lx) (wk_list hx (rpAll_ints is) fun _ _ _ _ => trivial)⟩
    · cases r1
      split at q1
      · rename_i z hz
        exact .inr (.inr ⟨z, rfl, q1 _ H1 (Gr.refl _) (by rw [List.length_map, Array.length_toList]; exact mx62 hz) (wk_str z)⟩)
      · exact q1.elim
    · exact q1.elim⟩
theorem di_anyB {tg : Expr} (h : BE X W e f) : DI X W true tg e (iOf oAny f) :=
  PI.imp (pi_any h) fun σ H R ⟨ρ, O, H0, s, q⟩ => ⟨ρ, O, H0, s, RKB.ofI q fun d H1 v g r1 q1 => by
    unfold oAny at q1
    split at q1
    · obtain ⟨a, xs, rfl, hl, hz, ra⟩ := r1.list
      exact .inl ⟨_, rfl, ⟨_, .inl hl⟩, q1 _ H1 (Gr.refl _) (by rw [← ra.length]; exact mx62 hz) (wk_list (.inl hl) ra fun _ _ _ _ => trivial)⟩
    · obtain ⟨a, xs, rfl, hl, hz, ra⟩ := r1.tuple
      exact .inr (.inl ⟨_, rfl, ⟨_, hl⟩, q1 _ H1 (Gr.refl _) (by rw [← ra.length]; exact mx62 hz) (wk_tup hl ra)⟩)
    · obtain ⟨a, is, rfl, rfl, hx, lx⟩ := r1.scr
      exact .inl ⟨_, rfl, ⟨_, hx⟩, q1 _ H1 (Gr.refl _) (by rw [List.length_map]; exact mx62 lx) (wk_list hx (rpAll_ints is) fun _ _ _ _ => trivial)⟩
    · cases r1.str
      split at q1
      · rename_i z hz
        exact .inr (.inr ⟨z, rfl, q1 _ H1 (Gr.refl _) (by rw [List.length_map, Array.length_toList]; exact mx62 hz) (wk_str z)⟩)
      · exact q1.elim
    · exact q1.elim⟩
end
/-! ### builtins by name -/
theorem bt_len : bootBuiltins "len" = some (.builtin "len") := by decide +kernel
theorem bt_int : bootBuiltins "int" = some (.type "int") := by decide +kernel
theorem bt_bool : bootBuiltins "bool" = some (.type "bool") := by decide +kernel
theorem bt_str : bootBuiltins "str" = some (.type "str") := by decide +kernel
theorem bt_tuple : bootBuiltins "tuple" = some (.type "tuple") := by decide +kernel
theorem bt_list : bootBuiltins "list" = some (.type "list") := by decide +kernel
theorem bt_min : bootBuiltins "min" = some (.builtin "min") := by decide +kernel
theorem bt_max : bootBuiltins "max" = some (.builtin "max") := by decide +kernel
theorem bt_sum : bootBuiltins "sum" = some (.builtin "sum") := by decide +kernel
theorem bt_sorted : bootBuiltins "sorted" = some (.builtin "sorted") := by decide +kernel
theorem bt_isinstance : bootBuiltins "isinstance" = some (.builtin "isinstance") := by decide +kernel
end DL

/-! DM1: reckoning with denotations. -/
namespace DL
open PySem PySem.Spec PyProof.Rows L2

/-! ### the combinators unfold -/
section
variable {ρ : En}
@[simp] theorem x_seq (g1 g2 : En → SRes) : sSeq g1 g2 ρ = sThen (g1 ρ) g2 := Eq.trans rfl rfl
@[simp] theorem x_ret (f : En → Rs PyData) : sRet f ρ = eS ρ (f ρ) .ret := Eq.trans rfl rfl
@[simp] theorem x_retN : sRetN ρ = .ret .none := Eq.trans rfl rfl
@[simp] theorem x_nil : sNil ρ = .nx ρ := Eq.trans rfl rfl
@[simp] theorem x_brk : sBrk ρ = .brk ρ := Eq.trans rfl rfl
@[simp] theorem x_ct : sCt ρ = .ct ρ := Eq.trans rfl rfl
@[simp] theorem x_drop (f : En → Rs PyData) : sDrop f ρ = eS ρ (f ρ) fun _ => .nx ρ := Eq.trans rfl rfl
@[simp] theorem x_set (i : Nat) (f : En → Rs PyData) : sSet i f ρ = eS ρ (f ρ) fun d => .nx (ρ.set i (some (.val d))) := Eq.trans rfl rfl
@[simp] theorem x_setO (i : Nat) (f : En → Rs PyData) : sSetO i f ρ = eS ρ (f ρ) fun d => .nx (ρ.set i (some (.own d))) := Eq.trans rfl rfl
@[simp] theorem x_if (t : En → Rs Bool) (g1 g2 : En → SRes) : sIf t g1 g2 ρ = eS ρ (t ρ) fun c => if c then g1 ρ else g2 ρ := Eq.trans rfl rfl
@[simp] theorem x_for (fi : En → Rs (List PyData)) (τ : TgD) (b : En → SRes) : sFor fi τ b ρ = eS ρ (fi ρ) fun ds => forS τ b ds ρ := Eq.trans rfl rfl
@[simp] theorem x_asg (f : En → Rs PyData) (τ : TgD) : sAsg f τ ρ = eS ρ (f ρ) fun d => match τ d ρ with | .ok ρ' => .nx ρ' | _ => .bad := Eq.trans rfl rfl
@[simp] theorem x_frz (i : Nat) (g : En → SRes) : sFrz i g ρ = g (frz i ρ) := Eq.trans rfl rfl
@[simp] theorem x_b1 (op : PyData → Rs PyData) (f : En → Rs PyData) : b1 op f ρ = (f ρ).bind op := Eq.trans rfl rfl
@[simp] theorem x_b2 (op : PyData → PyData → Rs PyData) (f g : En → Rs PyData) : b2 op f g ρ = (f ρ).bind fun d => (g ρ).bind fun e => op d e := Eq.trans rfl rfl
@[simp] theorem x_c (d : PyData) : dC d ρ = .ok d := Eq.trans rfl rfl
@[simp] theorem x_tst (f : En → Rs PyData) : tst f ρ = (f ρ).bind oTru := Eq.trans rfl rfl
@[simp] theorem x_andD (f g : En → Rs Bool) : tAndD f g ρ = (f ρ).bind fun c => if c then g ρ else .ok false := Eq.trans rfl rfl
@[simp] theorem x_orD (f g : En → Rs Bool) : tOrD f g ρ = (f ρ).bind fun c => if c then .ok true else g ρ := Eq.trans rfl rfl
@[simp] theorem x_notD (f : En → Rs Bool) : tNotD f ρ = (f ρ).bind fun c => .ok (!c) := Eq.trans rfl rfl
def andV (d : PyData) (r : Rs PyData) : Rs PyData := match d with
  | .bool b => if b then r else .ok (.bool false)
  | _ => .bad
def orV (d : PyData) (r : Rs PyData) : Rs PyData := match d with
  | .bool b => if b then .ok (.bool true) else r
  | _ => .bad
@[simp] theorem x_vAnd (f g : En → Rs PyData) : vAnd f g ρ = (f ρ).bind fun d => andV d (g ρ) := by
  unfold vAnd
  refine congrArg _ (funext fun d => ?_)
  cases d <;> try rfl
  rename_i b
  cases b <;> rfl
@[simp] theorem x_vOr (f g : En → Rs PyData) : vOr f g ρ = (f ρ).bind fun d => orV d (g ρ) := by
  unfold vOr
  refine congrArg _ (funext fun d => ?_)
  cases d <;> try rfl
  rename_i b
  cases b <;> rfl
@[simp] theorem andV_b (b : Bool) (r : Rs PyData) : andV (.bool b) r = if b then r else .ok (.bool false) := Eq.trans rfl rfl
@[simp] theorem orV_b (b : Bool) (r : Rs PyData) : orV (.bool b) r = if b then .ok (.bool true) else r := Eq.trans rfl rfl
@[simp] theorem x_vIf (t : En → Rs Bool) (f g : En → Rs PyData) : vIf t f g ρ = (t ρ).bind fun c => if c then f ρ else g ρ := Eq.trans rfl rfl
@[simp] theorem x_aNil : aNil ρ = .ok [] := Eq.trans rfl rfl
@[simp] theorem x_aCons (f : En → Rs PyData) (g : En → Rs (List PyData)) : aCons f g ρ = (f ρ).bind fun d => (g ρ).bind fun ds => .ok (d :: ds) := Eq.trans rfl rfl
@[simp] theorem x_mkT (f : En → Rs (List PyData)) : mkT f ρ = (f ρ).bind fun ds => if ds.length ≤ mx then .ok (.tuple ds) else .bad := Eq.trans rfl rfl
@[simp] theorem x_mkL (f : En → Rs (List PyData)) : mkL f ρ = (f ρ).bind fun ds => if ds.length ≤ mx then .ok (.list ds) else .bad := Eq.trans rfl rfl
@[simp] theorem x_call (g : List PyData → Rs PyData) (f : En → Rs (List PyData)) : dCall g f ρ = (f ρ).bind g := Eq.trans rfl rfl
@[simp] theorem x_callB (g : List PyData → Rs PyData) (f : En → Rs (List PyData)) : dCallB g f ρ = (f ρ).bind fun ds => outF (g ds) := Eq.trans rfl rfl
@[simp] theorem x_iOf (op : PyData → Rs (List PyData)) (f : En → Rs PyData) : iOf op f ρ = (f ρ).bind op := Eq.trans rfl rfl
def rV1 : PyData → Rs (List PyData)
  | .int n => rngD 0 n
  | _ => .bad
def rV2 : PyData → PyData → Rs (List PyData)
  | .int m, .int n => rngD m n
  | _, _ => .bad
def rV3 : PyData → PyData → PyData → Rs (List PyData)
  | .int m, .int n, .int c => rng3 m n c
  | _, _, _ => .bad
@[simp] theorem rV1_i (n : Int) : rV1 (.int n) = rngD 0 n := Eq.trans rfl rfl
@[simp] theorem rV2_i (m n : Int) : rV2 (.int m) (.int n) = rngD m n := Eq.trans rfl rfl
@[simp] theorem rV3_i (m n c : Int) : rV3 (.int m) (.int n) (.int c) = rng3 m n c := Eq.trans rfl rfl
@[simp] theorem x_range1 (f : En → Rs PyData) : iRange1 f ρ = (f ρ).bind rV1 := by
  unfold iRange1
  refine congrArg _ (funext fun d => ?_)
  cases d <;> rfl
@[simp] theorem x_range2 (f g : En → Rs PyData) : iRange2 f g ρ = (f ρ).bind fun d => (g ρ).bind fun e => rV2 d e := by
  unfold iRange2
  refine congrArg _ (funext fun d => ?_)
  refine congrArg _ (funext fun e => ?_)
  cases d <;> cases e <;> rfl
@[simp] theorem x_range3 (f g h : En → Rs PyData) : iRange3 f g h ρ = (f ρ).bind fun d => (g ρ).bind fun e => (h ρ).bind fun k => rV3 d e k := by
  unfold iRange3
  refine congrArg _ (funext fun d => ?_)
  refine congrArg _ (funext fun e => ?_)
  refine congrArg _ (funext fun k => ?_)
  cases d <;> cases e <;> cases k <;> rfl
@[simp] theorem x_pNo : pNo ρ = .ok none := Eq.trans rfl rfl
def soV : PyData → Rs (Option Int)
  | .int i => .ok (some i)
  | _ => .bad
@[simp] theorem soV_i (i : Int) : soV (.int i) = .ok (some i) := Eq.trans rfl rfl
@[simp] theorem x_pSo (f : En → Rs PyData) : pSo f ρ = (f ρ).bind soV := by
  unfold pSo
  refine congrArg _ (funext fun d => ?_)
  cases d <;> rfl
@[simp] theorem x_cut (f : En → Rs PyData) (l h : En → Rs (Option Int)) : dCut f l h ρ = (f ρ).bind fun d => (l ρ).bind fun lo => (h ρ).bind fun hi => oCut lo hi d := Eq.trans rfl rfl
@[simp] theorem x_cutL (f : En → Rs PyData) (l h : En → Rs (Option Int)) : dCutL f l h ρ = (f ρ).bind fun d => (l ρ).bind fun lo => (h ρ).bind fun hi => oCutL lo hi d := Eq.trans rfl rfl
@[simp] theorem x_lc (vs : List Nat) (fi : En → Rs (List PyData)) (τ : TgD) (tt : En → Rs Bool) (te : En → Rs PyData) : lcD vs fi τ tt te ρ = (fi ρ).bind fun ds =>
  if ds.length ≤ mx && noOwn ρ vs then (lcL τ tt te ds (wipeE ρ vs)).bind fun r => .ok (.list r) else .bad := rfl
@[simp] theorem x_tY : tY ρ = .ok true := Eq.trans rfl rfl
@[simp] theorem x_tName (i : Nat) (d : PyData) : τName i d ρ = .ok (ρ.set i (some (.val d))) := Eq.trans rfl rfl
end
/-! ### slots of a written state -/
@[simp] theorem x_var0 (d : PyData) (ρ : En) : dVar 0 (some (.val d) :: ρ) = .ok d := Eq.trans rfl rfl
@[simp] theorem x_varS (i : Nat) (x : Option SV) (ρ : En) : dVar (i + 1) (x :: ρ) = dVar i ρ := Eq.trans rfl rfl
@[simp] theorem x_bvar0 (d : PyData) (ρ : En) : bVar 0 (some (.val d) :: ρ) = .ok d := Eq.trans rfl rfl
@[simp] theorem x_bvar0o (d : PyData) (ρ : En) : bVar 0 (some (.own d) :: ρ) = .ok d := Eq.trans rfl rfl
@[simp] theorem x_bvarS (i : Nat) (x : Option SV) (ρ : En) : bVar (i + 1) (x :: ρ) = bVar i ρ := Eq.trans rfl rfl
theorem frz_val {i : Nat} {ρ : En} {d : PyData} (h : ρ[i]? = some (some (.val d))) : frz i ρ = ρ := by unfold frz; rw [h]
theorem frz_own {i : Nat} {ρ : En} {d : PyData} (h : ρ[i]? = some (some (.own d))) : frz i ρ = ρ.set i (some (.val d)) := by unfold frz; rw [h]
@[simp] theorem frz_zero_own (d : PyData) (ρ : En) : frz 0 (some (.own d) :: ρ) = some (.val d) :: ρ := Eq.trans rfl rfl
@[simp] theorem frz_zero_val (d : PyData) (ρ : En) : frz 0 (some (.val d) :: ρ) = some (.val d) :: ρ := Eq.trans rfl rfl
@[simp] theorem frz_zero_none (ρ : En) : frz 0 (none :: ρ) = none :: ρ := Eq.trans rfl rfl
@[simp] theorem frz_succ (i : Nat) (x : Option SV) (ρ : En) : frz (i + 1) (x :: ρ) = x :: frz i ρ := by
  unfold frz
  rw [List.getElem?_cons_succ]
  cases e : ρ[i]? with
  | none => rfl
  | some y =>
    cases y with
    | none => rfl
    | some sv => cases sv <;> rfl
@[simp] theorem x_app (i : Nat) (f : En → Rs PyData) (ρ : En) (ds : List PyData) (h : ρ[i]? = some (some (.own (.list ds)))) : sApp i f ρ = eS ρ (f ρ) fun d => if ds.length < mx then .nx (ρ.set i (some (.own (.list (ds ++ [d]))))) else .bad := by
  unfold sApp
  rw [h]
/-! ### operations -/
@[simp] theorem tru_bool (b : Bool) : oTru (.bool b) = .ok b := Eq.trans rfl rfl
@[simp] theorem add_ii (i j : Int) : oAdd (.int i) (.int j) = .ok (.int (i + j)) := Eq.trans rfl rfl
@[simp] theorem add_ss (i j : Str) : oAdd (.str i) (.str j) = if i.length + j.length ≤ mx then .ok (.str (i ++ j)) else .bad := Eq.trans rfl rfl
@[simp] theorem add_tt (i j : List PyData) : oAdd (.tuple i) (.tuple j) = if i.length + j.length ≤ mx then .ok (.tuple (i ++ j)) else .bad := Eq.trans rfl rfl
@[simp] theorem add_ll (i j : List PyData) : oAdd (.list i) (.list j) = if i.length + j.length ≤ mx then .ok (.list (i ++ j)) else .bad := Eq.trans rfl rfl
@[simp] theorem addL_ll (i j : List PyData) : oAddL (.list i) (.list j) = if i.length + j.length ≤ mx then .ok (.list (i ++ j)) else .bad := Eq.trans rfl rfl
@[simp] theorem sub_ii (i j : Int) : oSub (.int i) (.int j) = .ok (.int (i - j)) := Eq.trans rfl rfl
@[simp] theorem mul_ii (i j : Int) : oMul (.int i) (.int j) = if mulOk i j then .ok (.int (i * j)) else .bad := Eq.trans rfl rfl
@[simp] theorem mod_ii (i j : Int) : oMod (.int i) (.int j) = if 0 < j then .ok (.int (i % j)) else .bad := Eq.trans rfl rfl
@[simp] theorem div_ii (i j : Int) : oDiv (.int i) (.int j) = if 0 < j ∧ j < 1073741824 then .ok (.int (i / j)) else .bad := Eq.trans rfl rfl
@[simp] theorem pow_18 : oPow (.int 10) (.int 18) = .ok (.int 1000000000000000000) := by
  simp only [oPow]
  have e : (decide ((0 : Int) ≤ 18) && decide ((18 : Int) ≤ 1000000) && decide ((10 : Int).natAbs < 18446744073709551616)) = true := by decide +kernel
  rw [if_pos e]
  have e2 : (10 : Int) ^ (18 : Int).toNat = 1000000000000000000 := by decide +kernel
  rw [e2]
@[simp] theorem lt_ii (i j : Int) : oLt (.int i) (.int j) = .ok (.bool (decide (i < j))) := Eq.trans rfl rfl
@[simp] theorem le_ii (i j : Int) : oLe (.int i) (.int j) = .ok (.bool (decide (i ≤ j))) := Eq.trans rfl rfl
@[simp] theorem gt_ii (i j : Int) : oGt (.int i) (.int j) = .ok (.bool (decide (j < i))) := Eq.trans rfl rfl
@[simp] theorem ge_ii (i j : Int) : oGe (.int i) (.int j) = .ok (.bool (decide (j ≤ i))) := Eq.trans rfl rfl
@[simp] theorem eq_ii (i j : Int) : oEq (.int i) (.int j) = .ok (.bool (decide (i = j))) := by
  have e : cmpOk (.int i) (.int j) = true := Eq.trans rfl rfl
  unfold oEq
  rw [if_pos e]
  have : PyData.eqv (.int i) (.int j) = (i == j) := by simp [PyData.eqv]
  rw [this, Bool.beq_eq_decide_eq]
@[simp] theorem ne_ii (i j : Int) : oNe (.int i) (.int j) = .ok (.bool (!decide (i = j))) := by
  have e : cmpOk (.int i) (.int j) = true := Eq.trans rfl rfl
  unfold oNe
  rw [if_pos e]
  have : PyData.eqv (.int i) (.int j) = (i == j) := by simp [PyData.eqv]
  rw [this, Bool.beq_eq_decide_eq]
@[simp] theorem eq_ss (i j : Str) : oEq (.str i) (.str j) = .ok (.bool (decide (i = j))) := by
  have e : cmpOk (.str i) (.str j) = true := Eq.trans rfl rfl
  unfold oEq
  rw [if_pos e]
  have : PyData.eqv (.str i) (.str j) = (i == j) := by simp [PyData.eqv]
  rw [this, Bool.beq_eq_decide_eq]
@[simp] theorem ne_ss (i j : Str) : oNe (.str i) (.str j) = .ok (.bool (!decide (i = j))) := by
  have e : cmpOk (.str i) (.str j) = true := Eq.trans rfl rfl
  unfold oNe
  rw [if_pos e]
  have : PyData.eqv (.str i) (.str j) = (i == j) := by simp [PyData.eqv]
  rw [this, Bool.beq_eq_decide_eq]
@[simp] theorem eq_bb (i j : Bool) : oEq (.bool i) (.bool j) = .ok (.bool (decide (i = j))) := by
  have e : cmpOk (.bool i) (.bool j) = true := Eq.trans rfl rfl
  unfold oEq
  rw [if_pos e]
  have : PyData.eqv (.bool i) (.bool j) = (i == j) := by simp [PyData.eqv]
  rw [this, Bool.beq_eq_decide_eq]
@[simp] theorem is_n : oIs .none .none = .ok (.bool true) := Eq.trans rfl rfl
@[simp] theorem is_i (i : Int) : oIs (.int i) .none = .ok (.bool false) := Eq.trans rfl rfl
@[simp] theorem is_b (i : Bool) : oIs (.bool i) .none = .ok (.bool false) := Eq.trans rfl rfl
@[simp] theorem is_s (i : Str) : oIs (.str i) .none = .ok (.bool false) := Eq.trans rfl rfl
@[simp] theorem is_t (i : List PyData) : oIs (.tuple i) .none = .ok (.bool false) := Eq.trans rfl rfl
@[simp] theorem is_l (i : List PyData) : oIs (.list i) .none = .ok (.bool false) := Eq.trans rfl rfl
@[simp] theorem isnot_n : oIsNot .none .none = .ok (.bool false) := Eq.trans rfl rfl
@[simp] theorem isnot_i (i : Int) : oIsNot (.int i) .none = .ok (.bool true) := Eq.trans rfl rfl
@[simp] theorem isnot_b (i : Bool) : oIsNot (.bool i) .none = .ok (.bool true) := Eq.trans rfl rfl
@[simp] theorem isnot_s (i : Str) : oIsNot (.str i) .none = .ok (.bool true) := Eq.trans rfl rfl
@[simp] theorem isnot_t (i : List PyData) : oIsNot (.tuple i) .none = .ok (.bool true) := Eq.trans rfl rfl
@[simp] theorem isnot_l (i : List PyData) : oIsNot (.list i) .none = .ok (.bool true) := Eq.trans rfl rfl
@[simp] theorem len_l (xs : List PyData) : oLen (.list xs) = .ok (.int xs.length) := Eq.trans rfl rfl
@[simp] theorem len_t (xs : List PyData) : oLen (.tuple xs) = .ok (.int xs.length) := Eq.trans rfl rfl
@[simp] theorem len_scr (xs : List PyData) : oLen (.dict [(.none, .list xs)]) = .ok (.int xs.length) := Eq.trans rfl rfl
@[simp] theorem len_s (z : Str) : oLen (.str z) = if z.length ≤ mx then .ok (.int z.length) else .bad := Eq.trans rfl rfl
@[simp] theorem int_i (i : Int) : oInt (.int i) = .ok (.int i) := Eq.trans rfl rfl
@[simp] theorem tuple_l (xs : List PyData) : oTuple (.list xs) = .ok (.tuple xs) := Eq.trans rfl rfl
@[simp] theorem tuple_t (xs : List PyData) : oTuple (.tuple xs) = .ok (.tuple xs) := Eq.trans rfl rfl
@[simp] theorem list_l (xs : List PyData) : oList (.list xs) = .ok (.list xs) := Eq.trans rfl rfl
@[simp] theorem list_t (xs : List PyData) : oList (.tuple xs) = .ok (.list xs) := Eq.trans rfl rfl
@[simp] theorem min_ii (i j : Int) : oMin2 (.int i) (.int j) = .ok (.int (if j < i then j else i)) := Eq.trans rfl rfl
@[simp] theorem max_ii (i j : Int) : oMax2 (.int i) (.int j) = .ok (.int (if j > i then j else i)) := Eq.trans rfl rfl
@[simp] theorem not_b (b : Bool) : oNot (.bool b) = .ok (.bool (!b)) := Eq.trans rfl rfl
@[simp] theorem neg_i (i : Int) : oNeg (.int i) = .ok (.int (-i)) := Eq.trans rfl rfl
@[simp] theorem ixl (xs : List PyData) (i : Int) : oIx (.list xs) (.int i) = match atI xs i with | some d => .ok d | none => .bad := Eq.trans rfl rfl
@[simp] theorem ixt (xs : List PyData) (i : Int) : oIx (.tuple xs) (.int i) = match atI xs i with | some d => .ok d | none => .bad := Eq.trans rfl rfl
@[simp] theorem ixs (xs : List PyData) (i : Int) : oIx (.dict [(.none, .list xs)]) (.int i) = match atI xs i with | some d => .ok d | none => .bad := Eq.trans rfl rfl
@[simp] theorem cut_l (lo hi : Option Int) (xs : List PyData) : oCut lo hi (.list xs) = .ok (.list (cutD xs lo hi)) := Eq.trans rfl rfl
@[simp] theorem cut_t (lo hi : Option Int) (xs : List PyData) : oCut lo hi (.tuple xs) = .ok (.tuple (cutD xs lo hi)) := Eq.trans rfl rfl
@[simp] theorem any_l (xs : List PyData) : oAny (.list xs) = .ok xs := Eq.trans rfl rfl
@[simp] theorem any_t (xs : List PyData) : oAny (.tuple xs) = .ok xs := Eq.trans rfl rfl
/-- an item at a written place -/
@[simp] theorem at0 {α : Type} (x : α) (xs : List α) : atI (x :: xs) 0 = some x := atI_nat (j := 0) rfl
theorem at_nat {α : Type} (xs : List α) (j : Nat) : atI xs (j : Int) = xs[j]? := by
  cases e : xs[j]? with
  | some v => exact atI_nat e
  | none =>
    unfold atI ixN
    have h : xs.length ≤ j := List.getElem?_eq_none_iff.mp e
    rw [if_pos (Int.natCast_nonneg j), if_neg (by omega)]
    rfl
@[simp] theorem at1 {α : Type} (x y : α) (xs : List α) : atI (x :: y :: xs) 1 = some y := at_nat _ 1
@[simp] theorem at2 {α : Type} (x y z : α) (xs : List α) : atI (x :: y :: z :: xs) 2 = some z := at_nat _ 2
@[simp] theorem at3 {α : Type} (x y z u : α) (xs : List α) : atI (x :: y :: z :: u :: xs) 3 = some u := at_nat _ 3
@[simp] theorem isTup_t (xs : List PyData) : oIsTup (.tuple xs) = .ok (.bool true) := Eq.trans rfl rfl
@[simp] theorem isTup_i (i : Int) : oIsTup (.int i) = .ok (.bool false) := Eq.trans rfl rfl
@[simp] theorem isTup_b (i : Bool) : oIsTup (.bool i) = .ok (.bool false) := Eq.trans rfl rfl
@[simp] theorem isTup_s (i : Str) : oIsTup (.str i) = .ok (.bool false) := Eq.trans rfl rfl
@[simp] theorem isTup_n : oIsTup .none = .ok (.bool false) := Eq.trans rfl rfl
@[simp] theorem isInt_t (xs : List PyData) : oIsInt (.tuple xs) = .ok (.bool false) := Eq.trans rfl rfl
@[simp] theorem isInt_i (i : Int) : oIsInt (.int i) = .ok (.bool true) := Eq.trans rfl rfl
@[simp] theorem isInt_b (i : Bool) : oIsInt (.bool i) = .ok (.bool true) := Eq.trans rfl rfl
@[simp] theorem isInt_s (i : Str) : oIsInt (.str i) = .ok (.bool false) := Eq.trans rfl rfl
@[simp] theorem isInt_n : oIsInt .none = .ok (.bool false) := Eq.trans rfl rfl
@[simp] theorem isBool_t (xs : List PyData) : oIsBool (.tuple xs) = .ok (.bool false) := Eq.trans rfl rfl
@[simp] theorem isBool_i (i : Int) : oIsBool (.int i) = .ok (.bool false) := Eq.trans rfl rfl
@[simp] theorem isBool_b (i : Bool) : oIsBool (.bool i) = .ok (.bool true) := Eq.trans rfl rfl
@[simp] theorem isBool_s (i : Str) : oIsBool (.str i) = .ok (.bool false) := Eq.trans rfl rfl
@[simp] theorem isBool_n : oIsBool .none = .ok (.bool false) := Eq.trans rfl rfl
@[simp] theorem isStr_t (xs : List PyData) : oIsStr (.tuple xs) = .ok (.bool false) := Eq.trans rfl rfl
@[simp] theorem isStr_i (i : Int) : oIsStr (.int i) = .ok (.bool false) := Eq.trans rfl rfl
@[simp] theorem isStr_b (i : Bool) : oIsStr (.bool i) = .ok (.bool false) := Eq.trans rfl rfl
@[simp] theorem isStr_s (i : Str) : oIsStr (.str i) = .ok (.bool true) := Eq.trans rfl rfl
@[simp] theorem isStr_n : oIsStr .none = .ok (.bool false) := Eq.trans rfl rfl
/-- a range of few turns -/
theorem rng_nat {n : Nat} (h : n ≤ 1000000000) : rngD 0 (n : Int) = .ok ((List.range n).map fun (k : Nat) => .int (k : Int)) := by
  unfold rngD
  have e : ((n : Int) - 0).toNat = n := by omega
  rw [e]
  have c : (decide (-4611686018427387904 ≤ (0 : Int)) && decide ((0 : Int) < 4611686018427387904) && decide (-4611686018427387904 ≤ (n : Int)) && decide ((n : Int) < 4611686018427387904) && decide (n ≤ 4611686018427387904)) = true := by
    simp only [Bool.and_eq_true, decide_eq_true_eq]
    omega
  rw [if_pos c]
  simp
@[simp] theorem mulOk_r {i j : Int} (h : -18446744073709551616 < j ∧ j < 18446744073709551616) : mulOk i j = true := by
  unfold mulOk
  simp [h.1, h.2]
theorem mulOk_l {i j : Int} (h : -18446744073709551616 < i ∧ i < 18446744073709551616) : mulOk i j = true := by
  unfold mulOk
  simp [h.1, h.2]
/-! ### ifs -/
section
variable {p : Prop} [Decidable p]
@[simp] theorem if_ok_true (d : Bool) : (if p then Rs.ok true else Rs.ok d) = Rs.ok (decide p || d) := by by_cases h : p <;> simp [h]
@[simp] theorem if_ok_false (d : Bool) : (if p then Rs.ok d else Rs.ok false) = Rs.ok (decide p && d) := by by_cases h : p <;> simp [h]
@[simp] theorem bind_if {α β : Type} (a b : Rs α) (k : α → Rs β) : (if p then a else b).bind k = if p then a.bind k else b.bind k := by by_cases h : p <;> simp [h]
@[simp] theorem eS_if {α : Type} (ρ : En) (a b : Rs α) (k : α → SRes) : eS ρ (if p then a else b) k = if p then eS ρ a k else eS ρ b k := by by_cases h : p <;> simp [h]
@[simp] theorem then_if (a b : SRes) (k : En → SRes) : sThen (if p then a else b) k = if p then sThen a k else sThen b k := by by_cases h : p <;> simp [h]
@[simp] theorem outS_if (a b : SRes) : outS (if p then a else b) = if p then outS a else outS b := by by_cases h : p <;> simp [h]
end
@[simp] theorem outS_ret (d : PyData) : outS (.ret d) = .ok d := Eq.trans rfl rfl
@[simp] theorem outS_nx (ρ : En) : outS (.nx ρ) = .ok .none := Eq.trans rfl rfl
@[simp] theorem outS_ex (e : Exn) (ρ : En) : outS (.ex e ρ) = .ex e := Eq.trans rfl rfl
@[simp] theorem outS_bad : outS .bad = .bad := Eq.trans rfl rfl
@[simp] theorem if_okb_true {p : Prop} [Decidable p] (d : Bool) : (if p then Rs.ok (PyData.bool true) else Rs.ok (.bool d)) = Rs.ok (.bool (decide p || d)) := by by_cases h : p <;> simp [h]
@[simp] theorem if_okb_false {p : Prop} [Decidable p] (d : Bool) : (if p then Rs.ok (PyData.bool d) else Rs.ok (.bool false)) = Rs.ok (.bool (decide p && d)) := by by_cases h : p <;> simp [h]
@[simp] theorem if_okb_f1 {p : Prop} [Decidable p] (d : Bool) : (if p then Rs.ok (PyData.bool false) else Rs.ok (.bool d)) = Rs.ok (.bool (!decide p && d)) := by by_cases h : p <;> simp [h]
@[simp] theorem if_okb_t2 {p : Prop} [Decidable p] (d : Bool) : (if p then Rs.ok (PyData.bool d) else Rs.ok (.bool true)) = Rs.ok (.bool (!decide p || d)) := by by_cases h : p <;> simp [h]
/-- a def that runs to its end -/
theorem runF_ret {n m : Nat} {b : En → SRes} {ds : List PyData} {d : PyData} (hl : ds.length = m) (h : b (ds.map (fun d => some (.val d)) ++ List.replicate (n - m) none) = .ret d) : runF n m b ds = .ok d := by
  unfold runF
  rw [if_pos hl, h]
  rfl
theorem runF_nx {n m : Nat} {b : En → SRes} {ds : List PyData} {ρ : En} (hl : ds.length = m) (h : b (ds.map (fun d => some (.val d)) ++ List.replicate (n - m) none) = .nx ρ) : runF n m b ds = .ok .none := by
  unfold runF
  rw [if_pos hl, h]
  rfl
end DL
namespace DL
open PySem PySem.Spec PyProof.Rows L2
/-! ### loops -/
/-- behind a turn -/
def Aft (r : SRes) (I : En → Prop) (R : SRes → Prop) : Prop := match r with
  | .nx ρ => I ρ
  | .ct ρ => I ρ
  | .brk ρ => R (.nx ρ)
  | r => R r
@[simp] theorem aft_nx (ρ : En) (I : En → Prop) (R : SRes → Prop) : Aft (.nx ρ) I R = I ρ := Eq.trans rfl rfl
@[simp] theorem aft_ct (ρ : En) (I : En → Prop) (R : SRes → Prop) : Aft (.ct ρ) I R = I ρ := Eq.trans rfl rfl
@[simp] theorem aft_brk (ρ : En) (I : En → Prop) (R : SRes → Prop) : Aft (.brk ρ) I R = R (.nx ρ) := Eq.trans rfl rfl
@[simp] theorem aft_ret (d : PyData) (I : En → Prop) (R : SRes → Prop) : Aft (.ret d) I R = R (.ret d) := Eq.trans rfl rfl
@[simp] theorem aft_ex (e : Exn) (ρ : En) (I : En → Prop) (R : SRes → Prop) : Aft (.ex e ρ) I R = R (.ex e ρ) := Eq.trans rfl rfl
/-- by what is left -/
theorem for_ind {τ : TgD} {b : En → SRes} (I : List PyData → En → Prop) (R : SRes → Prop) (hs : ∀ d ds ρ, I (d :: ds) ρ → ∃ ρ1, τ d ρ = .ok ρ1 ∧ Aft (b ρ1) (I ds) R) (he : ∀ ρ, I [] ρ → R (.nx ρ)) : ∀ {ds : List PyData} {ρ : En}, I ds ρ → R (forS τ b ds ρ)
  | [], ρ, h => he ρ h
  | d :: ds, ρ, h => by
    obtain ⟨ρ1, e, q⟩ := hs d ds ρ h
    unfold forS
    rw [e]
    dsimp only
    cases eb : b ρ1 with
    | nx ρ' => rw [eb] at q; exact for_ind I R hs he q
    | ct ρ' => rw [eb] at q; exact for_ind I R hs he q
    | brk ρ' => rw [eb] at q; exact q
    | ret d => rw [eb] at q; exact q
    | ex x ρ' => rw [eb] at q; exact q
    | bad => rw [eb] at q; exact q
/-- over a range, one name -/
theorem for_rng {i : Nat} {b : En → SRes} (n : Nat) (I : Nat → En → Prop) (R : SRes → Prop) {ρ : En} (h0 : I 0 ρ) (hs : ∀ (k : Nat) ρ, k < n → I k ρ → Aft (b (ρ.set i (some (.val (.int (k : Int)))))) (I (k + 1)) R) (he : ∀ ρ, I n ρ → R (.nx ρ)) : R (forS (τName i) b ((List.range n).map fun (k : Nat) => .int (k : Int)) ρ) := by
  have go : ∀ (m k : Nat) (ρ : En), k + m = n → I k ρ → R (forS (τName i) b ((List.range' k m).map fun (k : Nat) => .int (k : Int)) ρ) := by
    intro m
    induction m with
    | zero => intro k ρ e h; exact he ρ (by rw [← e]; exact h)
    | succ m ih =>
      intro k ρ e h
      rw [List.range'_succ, List.map_cons]
      have q := hs k ρ (by omega) h
      show R (match b (ρ.set i (some (.val (.int (k : Int))))) with
        | .nx ρ' => forS (τName i) b ((List.range' (k + 1) m).map fun (k : Nat) => .int (k : Int)) ρ'
        | .ct ρ' => forS (τName i) b ((List.range' (k + 1) m).map fun (k : Nat) => .int (k : Int)) ρ'
        | .brk ρ' => .nx ρ'
        | r => r)
      cases eb : b (ρ.set i (some (.val (.int (k : Int))))) with
      | nx ρ' => rw [eb] at q; exact ih (k + 1) ρ' (by omega) q
      | ct ρ' => rw [eb] at q; exact ih (k + 1) ρ' (by omega) q
      | brk ρ' => rw [eb] at q; exact q
      | ret d => rw [eb] at q; exact q
      | ex x ρ' => rw [eb] at q; exact q
      | bad => rw [eb] at q; exact q
  have e := go n 0 ρ (by omega) h0
  rwa [← List.range_eq_range'] at e
/-- draws: each below its size -/
inductive Dr : List Int → List Int → Prop
  | nil : Dr [] []
  | cons {o n : Int} {os ns : List Int} : 0 ≤ o → o < n → Dr os ns → Dr (o :: os) (n :: ns)
theorem Dr.length {os ns : List Int} (h : Dr os ns) : os.length = ns.length := by
  induction h with
  | nil => rfl
  | cons _ _ _ ih => rw [List.length_cons, List.length_cons, ih]
theorem Dr.get {os ns : List Int} (h : Dr os ns) {i : Nat} {n : Int} (e : ns[i]? = some n) : ∃ o, os[i]? = some o ∧ 0 ≤ o ∧ o < n := by
  induction h generalizing i with
  | nil => simp at e
  | cons h1 h2 _ ih =>
    cases i with
    | zero => simp at e; subst e; exact ⟨_, rfl, h1, h2⟩
    | succ i =>
      obtain ⟨o, q, r⟩ := ih (i := i) (by simpa using e)
      exact ⟨o, by simpa using q, r⟩
theorem Dr.snoc {os ns : List Int} {o n : Int} (h : Dr os ns) (h1 : 0 ≤ o) (h2 : o < n) : Dr (os ++ [o]) (ns ++ [n]) := by
  induction h with
  | nil => exact .cons h1 h2 .nil
  | cons a b _ ih => exact .cons a b ih
theorem at_int {α : Type} (xs : List α) {i : Int} (h : 0 ≤ i) : atI xs i = xs[i.toNat]? := by
  have e : i = ((i.toNat : Nat) : Int) := by omega
  rw [e, at_nat, Int.toNat_natCast]
theorem map_at {α β : Type} (f : α → β) (xs : List α) (i : Nat) : (xs.map f)[i]? = (xs[i]?).map f := List.getElem?_map
theorem ints_app (a : List Int) (x : Int) : a.map PyData.int ++ [.int x] = (a ++ [x]).map PyData.int := by rw [List.map_append]; rfl
end DL

/-! DM2: what every law draws, and how it compares. -/
namespace DL
open PySem PySem.Spec PyProof.Rows L2
@[simp] theorem mx_1 : (1 : Nat) ≤ mx := by decide
@[simp] theorem mx_2 : (2 : Nat) ≤ mx := by decide
@[simp] theorem mx_3 : (3 : Nat) ≤ mx := by decide
@[simp] theorem mx_4 : (4 : Nat) ≤ mx := by decide
@[simp] theorem mx_5 : (5 : Nat) ≤ mx := by decide
@[simp] theorem mx_6 : (6 : Nat) ≤ mx := by decide
@[simp] theorem mx_7 : (7 : Nat) ≤ mx := by decide
@[simp] theorem mx_8 : (8 : Nat) ≤ mx := by decide
@[simp] theorem mx_9 : (9 : Nat) ≤ mx := by decide
@[simp] theorem mx_10 : (10 : Nat) ≤ mx := by decide
@[simp] theorem mx_11 : (11 : Nat) ≤ mx := by decide
@[simp] theorem mx_12 : (12 : Nat) ≤ mx := by decide
@[simp] theorem mx_13 : (13 : Nat) ≤ mx := by decide
@[simp] theorem mx_14 : (14 : Nat) ≤ mx := by decide
@[simp] theorem mx_15 : (15 : Nat) ≤ mx := by decide
@[simp] theorem mx_16 : (16 : Nat) ≤ mx := by decide
@[simp] theorem mx_17 : (17 : Nat) ≤ mx := by decide
@[simp] theorem mx_18 : (18 : Nat) ≤ mx := by decide
@[simp] theorem mx_19 : (19 : Nat) ≤ mx := by decide
@[simp] theorem mx_20 : (20 : Nat) ≤ mx := by decide
@[simp] theorem mx_21 : (21 : Nat) ≤ mx := by decide
@[simp] theorem mx_22 : (22 : Nat) ≤ mx := by decide
@[simp] theorem mx_23 : (23 : Nat) ≤ mx := by decide
@[simp] theorem mx_24 : (24 : Nat) ≤ mx := by decide
@[simp] theorem mx_25 : (25 : Nat) ≤ mx := by decide
@[simp] theorem mx_26 : (26 : Nat) ≤ mx := by decide
@[simp] theorem mx_27 : (27 : Nat) ≤ mx := by decide
@[simp] theorem mx_28 : (28 : Nat) ≤ mx := by decide
@[simp] theorem mx_29 : (29 : Nat) ≤ mx := by decide
@[simp] theorem mx_30 : (30 : Nat) ≤ mx := by decide
@[simp] theorem mx_31 : (31 : Nat) ≤ mx := by decide
@[simp] theorem mx_32 : (32 : Nat) ≤ mx := by decide
@[simp] theorem mx_33 : (33 : Nat) ≤ mx := by decide
@[simp] theorem mx_34 : (34 : Nat) ≤ mx := by decide
@[simp] theorem mx_35 : (35 : Nat) ≤ mx := by decide
@[simp] theorem mx_36 : (36 : Nat) ≤ mx := by decide
@[simp] theorem mx_37 : (37 : Nat) ≤ mx := by decide
@[simp] theorem mx_38 : (38 : Nat) ≤ mx := by decide
@[simp] theorem mx_39 : (39 : Nat) ≤ mx := by decide
@[simp] theorem mx_40 : (40 : Nat) ≤ mx := by decide
@[simp] theorem mx_0 : (0 : Nat) < mx := by decide
def c_cell : En → SRes :=
  (sSeq (sIf (tst (b2 oLt (dVar 1) (b1 oLen (dVar 0))))
  (sRet (b1 oInt (b2 oIx (dVar 0) (dVar 1))))
  sNil)
  (sRet (dC (.int 0))))
def g_cell : List PyData → Rs PyData := runF 2 2 c_cell
def c_draws_1 : En → SRes :=
  (sSeq (sApp 2 (b2 oMod (b1 oInt (dVar 3)) (dVar 4)))
  (sSet 3 (b2 oDiv (dVar 3) (dVar 4))))
def c_draws_2 : En → SRes :=
  (sSeq (sSet 5 (b2 oMod (b1 oInt (b2 oAdd (b2 oAdd (b2 oMul (dVar 5) (dC (.int 39373))) (b2 oMul (dC (.int 6007)) (dVar 6))) (dC (.int 91)))) (dC (.int 2147483647))))
  (sSeq (sSet 7 (b2 oMod (b1 oInt (b2 oAdd (b2 oAdd (b2 oMul (b2 oDiv (dVar 5) (dC (.int 5))) (dC (.int 40692))) (b2 oMul (dC (.int 211)) (dVar 6))) (dC (.int 3)))) (dC (.int 2147483399))))
  (sApp 2 (b2 oMod (b1 oInt (dVar 7)) (b2 oIx (dVar 1) (dVar 6))))))
def c_draws : En → SRes :=
  (sSeq (sSetO 2 (mkL aNil))
  (sSeq (sIf (tst (b2 oGe (dVar 0) (b2 oPow (dC (.int 10)) (dC (.int 18)))))
  (sSeq (sSet 3 (b1 oInt (dVar 0)))
  (sSeq (sFor (iOf oAny (dVar 1)) (τName 4) c_draws_1)
  (sFrz 2 (sRet (dVar 2)))))
  sNil)
  (sSeq (sSet 5 (b2 oMod (b1 oInt (dVar 0)) (dC (.int 2147483647))))
  (sSeq (sFor (iRange1 (b1 oLen (dVar 1))) (τName 6) c_draws_2)
  (sFrz 2 (sRet (dVar 2)))))))
def g_draws : List PyData → Rs PyData := runF 8 2 c_draws
def c_same_1 (self : List PyData → Rs PyData) : En → SRes :=
  (sIf (tNotD (tst (dCall self (aCons (b2 oIx (dVar 0) (dVar 2)) (aCons (b2 oIx (dVar 1) (dVar 2)) aNil)))))
  (sRet (dC (.bool false)))
  sNil)
def c_same (self : List PyData → Rs PyData) : En → SRes :=
  (sSeq (sIf (tst (b1 oIsTup (dVar 1)))
  (sSeq (sIf (tOrD (tNotD (tst (b1 oIsTup (dVar 0)))) (tst (b2 oNe (b1 oLen (dVar 0)) (b1 oLen (dVar 1)))))
  (sRet (dC (.bool false)))
  sNil)
  (sSeq (sFor (iRange1 (b1 oLen (dVar 1))) (τName 2) (c_same_1 self))
  (sRet (dC (.bool true)))))
  sNil)
  (sSeq (sIf (tst (b2 oIs (dVar 1) (dC .none)))
  (sRet (b2 oIs (dVar 0) (dC .none)))
  sNil)
  (sSeq (sIf (tst (b1 oIsBool (dVar 1)))
  (sRet (vAnd (b1 oIsBool (dVar 0)) (b2 oEq (dVar 0) (dVar 1))))
  sNil)
  (sSeq (sIf (tst (b1 oIsInt (dVar 1)))
  (sRet (vAnd (b1 oIsInt (dVar 0)) (vAnd (b1 oNot (b1 oIsBool (dVar 0))) (b2 oEq (dVar 0) (dVar 1)))))
  sNil)
  (sRet (vAnd (b1 oIsStr (dVar 0)) (b2 oEq (dVar 0) (dVar 1))))))))
def g_same : Nat → List PyData → Rs PyData
  | 0 => fun _ => .bad
  | n + 1 => runF 3 2 (c_same (g_same n))
/-- over a list, by place -/
theorem for_at {τ : TgD} {b : En → SRes} (xs : List PyData) (I : Nat → En → Prop) (R : SRes → Prop) {ρ : En} (h0 : I 0 ρ) (hs : ∀ (k : Nat) d ρ, xs[k]? = some d → I k ρ → ∃ ρ1, τ d ρ = .ok ρ1 ∧ Aft (b ρ1) (I (k + 1)) R) (he : ∀ ρ, I xs.length ρ → R (.nx ρ)) : R (forS τ b xs ρ) := by
  refine for_ind (fun ds ρ => ∃ k, xs.drop k = ds ∧ k ≤ xs.length ∧ I k ρ) R ?_ ?_ ⟨0, rfl, Nat.zero_le _, h0⟩
  · rintro d ds ρ ⟨k, e, hk, hi⟩
    have hk' : k < xs.length := by
      rcases Nat.lt_or_ge k xs.length with h | h
      · exact h
      · rw [List.drop_eq_nil_of_le h] at e
        cases e
    have ek : xs[k]? = some d := by
      have := congrArg (·[0]?) e
      simpa using this
    obtain ⟨ρ1, t, q⟩ := hs k d ρ ek hi
    refine ⟨ρ1, t, ?_⟩
    have ed : xs.drop (k + 1) = ds := by
      have h2 := congrArg List.tail e
      rw [List.tail_drop] at h2
      exact h2
    cases eb : b ρ1 with
    | nx ρ' => rw [eb] at q; exact ⟨k + 1, ed, hk', q⟩
    | ct ρ' => rw [eb] at q; exact ⟨k + 1, ed, hk', q⟩
    | brk ρ' => rw [eb] at q; exact q
    | ret d => rw [eb] at q; exact q
    | ex x ρ' => rw [eb] at q; exact q
    | bad => rw [eb] at q; exact q
  · rintro ρ ⟨k, e, hk, hi⟩
    have : k = xs.length := by
      have := congrArg List.length e
      simp at this
      omega
    subst this
    exact he ρ hi
theorem cell_ok (ns : List Int) (k : Nat) : ∃ c : Int, g_cell [scr ns, .int (k : Int)] = .ok (.int c) := by
  by_cases h : k < ns.length
  · refine ⟨ns[k], ?_⟩
    have h' : (k : Int) < (ns.length : Int) := by omega
    simp [g_cell, runF, c_cell, at_nat, h, List.getElem?_eq_getElem h]
  · refine ⟨0, ?_⟩
    have h' : ¬ (k : Int) < (ns.length : Int) := by omega
    simp [g_cell, runF, c_cell, h]
def Szs (ns : List Int) : Prop := ∀ n ∈ ns, 0 < n ∧ n < 1000000000
theorem Szs.app {a b : List Int} (h : Szs a) (g : Szs b) : Szs (a ++ b) := fun n hn => (List.mem_append.mp hn).elim (h n) (g n)
theorem szs_cons {n : Int} {ns : List Int} (h : Szs (n :: ns)) : (0 < n ∧ n < 1000000000) ∧ Szs ns := ⟨h n List.mem_cons_self, fun m hm => h m (List.mem_cons_of_mem _ hm)⟩
/-- the first loop: the number's digits -/
theorem huge_turn (c s z5 z6 z7 : Option SV) (acc : List Int) (rest n : Int) (h1 : 0 < n) (h2 : n < 1000000000) (hm : acc.length < mx) :
    c_draws_1 [c, s, some (.own (.list (acc.map .int))), some (.val (.int rest)), some (.val (.int n)), z5, z6, z7] = .nx [c, s, some (.own (.list ((acc ++ [rest % n]).map .int))), some (.val (.int (rest / n))), some (.val (.int n)), z5, z6, z7] := by
  have h3 : n < 1073741824 := by omega
  simp [c_draws_1, x_app, h1, h3, hm]
theorem huge_loop (c s z5 z6 z7 : Option SV) : ∀ (ns acc : List Int) (rest : Int) (z4 : Option SV), Szs ns → acc.length + ns.length ≤ 100000 →
    ∃ (os : List Int) (rest' : Int) (y4 : Option SV), forS (τName 4) c_draws_1 (ns.map .int)
      [c, s, some (.own (.list (acc.map .int))), some (.val (.int rest)), z4, z5, z6, z7] = .nx [c, s, some (.own (.list ((acc ++ os).map .int))), some (.val (.int rest')), y4, z5, z6, z7] ∧ Dr os ns
  | [], acc, rest, z4, _, _ => ⟨[], rest, z4, by rw [List.append_nil]; rfl, .nil⟩
  | n :: ns, acc, rest, z4, hs, hl => by
    obtain ⟨⟨h1, h2⟩, hs'⟩ := szs_cons hs
    have hl' : acc.length + (ns.length + 1) ≤ 100000 := hl
    have hm : acc.length < mx := by show _ < 16777216; omega
    obtain ⟨os, r', y4, e, d⟩ := huge_loop c s z5 z6 z7 ns (acc ++ [rest % n]) (rest / n) (some (.val (.int n))) hs' (by rw [List.length_append]; simp; omega)
    refine ⟨rest % n :: os, r', y4, ?_, .cons (Int.emod_nonneg _ (by omega)) (Int.emod_lt_of_pos _ h1) d⟩
    rw [List.append_assoc] at e
    rw [List.map_cons]
    unfold forS
    show (match c_draws_1 [c, s, some (.own (.list (acc.map .int))), some (.val (.int rest)), some (.val (.int n)), z5, z6, z7] with
      | .nx ρ' => forS (τName 4) c_draws_1 (ns.map .int) ρ'
      | .ct ρ' => forS (τName 4) c_draws_1 (ns.map .int) ρ'
      | .brk ρ' => .nx ρ'
      | r => r) = _
    rw [huge_turn c s z5 z6 z7 acc rest n h1 h2 hm]
    exact e
/-- the second loop -/
theorem mix_turn (c z3 z4 y7 : Option SV) (ns os : List Int) (m n : Int) (k : Nat) (hk : ns[k]? = some n) (h1 : 0 < n) (lo : os.length < mx) :
    ∃ m' o o', c_draws_2 [c, some (.val (.list (ns.map .int))), some (.own (.list (os.map .int))), z3, z4, some (.val (.int m)), some (.val (.int (k : Int))), y7] = .nx [c, some (.val (.list (ns.map .int))), some (.own (.list ((os ++ [o % n]).map .int))), z3, z4, some (.val (.int m')), some (.val (.int (k : Int))), some (.val (.int o'))] := by
  refine ⟨(m * 39373 + 6007 * (k : Int) + 91) % 2147483647, (((m * 39373 + 6007 * (k : Int) + 91) % 2147483647) / 5 * 40692 + 211 * (k : Int) + 3) % 2147483399, (((m * 39373 + 6007 * (k : Int) + 91) % 2147483647) / 5 * 40692 + 211 * (k : Int) + 3) % 2147483399, ?_⟩
  simp [c_draws_2, x_app, at_nat, hk, h1, lo, mulOk_l]
theorem mix_loop (c z3 z4 : Option SV) (ns : List Int) (hs : Szs ns) (hl : ns.length ≤ 100000) (m0 : Int) :
    ∃ (os : List Int) (y5 y6 y7 : Option SV), forS (τName 6) c_draws_2 ((List.range ns.length).map fun (k : Nat) => .int (k : Int))
      [c, some (.val (.list (ns.map .int))), some (.own (.list [])), z3, z4, some (.val (.int m0)), none, none] = .nx [c, some (.val (.list (ns.map .int))), some (.own (.list (os.map .int))), z3, z4, y5, y6, y7] ∧ Dr os ns := by
  refine for_rng ns.length (fun k ρ => ∃ (os : List Int) (m : Int) (y6 y7 : Option SV), ρ = [c, some (.val (.list (ns.map .int))), some (.own (.list (os.map .int))), z3, z4, some (.val (.int m)), y6, y7] ∧ Dr os (ns.take k))
    (fun r => ∃ (os : List Int) (y5 y6 y7 : Option SV), r = .nx [c, some (.val (.list (ns.map .int))), some (.own (.list (os.map .int))), z3, z4, y5, y6, y7] ∧ Dr os ns) ⟨[], m0, none, none, rfl, .nil⟩ ?_ ?_
  · rintro k ρ hk ⟨os, m, y6, y7, rfl, d⟩
    have en : ns[k]? = some ns[k] := List.getElem?_eq_getElem hk
    obtain ⟨hp, hp2⟩ := hs ns[k] (List.getElem_mem hk)
    have lo : os.length < mx := by
      rw [d.length, List.length_take]
      show _ < 16777216
      omega
    have tk : ns.take (k + 1) = ns.take k ++ [ns[k]] := by rw [List.take_add_one, en]; rfl
    obtain ⟨m', o, o', e⟩ := mix_turn c z3 z4 y7 ns os m ns[k] k en hp lo
    show Aft (c_draws_2 [c, some (.val (.list (ns.map .int))), some (.own (.list (os.map .int))), z3, z4, some (.val (.int m)), some (.val (.int (k : Int))), y7]) _ _
    rw [e]
    exact ⟨_, _, _, _, rfl, by rw [tk]; exact d.snoc (Int.emod_nonneg _ (by omega)) (Int.emod_lt_of_pos _ hp)⟩
  · rintro ρ ⟨os, m, y6, y7, rfl, d⟩
    rw [List.take_length] at d
    exact ⟨os, _, y6, y7, rfl, d⟩
theorem draws_ok (cell : Int) (ns : List Int) (hs : Szs ns) (hl : ns.length ≤ 100000) : ∃ os : List Int, g_draws [.int cell, .list (ns.map .int)] = .ok (.list (os.map .int)) ∧ Dr os ns := by
  by_cases h : 1000000000000000000 ≤ cell
  · obtain ⟨os, r', y4, e1, d1⟩ := huge_loop (some (.val (.int cell))) (some (.val (.list (ns.map .int)))) none none none ns [] cell none hs (by simpa using hl)
    refine ⟨os, ?_, d1⟩
    simp at e1
    simp [g_draws, runF, c_draws, h, e1]
  · obtain ⟨os, y5, y6, y7, e1, d1⟩ := mix_loop (some (.val (.int cell))) none none ns hs hl (cell % 2147483647)
    refine ⟨os, ?_, d1⟩
    simp [g_draws, runF, c_draws, h, rng_nat (show ns.length ≤ 1000000000 by omega), e1]
/-! ### same -/
def okD : Nat → PyData → Bool
  | 0, _ => false
  | n + 1, .tuple ds => ds.all (okD n) && decide (ds.length ≤ 1000000)
  | _ + 1, .list _ => false
  | _ + 1, .dict _ => false
  | _ + 1, _ => true
theorem same_tup (n : Nat) (ds : List PyData) (hl : ds.length ≤ 1000000) (ih : ∀ d ∈ ds, g_same n [d, d] = .ok (.bool true)) : g_same (n + 1) [.tuple ds, .tuple ds] = .ok (.bool true) := by
  have lp : ∃ z, forS (τName 2) (c_same_1 (g_same n)) ((List.range ds.length).map fun (k : Nat) => .int (k : Int)) [some (.val (.tuple ds)), some (.val (.tuple ds)), none] = .nx [some (.val (.tuple ds)), some (.val (.tuple ds)), z] := by
    refine for_rng ds.length (fun k ρ => ∃ z, ρ = [some (.val (.tuple ds)), some (.val (.tuple ds)), z]) (fun r => ∃ z, r = .nx [some (.val (.tuple ds)), some (.val (.tuple ds)), z]) ⟨none, rfl⟩ ?_ ?_
    · rintro k ρ hk ⟨z, rfl⟩
      have en : ds[k]? = some ds[k] := List.getElem?_eq_getElem hk
      have ih := ih ds[k] (List.getElem_mem hk)
      simp [c_same_1, at_nat, en, ih]
    · rintro ρ ⟨z, rfl⟩
      exact ⟨z, rfl⟩
  obtain ⟨z, e⟩ := lp
  simp [g_same, runF, c_same, rng_nat (show ds.length ≤ 1000000000 by omega), e]
theorem same_ok (n : Nat) : ∀ (d : PyData), okD n d = true → g_same n [d, d] = .ok (.bool true) := by
  induction n with
  | zero => intro d h; simp [okD] at h
  | succ n ih =>
    intro d h
    cases d with
    | none => simp [g_same, runF, c_same]
    | bool b => simp [g_same, runF, c_same]
    | int b => simp [g_same, runF, c_same]
    | str b => simp [g_same, runF, c_same]
    | list b => simp [okD] at h
    | dict b => simp [okD] at h
    | tuple ds =>
      unfold okD at h
      simp only [Bool.and_eq_true, List.all_eq_true, decide_eq_true_eq] at h
      exact same_tup n ds h.2 fun d hd => ih d (h.1 d hd)
theorem fits {i : Int} (h : -9223372036854775808 ≤ i ∧ i < 9223372036854775808) : Builtin.Range.rangeFitsLong i = true := by
  unfold Builtin.Range.rangeFitsLong
  have e : (2 : Int) ^ 63 = 9223372036854775808 := by decide +kernel
  rw [e, Bool.and_eq_true, decide_eq_true_eq, decide_eq_true_eq]
  exact h
/-- a rising range of few turns -/
theorem rng3_nat {n : Nat} {c : Int} (h : n ≤ 1000000) (hc : 0 < c ∧ c < 1000000) : ∃ ks : List Nat, rng3 0 (n : Int) c = .ok (ks.map fun (k : Nat) => .int (k : Int)) ∧ ∀ k ∈ ks, k < n := by
  have hs : Builtin.Range.rangeSize 0 (n : Int) c = if (0 : Int) < n then ((n : Int) - 0 - 1) / c + 1 else 0 := by
    unfold Builtin.Range.rangeSize
    rw [if_pos hc.1]
  have b : 0 ≤ Builtin.Range.rangeSize 0 (n : Int) c ∧ Builtin.Range.rangeSize 0 (n : Int) c ≤ n ∧ (Builtin.Range.rangeSize 0 (n : Int) c = 0 ∨ (Builtin.Range.rangeSize 0 (n : Int) c - 1) * c ≤ n - 1) := by
    rw [hs]
    split
    · have d1 : 0 ≤ ((n : Int) - 0 - 1) / c := Int.ediv_nonneg (by omega) (by omega)
      have d2 : ((n : Int) - 0 - 1) / c ≤ ((n : Int) - 0 - 1) := Int.ediv_le_self _ (by omega)
      have d3 : ((n : Int) - 0 - 1) / c * c ≤ ((n : Int) - 0 - 1) := Int.ediv_mul_le _ (by omega)
      refine ⟨by omega, by omega, .inr ?_⟩
      rw [Int.add_sub_cancel]
      omega
    · exact ⟨by omega, by omega, .inl rfl⟩
  have sm : Builtin.Range.small 0 (n : Int) c = true := by
    unfold Builtin.Range.small
    rw [if_pos hc.1, fits (by omega), fits (i := (n : Int)) (by omega), fits (i := c) (by omega), fits (i := Builtin.Range.rangeSize 0 (n : Int) c) (by omega), fits (i := (n : Int) + (c - 1)) (by omega)]
    simp
  unfold rng3
  generalize Builtin.Range.rangeSize 0 (n : Int) c = z at *
  rw [if_pos]
  · refine ⟨(List.range z.toNat).map fun k => k * c.toNat, ?_, ?_⟩
    · rw [List.map_map]
      refine congrArg Rs.ok (List.map_congr_left fun k _ => ?_)
      show PyData.int _ = PyData.int _
      rw [Int.zero_add, Int.natCast_mul, Int.toNat_of_nonneg (by omega)]
    · intro k hk
      obtain ⟨i, hi, rfl⟩ := List.mem_map.mp hk
      have hi' := List.mem_range.mp hi
      have q : (i : Int) * c ≤ (z - 1) * c := Int.mul_le_mul_of_nonneg_right (by omega) (by omega)
      have q2 : ((i * c.toNat : Nat) : Int) = (i : Int) * c := by rw [Int.natCast_mul, Int.toNat_of_nonneg (by omega)]
      omega
  · rw [sm]
    simp only [Bool.and_eq_true, decide_eq_true_eq]
    refine ⟨⟨⟨⟨?_, ?_⟩, trivial⟩, ?_⟩, ?_⟩ <;> omega
theorem cut_map {α β : Type} (f : α → β) (xs : List α) (lo hi : Option Int) : cutD (xs.map f) lo hi = (cutD xs lo hi).map f := by
  unfold cutD
  rw [List.length_map, List.map_take, List.map_drop]
theorem cut_len {α : Type} (xs : List α) (lo hi : Option Int) : (cutD xs lo hi).length ≤ xs.length := by
  unfold cutD
  rw [List.length_take, List.length_drop]
  omega
theorem cut_mem {α : Type} {xs : List α} {lo hi : Option Int} {x : α} (h : x ∈ cutD xs lo hi) : x ∈ xs := List.mem_of_mem_drop (List.mem_of_mem_take h)
theorem lcL_map {α : Type} {τ : TgD} {tt : En → Rs Bool} {te : En → Rs PyData} {ρ : En} (f g : α → PyData) (p : α → Bool) (ρ1 : α → En) : ∀ (xs : List α), (∀ x ∈ xs, τ (f x) ρ = .ok (ρ1 x) ∧ tt (ρ1 x) = .ok (p x) ∧ (p x = true → te (ρ1 x) = .ok (g x))) → lcL τ tt te (xs.map f) ρ = .ok ((xs.filter p).map g)
  | [], _ => rfl
  | x :: xs, h => by
    obtain ⟨h1, h2, h3⟩ := h x List.mem_cons_self
    have ih := lcL_map f g p ρ1 xs fun y hy => h y (List.mem_cons_of_mem _ hy)
    rw [List.map_cons]
    unfold lcL
    rw [h1]
    dsimp only
    rw [h2]
    cases hp : p x with
    | true =>
      dsimp only
      rw [h3 hp, ih, List.filter_cons_of_pos hp]
      rfl
    | false =>
      dsimp only
      rw [ih, List.filter_cons_of_neg (by rw [hp]; exact Bool.false_ne_true)]
end DL

namespace K09
open PySem PySem.Spec PyProof.Rows L2 DL
/-! ### the text -/
def topS (i : Nat) : Stmt := PySem.Challenge.pw_roundsfare_k09_windows_that_clash.main.body.getD i (.Pass ⟨0, 0, 0, 0⟩)
abbrev s_holds : Stmt := topS 1
theorem sc_holds : FnScope ["window", "time"] ["window", "time"] (defScope s_holds) := ⟨rfl, rfl, rfl, by decide +kernel, rfl, by decide +kernel, by decide +kernel⟩
abbrev s_inside : Stmt := topS 2
theorem sc_inside : FnScope ["inner", "outer"] ["inner", "outer"] (defScope s_inside) := ⟨rfl, rfl, rfl, by decide +kernel, rfl, by decide +kernel, by decide +kernel⟩
abbrev s_disjoint : Stmt := topS 3
theorem sc_disjoint : FnScope ["first", "second"] ["first", "second"] (defScope s_disjoint) := ⟨rfl, rfl, rfl, by decide +kernel, rfl, by decide +kernel, by decide +kernel⟩
abbrev s__law_cell : Stmt := topS 7
theorem sc__law_cell : FnScope ["script", "k"] ["script", "k"] (defScope s__law_cell) := ⟨rfl, rfl, rfl, by decide +kernel, rfl, by decide +kernel, by decide +kernel⟩
abbrev s__law_draws : Stmt := topS 8
theorem sc__law_draws : FnScope ["cell", "sizes", "draws", "rest", "size", "mixed", "k", "other"] ["cell", "sizes"] (defScope s__law_draws) := ⟨rfl, rfl, rfl, by decide +kernel, rfl, by decide +kernel, by decide +kernel⟩
abbrev s__law_shared : Stmt := topS 10
theorem sc__law_shared : FnScope ["one", "two"] ["one", "two"] (defScope s__law_shared) := ⟨rfl, rfl, rfl, by decide +kernel, rfl, by decide +kernel, by decide +kernel⟩
abbrev s_clash : Stmt := topS 4
theorem sc_clash : FnScope ["first", "second"] ["first", "second"] (defScope s_clash) := ⟨rfl, rfl, rfl, by decide +kernel, rfl, by decide +kernel, by decide +kernel⟩
abbrev s__law_within : Stmt := topS 11
theorem sc__law_within : FnScope ["inner", "outer", "size"] ["inner", "outer"] (defScope s__law_within) := ⟨rfl, rfl, rfl, by decide +kernel, rfl, by decide +kernel, by decide +kernel⟩
abbrev s__law_row : Stmt := topS 13
theorem sc__law_row : FnScope ["cell", "many", "draws", "kinds", "windows", "k", "begin", "end"] ["cell", "many"] (defScope s__law_row) := ⟨rfl, rfl, rfl, by decide +kernel, rfl, by decide +kernel, by decide +kernel⟩
abbrev s_clash_of : Stmt := topS 5
theorem sc_clash_of : FnScope ["windows", "second", "first"] ["windows"] (defScope s_clash_of) := ⟨rfl, rfl, rfl, by decide +kernel, rfl, by decide +kernel, by decide +kernel⟩
abbrev s__law_clash : Stmt := topS 12
theorem sc__law_clash : FnScope ["one", "two"] ["one", "two"] (defScope s__law_clash) := ⟨rfl, rfl, rfl, by decide +kernel, rfl, by decide +kernel, by decide +kernel⟩
abbrev s__law_pair_of : Stmt := topS 14
theorem sc__law_pair_of : FnScope ["windows", "k", "j"] ["windows"] (defScope s__law_pair_of) := ⟨rfl, rfl, rfl, by decide +kernel, rfl, by decide +kernel, by decide +kernel⟩
abbrev s__law_same : Stmt := topS 9
theorem sc__law_same : FnScope ["actual", "due", "k"] ["actual", "due"] (defScope s__law_same) := ⟨rfl, rfl, rfl, by decide +kernel, rfl, by decide +kernel, by decide +kernel⟩
abbrev s__law_two_hold : Stmt := topS 15
theorem sc__law_two_hold : FnScope ["one", "two", "time", "due"] ["one", "two"] (defScope s__law_two_hold) := ⟨rfl, rfl, rfl, by decide +kernel, rfl, by decide +kernel, by decide +kernel⟩
abbrev s_law : Stmt := topS 16
theorem sc_law : FnScope ["script", "many", "large", "windows", "apart", "window", "told", "place", "late", "row", "step", "one", "k"] ["script"] (defScope s_law) := ⟨rfl, rfl, rfl, by decide +kernel, rfl, by decide +kernel, by decide +kernel⟩
/-! ### the denotations -/
def b_holds : En → SRes :=
  (sRet (vAnd (b2 oLe (b2 oIx (dVar 0) (dC (.int 1))) (dVar 1)) (b2 oLe (dVar 1) (b2 oIx (dVar 0) (dC (.int 2))))))
def g_holds : List PyData → Rs PyData := runF 2 2 b_holds
def b_inside : En → SRes :=
  (sSeq (sIf (tOrD (tst (b2 oLt (b2 oIx (dVar 0) (dC (.int 1))) (b2 oIx (dVar 1) (dC (.int 1))))) (tst (b2 oGt (b2 oIx (dVar 0) (dC (.int 2))) (b2 oIx (dVar 1) (dC (.int 2))))))
  (sRet (dC (.bool false)))
  sNil)
  (sRet (vOr (b2 oGt (b2 oIx (dVar 0) (dC (.int 1))) (b2 oIx (dVar 1) (dC (.int 1)))) (b2 oLt (b2 oIx (dVar 0) (dC (.int 2))) (b2 oIx (dVar 1) (dC (.int 2)))))))
def g_inside : List PyData → Rs PyData := runF 2 2 b_inside
def b_disjoint : En → SRes :=
  (sRet (vOr (b2 oLt (b2 oIx (dVar 0) (dC (.int 2))) (b2 oIx (dVar 1) (dC (.int 1)))) (b2 oLt (b2 oIx (dVar 1) (dC (.int 2))) (b2 oIx (dVar 0) (dC (.int 1))))))
def g_disjoint : List PyData → Rs PyData := runF 2 2 b_disjoint
def b__law_cell : En → SRes :=
  (sSeq (sIf (tst (b2 oLt (dVar 1) (b1 oLen (dVar 0))))
  (sRet (b1 oInt (b2 oIx (dVar 0) (dVar 1))))
  sNil)
  (sRet (dC (.int 0))))
def g__law_cell : List PyData → Rs PyData := runF 2 2 b__law_cell
def l__law_draws_1 : En → SRes :=
  (sSeq (sApp 2 (b2 oMod (b1 oInt (dVar 3)) (dVar 4)))
  (sSet 3 (b2 oDiv (dVar 3) (dVar 4))))
def l__law_draws_2 : En → SRes :=
  (sSeq (sSet 5 (b2 oMod (b1 oInt (b2 oAdd (b2 oAdd (b2 oMul (dVar 5) (dC (.int 39373))) (b2 oMul (dC (.int 6007)) (dVar 6))) (dC (.int 91)))) (dC (.int 2147483647))))
  (sSeq (sSet 7 (b2 oMod (b1 oInt (b2 oAdd (b2 oAdd (b2 oMul (b2 oDiv (dVar 5) (dC (.int 5))) (dC (.int 40692))) (b2 oMul (dC (.int 211)) (dVar 6))) (dC (.int 3)))) (dC (.int 2147483399))))
  (sApp 2 (b2 oMod (b1 oInt (dVar 7)) (b2 oIx (dVar 1) (dVar 6))))))
def b__law_draws : En → SRes :=
  (sSeq (sSetO 2 (mkL aNil))
  (sSeq (sIf (tst (b2 oGe (dVar 0) (b2 oPow (dC (.int 10)) (dC (.int 18)))))
  (sSeq (sSet 3 (b1 oInt (dVar 0)))
  (sSeq (sFor (iOf oAny (dVar 1)) (τName 4) l__law_draws_1)
  (sFrz 2 (sRet (dVar 2)))))
  sNil)
  (sSeq (sSet 5 (b2 oMod (b1 oInt (dVar 0)) (dC (.int 2147483647))))
  (sSeq (sFor (iRange1 (b1 oLen (dVar 1))) (τName 6) l__law_draws_2)
  (sFrz 2 (sRet (dVar 2)))))))
def g__law_draws : List PyData → Rs PyData := runF 8 2 b__law_draws
def b__law_shared : En → SRes :=
  (sRet (b2 oAdd (b2 oSub (b2 oMin2 (b2 oIx (dVar 0) (dC (.int 2))) (b2 oIx (dVar 1) (dC (.int 2)))) (b2 oMax2 (b2 oIx (dVar 0) (dC (.int 1))) (b2 oIx (dVar 1) (dC (.int 1))))) (dC (.int 1))))
def g__law_shared : List PyData → Rs PyData := runF 2 2 b__law_shared
def b_clash : En → SRes :=
  (sSeq (sIf (tst (dCall g_disjoint (aCons (dVar 0) (aCons (dVar 1) aNil))))
  (sRet (dC (.bool false)))
  sNil)
  (sSeq (sIf (tst (b2 oEq (b2 oIx (dVar 0) (dC (.int 0))) (b2 oIx (dVar 1) (dC (.int 0)))))
  (sRet (dC (.bool true)))
  sNil)
  (sRet (vAnd (b1 oNot (dCall g_inside (aCons (dVar 0) (aCons (dVar 1) aNil)))) (b1 oNot (dCall g_inside (aCons (dVar 1) (aCons (dVar 0) aNil))))))))
def g_clash : List PyData → Rs PyData := runF 2 2 b_clash
def b__law_within : En → SRes :=
  (sSeq (sSet 2 (b2 oAdd (b2 oSub (b2 oIx (dVar 0) (dC (.int 2))) (b2 oIx (dVar 0) (dC (.int 1)))) (dC (.int 1))))
  (sRet (vAnd (b2 oEq (dCall g__law_shared (aCons (dVar 0) (aCons (dVar 1) aNil))) (dVar 2)) (b2 oGt (b2 oAdd (b2 oSub (b2 oIx (dVar 1) (dC (.int 2))) (b2 oIx (dVar 1) (dC (.int 1)))) (dC (.int 1))) (dVar 2)))))
def g__law_within : List PyData → Rs PyData := runF 3 2 b__law_within
def l__law_row_1 : En → SRes :=
  (sSeq (sSet 6 (b2 oIx (dVar 2) (b2 oAdd (dC (.int 3)) (b2 oMul (dC (.int 3)) (dVar 5)))))
  (sSeq (sSet 7 (b2 oMin2 (dC (.int 12)) (b2 oAdd (dVar 6) (b2 oIx (dVar 2) (b2 oAdd (dC (.int 4)) (b2 oMul (dC (.int 3)) (dVar 5)))))))
  (sSeq (sIf (tst (b2 oEq (b2 oIx (dVar 2) (dC (.int 0))) (dC (.int 1))))
  (sSeq (sSet 6 (b2 oMul (dVar 6) (dC (.int 769))))
  (sSet 7 (b2 oAdd (b2 oMul (dVar 7) (dC (.int 769))) (b2 oIx (dVar 2) (dC (.int 1))))))
  sNil)
  (sSeq (sIf (tst (b2 oEq (b2 oIx (dVar 2) (dC (.int 0))) (dC (.int 2))))
  (sSeq (sSet 6 (b2 oAdd (dC (.int 9987)) (dVar 6)))
  (sSet 7 (b2 oAdd (dC (.int 9987)) (dVar 7))))
  sNil)
  (sApp 4 (mkT (aCons (b2 oIx (dVar 3) (b2 oIx (dVar 2) (b2 oAdd (dC (.int 2)) (b2 oMul (dC (.int 3)) (dVar 5))))) (aCons (dVar 6) (aCons (b2 oMin2 (dC (.int 9999)) (dVar 7)) aNil)))))))))
def b__law_row : En → SRes :=
  (sSeq (sSet 2 (dCall g__law_draws (aCons (dVar 0) (aCons (b2 oAdd (mkL (aCons (dC (.int 4)) (aCons (dC (.int 700)) aNil))) (b2 oMul (mkL (aCons (dC (.int 3)) (aCons (dC (.int 13)) (aCons (dC (.int 8)) aNil)))) (dVar 1))) aNil))))
  (sSeq (sSet 3 (mkL (aCons (dC (.str "a")) (aCons (dC (.str "ab")) (aCons (dC (.str "a1")) aNil)))))
  (sSeq (sSetO 4 (mkL aNil))
  (sSeq (sFor (iRange1 (dVar 1)) (τName 5) l__law_row_1)
  (sRet (b1 oTuple (bVar 4)))))))
def g__law_row : List PyData → Rs PyData := runF 8 2 b__law_row
def l_clash_of_2 : En → SRes :=
  (sIf (tst (dCall g_clash (aCons (b2 oIx (dVar 0) (dVar 2)) (aCons (b2 oIx (dVar 0) (dVar 1)) aNil))))
  (sRet (mkT (aCons (dVar 2) (aCons (dVar 1) aNil))))
  sNil)
def l_clash_of_1 : En → SRes :=
  (sFor (iRange1 (dVar 1)) (τName 2) l_clash_of_2)
def b_clash_of : En → SRes :=
  (sSeq (sFor (iRange1 (b1 oLen (dVar 0))) (τName 1) l_clash_of_1)
  (sRet (dC .none)))
def g_clash_of : List PyData → Rs PyData := runF 3 1 b_clash_of
def b__law_clash : En → SRes :=
  (sSeq (sIf (tst (b2 oLe (dCall g__law_shared (aCons (dVar 0) (aCons (dVar 1) aNil))) (dC (.int 0))))
  (sRet (dC (.bool false)))
  sNil)
  (sRet (vOr (b2 oEq (b2 oIx (dVar 0) (dC (.int 0))) (b2 oIx (dVar 1) (dC (.int 0)))) (b1 oNot (vOr (dCall g__law_within (aCons (dVar 0) (aCons (dVar 1) aNil))) (dCall g__law_within (aCons (dVar 1) (aCons (dVar 0) aNil))))))))
def g__law_clash : List PyData → Rs PyData := runF 2 2 b__law_clash
def l__law_pair_of_2 : En → SRes :=
  (sIf (tst (dCall g__law_clash (aCons (b2 oIx (dVar 0) (dVar 2)) (aCons (b2 oIx (dVar 0) (dVar 1)) aNil))))
  (sRet (mkT (aCons (dVar 2) (aCons (dVar 1) aNil))))
  sNil)
def l__law_pair_of_1 : En → SRes :=
  (sFor (iRange1 (dVar 1)) (τName 2) l__law_pair_of_2)
def b__law_pair_of : En → SRes :=
  (sSeq (sFor (iRange1 (b1 oLen (dVar 0))) (τName 1) l__law_pair_of_1)
  (sRet (dC .none)))
def g__law_pair_of : List PyData → Rs PyData := runF 3 1 b__law_pair_of
def l__law_same_1 (self : List PyData → Rs PyData) : En → SRes :=
  (sIf (tNotD (tst (dCall self (aCons (b2 oIx (dVar 0) (dVar 2)) (aCons (b2 oIx (dVar 1) (dVar 2)) aNil)))))
  (sRet (dC (.bool false)))
  sNil)
def b__law_same (self : List PyData → Rs PyData) : En → SRes :=
  (sSeq (sIf (tst (b1 oIsTup (dVar 1)))
  (sSeq (sIf (tOrD (tNotD (tst (b1 oIsTup (dVar 0)))) (tst (b2 oNe (b1 oLen (dVar 0)) (b1 oLen (dVar 1)))))
  (sRet (dC (.bool false)))
  sNil)
  (sSeq (sFor (iRange1 (b1 oLen (dVar 1))) (τName 2) (l__law_same_1 self))
  (sRet (dC (.bool true)))))
  sNil)
  (sSeq (sIf (tst (b2 oIs (dVar 1) (dC .none)))
  (sRet (b2 oIs (dVar 0) (dC .none)))
  sNil)
  (sSeq (sIf (tst (b1 oIsBool (dVar 1)))
  (sRet (vAnd (b1 oIsBool (dVar 0)) (b2 oEq (dVar 0) (dVar 1))))
  sNil)
  (sSeq (sIf (tst (b1 oIsInt (dVar 1)))
  (sRet (vAnd (b1 oIsInt (dVar 0)) (vAnd (b1 oNot (b1 oIsBool (dVar 0))) (b2 oEq (dVar 0) (dVar 1)))))
  sNil)
  (sRet (vAnd (b1 oIsStr (dVar 0)) (b2 oEq (dVar 0) (dVar 1))))))))
def g__law_same : Nat → List PyData → Rs PyData
  | 0 => fun _ => .bad
  | n + 1 => runF 3 2 (b__law_same (g__law_same n))
def l__law_two_hold_1 : En → SRes :=
  (sSeq (sSet 3 (b2 oEq (dCall g__law_shared (aCons (dVar 0) (aCons (mkT (aCons (dC (.str "x")) (aCons (dVar 2) (aCons (dVar 2) aNil)))) aNil))) (dC (.int 1))))
  (sIf (tAndD (tst (b2 oLe (dC (.int 0)) (dVar 2))) (tAndD (tst (b2 oLe (dVar 2) (dC (.int 9999)))) (tNotD (tst (dCall (g__law_same 6) (aCons (dCall g_holds (aCons (dVar 0) (aCons (dVar 2) aNil))) (aCons (dVar 3) aNil)))))))
  (sRet (dC (.bool false)))
  sNil))
def b__law_two_hold : En → SRes :=
  (sSeq (sIf (tNotD (tst (dCall (g__law_same 6) (aCons (dCall g_inside (aCons (dVar 0) (aCons (dVar 1) aNil))) (aCons (dCall g__law_within (aCons (dVar 0) (aCons (dVar 1) aNil))) aNil)))))
  (sRet (dC (.bool false)))
  sNil)
  (sSeq (sIf (tNotD (tst (dCall (g__law_same 6) (aCons (dCall g_disjoint (aCons (dVar 0) (aCons (dVar 1) aNil))) (aCons (b2 oLe (dCall g__law_shared (aCons (dVar 0) (aCons (dVar 1) aNil))) (dC (.int 0))) aNil)))))
  (sRet (dC (.bool false)))
  sNil)
  (sSeq (sIf (tNotD (tst (dCall (g__law_same 6) (aCons (dCall g_clash (aCons (dVar 0) (aCons (dVar 1) aNil))) (aCons (dCall g__law_clash (aCons (dVar 0) (aCons (dVar 1) aNil))) aNil)))))
  (sRet (dC (.bool false)))
  sNil)
  (sSeq (sFor (iOf oAny (mkL (aCons (b2 oSub (b2 oIx (dVar 0) (dC (.int 1))) (dC (.int 1))) (aCons (b2 oIx (dVar 0) (dC (.int 1))) (aCons (b2 oIx (dVar 0) (dC (.int 2))) (aCons (b2 oAdd (b2 oIx (dVar 0) (dC (.int 2))) (dC (.int 1))) (aCons (b2 oIx (dVar 1) (dC (.int 1))) aNil))))))) (τName 2) l__law_two_hold_1)
  (sRet (dC (.bool true)))))))
def g__law_two_hold : List PyData → Rs PyData := runF 4 2 b__law_two_hold
def e_law_1 : En → Rs PyData :=
  (dVar 6)
def t_law_1 : En → Rs Bool :=
  (tst (dCall g__law_clash (aCons (dVar 6) (aCons (dVar 5) aNil))))
def l_law_1 : En → SRes :=
  (sIf (tAndD (tst (b2 oLt (b1 oLen (bVar 4)) (dC (.int 40)))) (tst (b2 oEq (b1 oLen (lcD [6] (iOf oAny (bVar 4)) (τName 6) t_law_1 e_law_1)) (dC (.int 0)))))
  (sApp 4 (dVar 5))
  sNil)
def l_law_2 : En → SRes :=
  (sIf (tNotD (tst (dCall (g__law_same 6) (aCons (dCall g_clash_of (aCons (dVar 9) aNil)) (aCons (dCall g__law_pair_of (aCons (dVar 9) aNil)) aNil)))))
  (sRet (dC (.bool false)))
  sNil)
def l_law_4 : En → SRes :=
  (sIf (tNotD (tst (dCall g__law_two_hold (aCons (dVar 11) (aCons (b2 oIx (dVar 3) (dVar 12)) aNil)))))
  (sRet (dC (.bool false)))
  sNil)
def l_law_3 : En → SRes :=
  (sFor (iRange3 (dC (.int 0)) (b1 oLen (dVar 3)) (dVar 10)) (τName 12) l_law_4)
def b_law : En → SRes :=
  (sSeq (sSet 1 (b2 oMod (b1 oInt (dCall g__law_cell (aCons (dVar 0) (aCons (dC (.int 0)) aNil)))) (dC (.int 10))))
  (sSeq (sSet 2 (b2 oEq (b2 oMod (b1 oInt (dCall g__law_cell (aCons (dVar 0) (aCons (dC (.int 0)) aNil)))) (dC (.int 16))) (dC (.int 5))))
  (sSeq (sIf (tst (dVar 2))
  (sSet 1 (dC (.int 40)))
  sNil)
  (sSeq (sSet 3 (dCall g__law_row (aCons (dCall g__law_cell (aCons (dVar 0) (aCons (dC (.int 1)) aNil))) (aCons (dVar 1) aNil))))
  (sSeq (sSetO 4 (mkL aNil))
  (sSeq (sFor (iOf oAny (dCall g__law_row (aCons (dCall g__law_cell (aCons (dVar 0) (aCons (dC (.int 2)) aNil))) (aCons (b2 oAdd (dVar 1) (dC (.int 12))) aNil)))) (τName 5) l_law_1)
  (sSeq (sSet 7 (b2 oMod (b1 oInt (dCall g__law_cell (aCons (dVar 0) (aCons (dC (.int 3)) aNil)))) (b2 oAdd (b1 oLen (bVar 4)) (dC (.int 1)))))
  (sSeq (sSet 8 (b2 oAdd (b2 oAdd (b1 oTuple (dCut (bVar 4) pNo (pSo (dVar 7)))) (dCut (dVar 3) pNo (pSo (dC (.int 1))))) (b1 oTuple (dCut (bVar 4) (pSo (dVar 7)) pNo))))
  (sSeq (sFor (iOf oAny (mkL (aCons (dVar 3) (aCons (b1 oTuple (bVar 4)) (aCons (dCut (dVar 8) pNo (pSo (dC (.int 40)))) aNil))))) (τName 9) l_law_2)
  (sSeq (sSet 10 (dC (.int 1)))
  (sSeq (sIf (tst (dVar 2))
  (sSet 10 (dC (.int 7)))
  sNil)
  (sSeq (sFor (iOf oAny (dVar 3)) (τName 11) l_law_3)
  (sRet (dC (.bool true)))))))))))))))
def g_law : List PyData → Rs PyData := runF 13 1 b_law
end K09

namespace K09
open PySem PySem.Spec PyProof.Rows L2 DL
/-! ### the walk -/
section
variable {P : Program} {w : World} {K : PySem.W.Frag} {mg : Str → Option Value} {base : Heap}
theorem ok_holds {f : Addr} {fd : FuncData}  (F : L2.Fun K "holds" "holds" s_holds f fd) (bn : Binds K fd ["window", "time"] []) (hm : mg "holds" = some (.ref f))    : Fn P w K mg base 1 "holds" g_holds :=
  fn_mk F sc_holds bn hm fun cdv A outer s H E hr tk po => (dss_one (ds_ret (de_and (de_cmp op_le ok_le (DE.be (de_ix (de_var 0).be (DE.be de_int))) (de_var 1).be (nomark _)) (de_one (de_cmp op_le ok_le (de_var 1).be (DE.be (de_ix (de_var 0).be (DE.be de_int))) (nomark _))))))
theorem ok_inside {f : Addr} {fd : FuncData}  (F : L2.Fun K "inside" "inside" s_inside f fd) (bn : Binds K fd ["inner", "outer"] []) (hm : mg "inside" = some (.ref f))    : Fn P w K mg base 1 "inside" g_inside :=
  fn_mk F sc_inside bn hm fun cdv A outer s H E hr tk po => (dss_cons (ds_if (dt_w (dw_or (dt_cmp op_lt ok_lt (DE.be (de_ix (de_var 0).be (DE.be de_int))) (DE.be (de_ix (de_var 1).be (DE.be de_int))) (nomark _)) (dw_or1 (dt_cmp op_gt ok_gt (DE.be (de_ix (de_var 0).be (DE.be de_int))) (DE.be (de_ix (de_var 1).be (DE.be de_int))) (nomark _)))))
  (dss_one (ds_ret de_bl))
  dss_nil)
  (dss_one (ds_ret (de_or (de_cmp op_gt ok_gt (DE.be (de_ix (de_var 0).be (DE.be de_int))) (DE.be (de_ix (de_var 1).be (DE.be de_int))) (nomark _)) (de_one (de_cmp op_lt ok_lt (DE.be (de_ix (de_var 0).be (DE.be de_int))) (DE.be (de_ix (de_var 1).be (DE.be de_int))) (nomark _)))))))
theorem ok_disjoint {f : Addr} {fd : FuncData}  (F : L2.Fun K "disjoint" "disjoint" s_disjoint f fd) (bn : Binds K fd ["first", "second"] []) (hm : mg "disjoint" = some (.ref f))    : Fn P w K mg base 1 "disjoint" g_disjoint :=
  fn_mk F sc_disjoint bn hm fun cdv A outer s H E hr tk po => (dss_one (ds_ret (de_or (de_cmp op_lt ok_lt (DE.be (de_ix (de_var 0).be (DE.be de_int))) (DE.be (de_ix (de_var 1).be (DE.be de_int))) (nomark _)) (de_one (de_cmp op_lt ok_lt (DE.be (de_ix (de_var 1).be (DE.be de_int))) (DE.be (de_ix (de_var 0).be (DE.be de_int))) (nomark _))))))
theorem ok__law_cell {f : Addr} {fd : FuncData}  (F : L2.Fun K "_law_cell" "_law_cell" s__law_cell f fd) (bn : Binds K fd ["script", "k"] []) (hm : mg "_law_cell" = some (.ref f)) (m_int : mg "int" = none) (m_len : mg "len" = none)   : Fn P w K mg base 1 "_law_cell" g__law_cell :=
  fn_mk F sc__law_cell bn hm fun cdv A outer s H E hr tk po => (dss_cons (ds_if (dt_cmp op_lt ok_lt (de_var 1).be (DE.be (de_call1 call_len ok_len (de_var 0).be m_len bt_len)) (nomark _))
  (dss_one (ds_ret (de_callT1 call_int1 ok_int (DE.be (de_ix (de_var 0).be (de_var 1).be)) m_int bt_int)))
  dss_nil)
  (dss_one (ds_ret de_int)))
theorem ok__law_draws {f : Addr} {fd : FuncData}  (F : L2.Fun K "_law_draws" "_law_draws" s__law_draws f fd) (bn : Binds K fd ["cell", "sizes"] []) (hm : mg "_law_draws" = some (.ref f)) (m_int : mg "int" = none) (m_len : mg "len" = none) (m_range : mg "range" = none)   : Fn P w K mg base 1 "_law_draws" g__law_draws :=
  fn_mk F sc__law_draws bn hm fun cdv A outer s H E hr tk po => (dss_cons (ds_setO 2 sc__law_draws.nd (oe_lst da_nil))
  (dss_cons (ds_if (dt_cmp op_ge ok_ge (de_var 0).be (DE.be (de_op op_pow ok_pow (DE.be de_int) (DE.be de_int))) (nomark _))
  (dss_cons (ds_set 3 sc__law_draws.nd (de_callT1 call_int1 ok_int (de_var 0).be m_int bt_int))
  (dss_cons (ds_for po rfl (di_any (de_var 1)) (dg_name 4 sc__law_draws.nd)
  (dss_cons (ds_app 2 (de_op op_mod ok_mod (DE.be (de_callT1 call_int1 ok_int (de_var 3).be m_int bt_int)) (de_var 4).be))
  (dss_one (ds_set 3 sc__law_draws.nd (de_op op_fdiv ok_div (de_var 3).be (de_var 4).be)))))
  (dss_one (ds_frz 2 (ds_ret (de_var 2))))))
  dss_nil)
  (dss_cons (ds_set 5 sc__law_draws.nd (de_op op_mod ok_mod (DE.be (de_callT1 call_int1 ok_int (de_var 0).be m_int bt_int)) (DE.be de_int)))
  (dss_cons (ds_for po rfl (di_range1 false (DE.be (de_call1 call_len ok_len (de_var 1).be m_len bt_len)) m_range) (dg_name 6 sc__law_draws.nd)
  (dss_cons (ds_set 5 sc__law_draws.nd (de_op op_mod ok_mod (DE.be (de_callT1 call_int1 ok_int (DE.be (de_op op_addD ok_add (DE.be (de_op op_addD ok_add (DE.be (de_op op_mulD ok_mul (de_var 5).be (DE.be de_int))) (DE.be (de_op op_mulD ok_mul (DE.be de_int) (de_var 6).be)))) (DE.be de_int))) m_int bt_int)) (DE.be de_int)))
  (dss_cons (ds_set 7 sc__law_draws.nd (de_op op_mod ok_mod (DE.be (de_callT1 call_int1 ok_int (DE.be (de_op op_addD ok_add (DE.be (de_op op_addD ok_add (DE.be (de_op op_mulD ok_mul (DE.be (de_op op_fdiv ok_div (de_var 5).be (DE.be de_int))) (DE.be de_int))) (DE.be (de_op op_mulD ok_mul (DE.be de_int) (de_var 6).be)))) (DE.be de_int))) m_int bt_int)) (DE.be de_int)))
  (dss_one (ds_app 2 (de_op op_mod ok_mod (DE.be (de_callT1 call_int1 ok_int (de_var 7).be m_int bt_int)) (DE.be (de_ix (de_var 1).be (de_var 6).be))))))))
  (dss_one (ds_frz 2 (ds_ret (de_var 2))))))))
theorem ok__law_shared {f : Addr} {fd : FuncData}  (F : L2.Fun K "_law_shared" "_law_shared" s__law_shared f fd) (bn : Binds K fd ["one", "two"] []) (hm : mg "_law_shared" = some (.ref f)) (m_max : mg "max" = none) (m_min : mg "min" = none)   : Fn P w K mg base 1 "_law_shared" g__law_shared :=
  fn_mk F sc__law_shared bn hm fun cdv A outer s H E hr tk po => (dss_one (ds_ret (de_op op_addD ok_add (DE.be (de_op op_sub ok_sub (DE.be (de_call2 (call_min2 rfl) ok_min2 (DE.be (de_ix (de_var 0).be (DE.be de_int))) (DE.be (de_ix (de_var 1).be (DE.be de_int))) m_min bt_min)) (DE.be (de_call2 (call_max2 rfl) ok_max2 (DE.be (de_ix (de_var 0).be (DE.be de_int))) (DE.be (de_ix (de_var 1).be (DE.be de_int))) m_max bt_max)))) (DE.be de_int))))
theorem ok_clash {f : Addr} {fd : FuncData}  (F : L2.Fun K "clash" "clash" s_clash f fd) (bn : Binds K fd ["first", "second"] []) (hm : mg "clash" = some (.ref f))   (c_disjoint : Fn P w K mg base 1 "disjoint" g_disjoint) (c_inside : Fn P w K mg base 1 "inside" g_inside) : Fn P w K mg base 2 "clash" g_clash :=
  fn_mk F sc_clash bn hm fun cdv A outer s H E hr tk po => (dss_cons (ds_if (dt_val (de_call c_disjoint (hr.mono (by decide)) tk (da_cons (de_var 0) (da_cons (de_var 1) da_nil))))
  (dss_one (ds_ret de_bl))
  dss_nil)
  (dss_cons (ds_if (dt_cmp (op_eqP hr.units) ok_eq (DE.be (de_ix (de_var 0).be (DE.be de_int))) (DE.be (de_ix (de_var 1).be (DE.be de_int))) (nomark _))
  (dss_one (ds_ret de_bl))
  dss_nil)
  (dss_one (ds_ret (de_and (de_not (de_call c_inside (hr.mono (by decide)) tk (da_cons (de_var 0) (da_cons (de_var 1) da_nil)))) (de_one (de_not (de_call c_inside (hr.mono (by decide)) tk (da_cons (de_var 1) (da_cons (de_var 0) da_nil))))))))))
theorem ok__law_within {f : Addr} {fd : FuncData}  (F : L2.Fun K "_law_within" "_law_within" s__law_within f fd) (bn : Binds K fd ["inner", "outer"] []) (hm : mg "_law_within" = some (.ref f))   (c__law_shared : Fn P w K mg base 1 "_law_shared" g__law_shared) : Fn P w K mg base 2 "_law_within" g__law_within :=
  fn_mk F sc__law_within bn hm fun cdv A outer s H E hr tk po => (dss_cons (ds_set 2 sc__law_within.nd (de_op op_addD ok_add (DE.be (de_op op_sub ok_sub (DE.be (de_ix (de_var 0).be (DE.be de_int))) (DE.be (de_ix (de_var 0).be (DE.be de_int))))) (DE.be de_int)))
  (dss_one (ds_ret (de_and (de_cmp (op_eqP hr.units) ok_eq (DE.be (de_call c__law_shared (hr.mono (by decide)) tk (da_cons (de_var 0) (da_cons (de_var 1) da_nil)))) (de_var 2).be (nomark _)) (de_one (de_cmp op_gt ok_gt (DE.be (de_op op_addD ok_add (DE.be (de_op op_sub ok_sub (DE.be (de_ix (de_var 1).be (DE.be de_int))) (DE.be (de_ix (de_var 1).be (DE.be de_int))))) (DE.be de_int))) (de_var 2).be (nomark _)))))))
theorem ok__law_row {f : Addr} {fd : FuncData}  (F : L2.Fun K "_law_row" "_law_row" s__law_row f fd) (bn : Binds K fd ["cell", "many"] []) (hm : mg "_law_row" = some (.ref f)) (m_min : mg "min" = none) (m_range : mg "range" = none) (m_tuple : mg "tuple" = none)  (c__law_draws : Fn P w K mg base 1 "_law_draws" g__law_draws) : Fn P w K mg base 2 "_law_row" g__law_row :=
  fn_mk F sc__law_row bn hm fun cdv A outer s H E hr tk po => (dss_cons (ds_set 2 sc__law_row.nd (de_call c__law_draws (hr.mono (by decide)) tk (da_cons (de_var 0) (da_cons (de_op op_addD ok_add (DE.be (OE.de (oe_lst (da_cons de_int (da_cons de_int da_nil))))) (DE.be (de_op op_mulD ok_mul (DE.be (OE.de (oe_lst (da_cons de_int (da_cons de_int (da_cons de_int da_nil)))))) (de_var 1).be))) da_nil))))
  (dss_cons (ds_set 3 sc__law_row.nd (OE.de (oe_lst (da_cons de_str (da_cons de_str (da_cons de_str da_nil))))))
  (dss_cons (ds_setO 4 sc__law_row.nd (oe_lst da_nil))
  (dss_cons (ds_for po rfl (di_range1 false (de_var 1).be m_range) (dg_name 5 sc__law_row.nd)
  (dss_cons (ds_set 6 sc__law_row.nd (de_ix (de_var 2).be (DE.be (de_op op_addD ok_add (DE.be de_int) (DE.be (de_op op_mulD ok_mul (DE.be de_int) (de_var 5).be))))))
  (dss_cons (ds_set 7 sc__law_row.nd (de_call2 (call_min2 rfl) ok_min2 (DE.be de_int) (DE.be (de_op op_addD ok_add (de_var 6).be (DE.be (de_ix (de_var 2).be (DE.be (de_op op_addD ok_add (DE.be de_int) (DE.be (de_op op_mulD ok_mul (DE.be de_int) (de_var 5).be)))))))) m_min bt_min))
  (dss_cons (ds_if (dt_cmp (op_eqP hr.units) ok_eq (DE.be (de_ix (de_var 2).be (DE.be de_int))) (DE.be de_int) (nomark _))
  (dss_cons (ds_set 6 sc__law_row.nd (de_op op_mulD ok_mul (de_var 6).be (DE.be de_int)))
  (dss_one (ds_set 7 sc__law_row.nd (de_op op_addD ok_add (DE.be (de_op op_mulD ok_mul (de_var 7).be (DE.be de_int))) (DE.be (de_ix (de_var 2).be (DE.be de_int)))))))
  dss_nil)
  (dss_cons (ds_if (dt_cmp (op_eqP hr.units) ok_eq (DE.be (de_ix (de_var 2).be (DE.be de_int))) (DE.be de_int) (nomark _))
  (dss_cons (ds_set 6 sc__law_row.nd (de_op op_addD ok_add (DE.be de_int) (de_var 6).be))
  (dss_one (ds_set 7 sc__law_row.nd (de_op op_addD ok_add (DE.be de_int) (de_var 7).be))))
  dss_nil)
  (dss_one (ds_app 4 (de_tup (da_cons (de_ix (de_var 3).be (DE.be (de_ix (de_var 2).be (DE.be (de_op op_addD ok_add (DE.be de_int) (DE.be (de_op op_mulD ok_mul (DE.be de_int) (de_var 5).be))))))) (da_cons (de_var 6) (da_cons (de_call2 (call_min2 rfl) ok_min2 (DE.be de_int) (de_var 7).be m_min bt_min) da_nil)))))))))))
  (dss_one (ds_ret (de_callT1 call_tuple_of ok_tuple (be_var 4) m_tuple bt_tuple)))))))
theorem ok_clash_of {f : Addr} {fd : FuncData}  (F : L2.Fun K "clash_of" "clash_of" s_clash_of f fd) (bn : Binds K fd ["windows"] []) (hm : mg "clash_of" = some (.ref f)) (m_len : mg "len" = none) (m_range : mg "range" = none)  (c_clash : Fn P w K mg base 2 "clash" g_clash) : Fn P w K mg base 3 "clash_of" g_clash_of :=
  fn_mk F sc_clash_of bn hm fun cdv A outer s H E hr tk po => (dss_cons (ds_for po rfl (di_range1 false (DE.be (de_call1 call_len ok_len (de_var 0).be m_len bt_len)) m_range) (dg_name 1 sc_clash_of.nd)
  (dss_one (ds_for po rfl (di_range1 false (de_var 1).be m_range) (dg_name 2 sc_clash_of.nd)
  (dss_one (ds_if (dt_val (de_call c_clash (hr.mono (by decide)) tk (da_cons (de_ix (de_var 0).be (de_var 2).be) (da_cons (de_ix (de_var 0).be (de_var 1).be) da_nil))))
  (dss_one (ds_ret (de_tup (da_cons (de_var 2) (da_cons (de_var 1) da_nil)))))
  dss_nil)))))
  (dss_one (ds_ret de_non)))
theorem ok__law_clash {f : Addr} {fd : FuncData}  (F : L2.Fun K "_law_clash" "_law_clash" s__law_clash f fd) (bn : Binds K fd ["one", "two"] []) (hm : mg "_law_clash" = some (.ref f))   (c__law_shared : Fn P w K mg base 1 "_law_shared" g__law_shared) (c__law_within : Fn P w K mg base 2 "_law_within" g__law_within) : Fn P w K mg base 3 "_law_clash" g__law_clash :=
  fn_mk F sc__law_clash bn hm fun cdv A outer s H E hr tk po => (dss_cons (ds_if (dt_cmp op_le ok_le (DE.be (de_call c__law_shared (hr.mono (by decide)) tk (da_cons (de_var 0) (da_cons (de_var 1) da_nil)))) (DE.be de_int) (nomark _))
  (dss_one (ds_ret de_bl))
  dss_nil)
  (dss_one (ds_ret (de_or (de_cmp (op_eqP hr.units) ok_eq (DE.be (de_ix (de_var 0).be (DE.be de_int))) (DE.be (de_ix (de_var 1).be (DE.be de_int))) (nomark _)) (de_one (de_not (de_or (de_call c__law_within (hr.mono (by decide)) tk (da_cons (de_var 0) (da_cons (de_var 1) da_nil))) (de_one (de_call c__law_within (hr.mono (by decide)) tk (da_cons (de_var 1) (da_cons (de_var 0) da_nil)))))))))))
theorem ok__law_pair_of {f : Addr} {fd : FuncData}  (F : L2.Fun K "_law_pair_of" "_law_pair_of" s__law_pair_of f fd) (bn : Binds K fd ["windows"] []) (hm : mg "_law_pair_of" = some (.ref f)) (m_len : mg "len" = none) (m_range : mg "range" = none)  (c__law_clash : Fn P w K mg base 3 "_law_clash" g__law_clash) : Fn P w K mg base 4 "_law_pair_of" g__law_pair_of :=
  fn_mk F sc__law_pair_of bn hm fun cdv A outer s H E hr tk po => (dss_cons (ds_for po rfl (di_range1 false (DE.be (de_call1 call_len ok_len (de_var 0).be m_len bt_len)) m_range) (dg_name 1 sc__law_pair_of.nd)
  (dss_one (ds_for po rfl (di_range1 false (de_var 1).be m_range) (dg_name 2 sc__law_pair_of.nd)
  (dss_one (ds_if (dt_val (de_call c__law_clash (hr.mono (by decide)) tk (da_cons (de_ix (de_var 0).be (de_var 2).be) (da_cons (de_ix (de_var 0).be (de_var 1).be) da_nil))))
  (dss_one (ds_ret (de_tup (da_cons (de_var 2) (da_cons (de_var 1) da_nil)))))
  dss_nil)))))
  (dss_one (ds_ret de_non)))
theorem ok__law_same {f : Addr} {fd : FuncData}  (F : L2.Fun K "_law_same" "_law_same" s__law_same f fd) (bn : Binds K fd ["actual", "due"] []) (hm : mg "_law_same" = some (.ref f)) (m_bool : mg "bool" = none) (m_int : mg "int" = none) (m_isinstance : mg "isinstance" = none) (m_len : mg "len" = none) (m_range : mg "range" = none) (m_str : mg "str" = none) (m_tuple : mg "tuple" = none)   : ∀ n : Nat, Fn P w K mg base (0 + n) "_law_same" (g__law_same n)
  | 0 => fn_zero F.kp bn hm
  | n + 1 => by
    have c__law_same := ok__law_same F bn hm m_bool m_int m_isinstance m_len m_range m_str m_tuple n
    exact fn_mk (k := 0 + n) F sc__law_same bn hm fun cdv A outer s H E hr tk po => (dss_cons (ds_if (dt_val (de_isi isi_tup (de_var 1).be m_isinstance m_tuple bt_tuple))
  (dss_cons (ds_if (dt_w (dw_or (dt_not (dt_val (de_isi isi_tup (de_var 0).be m_isinstance m_tuple bt_tuple))) (dw_or1 (dt_cmp (op_neP hr.units) ok_ne (DE.be (de_call1 call_len ok_len (de_var 0).be m_len bt_len)) (DE.be (de_call1 call_len ok_len (de_var 1).be m_len bt_len)) (nomark _)))))
  (dss_one (ds_ret de_bl))
  dss_nil)
  (dss_cons (ds_for po rfl (di_range1 false (DE.be (de_call1 call_len ok_len (de_var 1).be m_len bt_len)) m_range) (dg_name 2 sc__law_same.nd)
  (dss_one (ds_if (dt_not (dt_val (de_call c__law_same (hr.mono (by omega)) tk (da_cons (de_ix (de_var 0).be (de_var 2).be) (da_cons (de_ix (de_var 1).be (de_var 2).be) da_nil)))))
  (dss_one (ds_ret de_bl))
  dss_nil)))
  (dss_one (ds_ret de_bl))))
  dss_nil)
  (dss_cons (ds_if (dt_cmp op_isN ok_is (de_var 1).be (DE.be de_non) (nomark _))
  (dss_one (ds_ret (de_cmp op_isN ok_is (de_var 0).be (DE.be de_non) (nomark _))))
  dss_nil)
  (dss_cons (ds_if (dt_val (de_isi isi_bool (de_var 1).be m_isinstance m_bool bt_bool))
  (dss_one (ds_ret (de_and (de_isi isi_bool (de_var 0).be m_isinstance m_bool bt_bool) (de_one (de_cmp (op_eqP hr.units) ok_eq (de_var 0).be (de_var 1).be (nomark _))))))
  dss_nil)
  (dss_cons (ds_if (dt_val (de_isi isi_int (de_var 1).be m_isinstance m_int bt_int))
  (dss_one (ds_ret (de_and (de_isi isi_int (de_var 0).be m_isinstance m_int bt_int) (de_and (de_not (de_isi isi_bool (de_var 0).be m_isinstance m_bool bt_bool)) (de_one (de_cmp (op_eqP hr.units) ok_eq (de_var 0).be (de_var 1).be (nomark _)))))))
  dss_nil)
  (dss_one (ds_ret (de_and (de_isi isi_str (de_var 0).be m_isinstance m_str bt_str) (de_one (de_cmp (op_eqP hr.units) ok_eq (de_var 0).be (de_var 1).be (nomark _))))))))))
theorem ok__law_two_hold {f : Addr} {fd : FuncData}  (F : L2.Fun K "_law_two_hold" "_law_two_hold" s__law_two_hold f fd) (bn : Binds K fd ["one", "two"] []) (hm : mg "_law_two_hold" = some (.ref f))   (c__law_clash : Fn P w K mg base 3 "_law_clash" g__law_clash) (c__law_same : Fn P w K mg base 6 "_law_same" (g__law_same 6)) (c__law_shared : Fn P w K mg base 1 "_law_shared" g__law_shared) (c__law_within : Fn P w K mg base 2 "_law_within" g__law_within) (c_clash : Fn P w K mg base 2 "clash" g_clash) (c_disjoint : Fn P w K mg base 1 "disjoint" g_disjoint) (c_holds : Fn P w K mg base 1 "holds" g_holds) (c_inside : Fn P w K mg base 1 "inside" g_inside) : Fn P w K mg base 7 "_law_two_hold" g__law_two_hold :=
  fn_mk F sc__law_two_hold bn hm fun cdv A outer s H E hr tk po => (dss_cons (ds_if (dt_not (dt_val (de_call c__law_same (hr.mono (by decide)) tk (da_cons (de_call c_inside (hr.mono (by decide)) tk (da_cons (de_var 0) (da_cons (de_var 1) da_nil))) (da_cons (de_call c__law_within (hr.mono (by decide)) tk (da_cons (de_var 0) (da_cons (de_var 1) da_nil))) da_nil)))))
  (dss_one (ds_ret de_bl))
  dss_nil)
  (dss_cons (ds_if (dt_not (dt_val (de_call c__law_same (hr.mono (by decide)) tk (da_cons (de_call c_disjoint (hr.mono (by decide)) tk (da_cons (de_var 0) (da_cons (de_var 1) da_nil))) (da_cons (de_cmp op_le ok_le (DE.be (de_call c__law_shared (hr.mono (by decide)) tk (da_cons (de_var 0) (da_cons (de_var 1) da_nil)))) (DE.be de_int) (nomark _)) da_nil)))))
  (dss_one (ds_ret de_bl))
  dss_nil)
  (dss_cons (ds_if (dt_not (dt_val (de_call c__law_same (hr.mono (by decide)) tk (da_cons (de_call c_clash (hr.mono (by decide)) tk (da_cons (de_var 0) (da_cons (de_var 1) da_nil))) (da_cons (de_call c__law_clash (hr.mono (by decide)) tk (da_cons (de_var 0) (da_cons (de_var 1) da_nil))) da_nil)))))
  (dss_one (ds_ret de_bl))
  dss_nil)
  (dss_cons (ds_for po rfl (di_any (OE.de (oe_lst (da_cons (de_op op_sub ok_sub (DE.be (de_ix (de_var 0).be (DE.be de_int))) (DE.be de_int)) (da_cons (de_ix (de_var 0).be (DE.be de_int)) (da_cons (de_ix (de_var 0).be (DE.be de_int)) (da_cons (de_op op_addD ok_add (DE.be (de_ix (de_var 0).be (DE.be de_int))) (DE.be de_int)) (da_cons (de_ix (de_var 1).be (DE.be de_int)) da_nil)))))))) (dg_name 2 sc__law_two_hold.nd)
  (dss_cons (ds_set 3 sc__law_two_hold.nd (de_cmp (op_eqP hr.units) ok_eq (DE.be (de_call c__law_shared (hr.mono (by decide)) tk (da_cons (de_var 0) (da_cons (de_tup (da_cons de_str (da_cons (de_var 2) (da_cons (de_var 2) da_nil)))) da_nil)))) (DE.be de_int) (nomark _)))
  (dss_one (ds_if (dt_w (dw_and (dt_cmp op_le ok_le (DE.be de_int) (de_var 2).be (nomark _)) (dw_and (dt_cmp op_le ok_le (de_var 2).be (DE.be de_int) (nomark _)) (dw_and1 (dt_not (dt_val (de_call c__law_same (hr.mono (by decide)) tk (da_cons (de_call c_holds (hr.mono (by decide)) tk (da_cons (de_var 0) (da_cons (de_var 2) da_nil))) (da_cons (de_var 3) da_nil)))))))))
  (dss_one (ds_ret de_bl))
  dss_nil))))
  (dss_one (ds_ret de_bl))))))
theorem ok_law {f : Addr} {fd : FuncData}  (F : L2.Fun K "law" "law" s_law f fd) (m_int : mg "int" = none) (m_len : mg "len" = none) (m_range : mg "range" = none) (m_tuple : mg "tuple" = none)  (c__law_cell : Fn P w K mg base 1 "_law_cell" g__law_cell) (c__law_clash : Fn P w K mg base 3 "_law_clash" g__law_clash) (c__law_pair_of : Fn P w K mg base 4 "_law_pair_of" g__law_pair_of) (c__law_row : Fn P w K mg base 2 "_law_row" g__law_row) (c__law_same : Fn P w K mg base 6 "_law_same" (g__law_same 6)) (c__law_two_hold : Fn P w K mg base 7 "_law_two_hold" g__law_two_hold) (c_clash_of : Fn P w K mg base 3 "clash_of" g_clash_of) : FnOk P w K mg base (L2.CX P w) 8 f fd ["script"] (spD K mg g_law) :=
  fnok_mk F sc_law fun cdv A outer s H E hr tk po => (dss_cons (ds_set 1 sc_law.nd (de_op op_mod ok_mod (DE.be (de_callT1 call_int1 ok_int (DE.be (de_call c__law_cell (hr.mono (by decide)) tk (da_cons (de_var 0) (da_cons de_int da_nil)))) m_int bt_int)) (DE.be de_int)))
  (dss_cons (ds_set 2 sc_law.nd (de_cmp (op_eqP hr.units) ok_eq (DE.be (de_op op_mod ok_mod (DE.be (de_callT1 call_int1 ok_int (DE.be (de_call c__law_cell (hr.mono (by decide)) tk (da_cons (de_var 0) (da_cons de_int da_nil)))) m_int bt_int)) (DE.be de_int))) (DE.be de_int) (nomark _)))
  (dss_cons (ds_if (dt_val (de_var 2))
  (dss_one (ds_set 1 sc_law.nd de_int))
  dss_nil)
  (dss_cons (ds_set 3 sc_law.nd (de_call c__law_row (hr.mono (by decide)) tk (da_cons (de_call c__law_cell (hr.mono (by decide)) tk (da_cons (de_var 0) (da_cons de_int da_nil))) (da_cons (de_var 1) da_nil))))
  (dss_cons (ds_setO 4 sc_law.nd (oe_lst da_nil))
  (dss_cons (ds_for po rfl (di_any (de_call c__law_row (hr.mono (by decide)) tk (da_cons (de_call c__law_cell (hr.mono (by decide)) tk (da_cons (de_var 0) (da_cons de_int da_nil))) (da_cons (de_op op_addD ok_add (de_var 1).be (DE.be de_int)) da_nil)))) (dg_name 5 sc_law.nd)
  (dss_one (ds_if (dt_w (dw_and (dt_cmp op_lt ok_lt (DE.be (de_call1 call_len ok_len (be_var 4) m_len bt_len)) (DE.be de_int) (nomark _)) (dw_and1 (dt_cmp (op_eqP hr.units) ok_eq (DE.be (de_call1 call_len ok_len (DE.be (OE.de (oe_lc [("told", 6)] rfl sc_law.nd (di_anyB (be_var 4)) (blkOk_by (N := ["script", "many", "large", "windows", "apart", "window", "told", "place", "late", "row", "step", "one", "k"]) (sc := defScope s_law) (by decide +kernel)) (fun _ _ _ _ _ => (dg_name 6 sc_law.nd)) (tok_name 6) (fun _ _ _ _ _ => (dts_one (dt_val (de_call c__law_clash (hr.mono (by decide)) takes0 (da_cons (de_var 6) (da_cons (de_var 5) da_nil)))))) (fun _ _ _ _ _ => (de_var 6))))) m_len bt_len)) (DE.be de_int) (nomark _)))))
  (dss_one (ds_app 4 (de_var 5)))
  dss_nil)))
  (dss_cons (ds_set 7 sc_law.nd (de_op op_mod ok_mod (DE.be (de_callT1 call_int1 ok_int (DE.be (de_call c__law_cell (hr.mono (by decide)) tk (da_cons (de_var 0) (da_cons de_int da_nil)))) m_int bt_int)) (DE.be (de_op op_addD ok_add (DE.be (de_call1 call_len ok_len (be_var 4) m_len bt_len)) (DE.be de_int)))))
  (dss_cons (ds_set 8 sc_law.nd (de_op op_addD ok_add (DE.be (de_op op_addD ok_add (DE.be (de_callT1 call_tuple_of ok_tuple (DE.be (de_cut (be_var 4) do_none (do_some (de_var 7).be))) m_tuple bt_tuple)) (DE.be (de_cut (de_var 3).be do_none (do_some (DE.be de_int)))))) (DE.be (de_callT1 call_tuple_of ok_tuple (DE.be (de_cut (be_var 4) (do_some (de_var 7).be) do_none)) m_tuple bt_tuple))))
  (dss_cons (ds_for po rfl (di_any (OE.de (oe_lst (da_cons (de_var 3) (da_cons (de_callT1 call_tuple_of ok_tuple (be_var 4) m_tuple bt_tuple) (da_cons (de_cut (de_var 8).be do_none (do_some (DE.be de_int))) da_nil)))))) (dg_name 9 sc_law.nd)
  (dss_one (ds_if (dt_not (dt_val (de_call c__law_same (hr.mono (by decide)) tk (da_cons (de_call c_clash_of (hr.mono (by decide)) tk (da_cons (de_var 9) da_nil)) (da_cons (de_call c__law_pair_of (hr.mono (by decide)) tk (da_cons (de_var 9) da_nil)) da_nil)))))
  (dss_one (ds_ret de_bl))
  dss_nil)))
  (dss_cons (ds_set 10 sc_law.nd de_int)
  (dss_cons (ds_if (dt_val (de_var 2))
  (dss_one (ds_set 10 sc_law.nd de_int))
  dss_nil)
  (dss_cons (ds_for po rfl (di_any (de_var 3)) (dg_name 11 sc_law.nd)
  (dss_one (ds_for po rfl (di_range3 false (DE.be de_int) (DE.be (de_call1 call_len ok_len (de_var 3).be m_len bt_len)) (de_var 10).be m_range) (dg_name 12 sc_law.nd)
  (dss_one (ds_if (dt_not (dt_val (de_call c__law_two_hold (hr.mono (by decide)) tk (da_cons (de_var 11) (da_cons (de_ix (de_var 3).be (de_var 12).be) da_nil)))))
  (dss_one (ds_ret de_bl))
  dss_nil)))))
  (dss_one (ds_ret de_bl))))))))))))))
end
end K09

namespace K09
open PySem PySem.Spec PyProof.Rows L2 DL
structure Win where
  k : Str
  b : Int
  e : Int
def win (w : Win) : PyData := .tuple [.str w.k, .int w.b, .int w.e]
@[simp] theorem win0 (w : Win) : oIx (win w) (.int 0) = .ok (.str w.k) := by simp [win]
@[simp] theorem win1 (w : Win) : oIx (win w) (.int 1) = .ok (.int w.b) := by simp [win]
@[simp] theorem win2 (w : Win) : oIx (win w) (.int 2) = .ok (.int w.e) := by simp [win]
def insideM (a b : Win) : Bool := decide (¬ (a.b < b.b ∨ a.e > b.e) ∧ (a.b > b.b ∨ a.e < b.e))
theorem inside_ok (a b : Win) : g_inside [win a, win b] = .ok (.bool (insideM a b)) := by
  simp [g_inside, runF, b_inside, insideM]
  rw [Bool.eq_iff_iff]
  simp
def disjointM (a b : Win) : Bool := decide (a.e < b.b ∨ b.e < a.b)
theorem disjoint_ok (a b : Win) : g_disjoint [win a, win b] = .ok (.bool (disjointM a b)) := by
  simp [g_disjoint, runF, b_disjoint, disjointM]
def clashM (a b : Win) : Bool := !disjointM a b && (decide (a.k = b.k) || (!insideM a b && !insideM b a))
theorem clash_ok (a b : Win) : g_clash [win a, win b] = .ok (.bool (clashM a b)) := by
  simp [g_clash, runF, b_clash, inside_ok, disjoint_ok, clashM]
def holdsM (a : Win) (t : Int) : Bool := decide (a.b ≤ t) && decide (t ≤ a.e)
theorem holds_ok (a : Win) (t : Int) : g_holds [win a, .int t] = .ok (.bool (holdsM a t)) := by
  simp [g_holds, runF, b_holds, holdsM]
def sharedM (a b : Win) : Int := (if b.e < a.e then b.e else a.e) - (if b.b > a.b then b.b else a.b) + 1
theorem shared_ok (a b : Win) : g__law_shared [win a, win b] = .ok (.int (sharedM a b)) := by
  simp [g__law_shared, runF, b__law_shared, sharedM]
def withinM (a b : Win) : Bool := decide (sharedM a b = a.e - a.b + 1) && decide (b.e - b.b + 1 > a.e - a.b + 1)
theorem within_ok (a b : Win) : g__law_within [win a, win b] = .ok (.bool (withinM a b)) := by
  simp [g__law_within, runF, b__law_within, withinM, shared_ok]
def lclashM (a b : Win) : Bool := !decide (sharedM a b ≤ 0) && (decide (a.k = b.k) || !(withinM a b || withinM b a))
theorem lclash_ok (a b : Win) : g__law_clash [win a, win b] = .ok (.bool (lclashM a b)) := by
  simp [g__law_clash, runF, b__law_clash, lclashM, shared_ok, within_ok]

theorem e_cell : g__law_cell = g_cell := rfl
theorem e_draws : g__law_draws = g_draws := rfl
theorem e_same : ∀ n, g__law_same n = g_same n
  | 0 => rfl
  | n + 1 => by
    show runF 3 2 (b__law_same (g__law_same n)) = runF 3 2 (c_same (g_same n))
    rw [e_same n]
    rfl
/-! ### the pair of windows that clash -/
def pairB (g : List PyData → Rs PyData) : En → SRes :=
  sIf (tst (dCall g (aCons (b2 oIx (dVar 0) (dVar 2)) (aCons (b2 oIx (dVar 0) (dVar 1)) aNil)))) (sRet (mkT (aCons (dVar 2) (aCons (dVar 1) aNil)))) sNil
/-- the first i below j that clashes with j -/
def inM (c : Win → Win → Bool) (ws : List Win) (j : Nat) (w : Win) : Option Nat := (List.range j).find? fun i => match ws[i]? with | some v => c v w | none => false
theorem find_range_none {p : Nat → Bool} {n : Nat} (h : ∀ k < n, p k = false) : (List.range n).find? p = none := by
  rw [List.find?_eq_none]
  intro k hk
  rw [h k (List.mem_range.mp hk)]
  exact Bool.false_ne_true
theorem find_range_some {p : Nat → Bool} {n k : Nat} (hk : k < n) (hp : p k = true) (h : ∀ j < k, p j = false) : (List.range n).find? p = some k := by
  rw [List.find?_eq_some_iff_append]
  refine ⟨hp, List.range k, (List.range' (k + 1) (n - (k + 1))), ?_, ?_⟩
  · rw [List.range_eq_range', List.range_eq_range']
    have e : n = k + (1 + (n - (k + 1))) := by omega
    conv => lhs; rw [e]
    rw [← List.range'_append_1, ← List.range'_append_1]
    simp
  · intro a ha
    rw [h a (List.mem_range.mp ha)]
    rfl
theorem in_loop {g : List PyData → Rs PyData} {c : Win → Win → Bool} (hg : ∀ a b, g [win a, win b] = .ok (.bool (c a b))) (ws : List Win) {j : Nat} (hj : j < ws.length) (z : Option SV) :
    (∃ i, inM c ws j ws[j] = some i ∧ forS (τName 2) (pairB g) ((List.range j).map fun (k : Nat) => .int (k : Int)) [some (.val (.tuple (ws.map win))), some (.val (.int (j : Int))), z] = .ret (.tuple [.int (i : Int), .int (j : Int)])) ∨
    (∃ y, inM c ws j ws[j] = none ∧ forS (τName 2) (pairB g) ((List.range j).map fun (k : Nat) => .int (k : Int)) [some (.val (.tuple (ws.map win))), some (.val (.int (j : Int))), z] = .nx [some (.val (.tuple (ws.map win))), some (.val (.int (j : Int))), y]) := by
  refine for_rng j (fun k ρ => ∃ y, ρ = [some (.val (.tuple (ws.map win))), some (.val (.int (j : Int))), y] ∧ ∀ m < k, (match ws[m]? with | some v => c v ws[j] | none => false) = false)
    (fun r => (∃ i, inM c ws j ws[j] = some i ∧ r = .ret (.tuple [.int (i : Int), .int (j : Int)])) ∨ (∃ y, inM c ws j ws[j] = none ∧ r = .nx [some (.val (.tuple (ws.map win))), some (.val (.int (j : Int))), y])) ⟨z, rfl, fun m hm => absurd hm (Nat.not_lt_zero m)⟩ ?_ ?_
  · rintro k ρ hk ⟨y, rfl, hn⟩
    have e1 : ws[k]? = some ws[k] := List.getElem?_eq_getElem (by omega)
    have e2 : ws[j]? = some ws[j] := List.getElem?_eq_getElem hj
    cases hc : c ws[k] ws[j] with
    | true =>
      simp [pairB, at_nat, e1, e2, hg, hc]
      refine ⟨k, find_range_some hk ?_ hn, rfl⟩
      rw [e1]
      exact hc
    | false =>
      simp [pairB, at_nat, e1, e2, hg, hc]
      intro m hm
      by_cases h : m = k
      · subst h
        rw [e1]
        exact hc
      · exact hn m (by omega)
  · rintro ρ ⟨y, rfl, hn⟩
    exact .inr ⟨y, find_range_none hn, rfl⟩
def pairD : Option (Nat × Nat) → PyData
  | some (i, j) => .tuple [.int (i : Int), .int (j : Int)]
  | none => .none
theorem pair_okD (o : Option (Nat × Nat)) : okD 6 (pairD o) = true := by
  cases o with
  | none => rfl
  | some p => obtain ⟨i, j⟩ := p; simp [pairD, okD]
def pairM (c : Win → Win → Bool) (ws : List Win) : Option (Nat × Nat) := (List.range ws.length).findSome? fun j => match ws[j]? with | some w => (inM c ws j w).map fun i => (i, j) | none => none
theorem fs_none {α : Type} {f : Nat → Option α} {n : Nat} (h : ∀ k < n, f k = none) : (List.range n).findSome? f = none := by
  rw [List.findSome?_eq_none_iff]
  intro k hk
  exact h k (List.mem_range.mp hk)
theorem fs_some {α : Type} {f : Nat → Option α} {n k : Nat} {a : α} (hk : k < n) (hp : f k = some a) (h : ∀ j < k, f j = none) : (List.range n).findSome? f = some a := by
  rw [List.findSome?_eq_some_iff]
  refine ⟨List.range k, k, List.range' (k + 1) (n - (k + 1)), ?_, hp, fun x hx => h x (List.mem_range.mp hx)⟩
  rw [List.range_eq_range', List.range_eq_range']
  have e : n = k + (1 + (n - (k + 1))) := by omega
  conv => lhs; rw [e]
  rw [← List.range'_append_1, ← List.range'_append_1]
  simp
theorem pair_ok {g : List PyData → Rs PyData} {c : Win → Win → Bool} (hg : ∀ a b, g [win a, win b] = .ok (.bool (c a b))) (ws : List Win) (hl : ws.length ≤ 100000) :
    runF 3 1 (sSeq (sFor (iRange1 (b1 oLen (dVar 0))) (τName 1) (sFor (iRange1 (dVar 1)) (τName 2) (pairB g))) (sRet (dC .none))) [.tuple (ws.map win)] = .ok (pairD (pairM c ws)) := by
  have lp : (∃ z1 z2, pairM c ws = none ∧ forS (τName 1) (sFor (iRange1 (dVar 1)) (τName 2) (pairB g)) ((List.range ws.length).map fun (k : Nat) => .int (k : Int)) [some (.val (.tuple (ws.map win))), none, none] = .nx [some (.val (.tuple (ws.map win))), z1, z2]) ∨
      (∃ i j, pairM c ws = some (i, j) ∧ forS (τName 1) (sFor (iRange1 (dVar 1)) (τName 2) (pairB g)) ((List.range ws.length).map fun (k : Nat) => .int (k : Int)) [some (.val (.tuple (ws.map win))), none, none] = .ret (.tuple [.int (i : Int), .int (j : Int)])) := by
    refine for_rng ws.length (fun k ρ => ∃ z1 z2, ρ = [some (.val (.tuple (ws.map win))), z1, z2] ∧ ∀ m < k, (match ws[m]? with | some w => (inM c ws m w).map fun i => (i, m) | none => none) = none)
      (fun r => (∃ z1 z2, pairM c ws = none ∧ r = .nx [some (.val (.tuple (ws.map win))), z1, z2]) ∨ (∃ i j, pairM c ws = some (i, j) ∧ r = .ret (.tuple [.int (i : Int), .int (j : Int)]))) ⟨none, none, rfl, fun m hm => absurd hm (Nat.not_lt_zero m)⟩ ?_ ?_
    · rintro k ρ hk ⟨z1, z2, rfl, hn⟩
      have e1 : ws[k]? = some ws[k] := List.getElem?_eq_getElem hk
      have il := in_loop hg ws hk z2
      simp [rng_nat (show k ≤ 1000000000 by omega)]
      generalize forS (τName 2) (pairB g) ((List.range k).map fun (k : Nat) => .int (k : Int)) [some (.val (.tuple (ws.map win))), some (.val (.int (k : Int))), z2] = r at il ⊢
      rcases il with ⟨i, hi, rfl⟩ | ⟨y, hi, rfl⟩
      · refine .inr ⟨i, k, fs_some hk ?_ hn, rfl⟩
        rw [e1]
        simp [hi]
      · refine ⟨⟨_, _, rfl⟩, fun m hm => ?_⟩
        by_cases h : m = k
        · subst h
          rw [e1]
          simp [hi]
        · exact hn m (by omega)
    · rintro ρ ⟨z1, z2, rfl, hn⟩
      exact .inl ⟨z1, z2, fs_none hn, rfl⟩
  rcases lp with ⟨z1, z2, h, e⟩ | ⟨i, j, h, e⟩
  · simp [runF, rng_nat (show ws.length ≤ 1000000000 by omega), e, h, pairD]
  · simp [runF, rng_nat (show ws.length ≤ 1000000000 by omega), e, h, pairD]
end K09

namespace K09
open PySem PySem.Spec PyProof.Rows L2 DL
def Ok (w : Win) : Prop := 0 ≤ w.b ∧ w.b ≤ w.e ∧ w.e ≤ 9999
theorem shared_ok' (a : Win) (s : Str) (t t' : Int) : g__law_shared [win a, .tuple [.str s, .int t, .int t']] = .ok (.int (sharedM a ⟨s, t, t'⟩)) := shared_ok a ⟨s, t, t'⟩
theorem within_eq {a b : Win} (ha : Ok a) (hb : Ok b) : withinM a b = insideM a b := by
  unfold Ok at ha hb
  unfold withinM insideM sharedM
  rw [Bool.eq_iff_iff]
  simp only [Bool.and_eq_true, decide_eq_true_eq]
  split <;> split <;> omega
theorem disj_eq {a b : Win} (ha : Ok a) (hb : Ok b) : disjointM a b = decide (sharedM a b ≤ 0) := by
  unfold Ok at ha hb
  unfold disjointM sharedM
  rw [Bool.eq_iff_iff]
  simp only [decide_eq_true_eq]
  split <;> split <;> omega
theorem clash_eq {a b : Win} (ha : Ok a) (hb : Ok b) : lclashM a b = clashM a b := by
  unfold lclashM clashM
  rw [disj_eq ha hb, within_eq ha hb, within_eq hb ha, Bool.not_or]
theorem holds_eq {a : Win} (ha : Ok a) (s : Str) (t : Int) : decide (sharedM a ⟨s, t, t⟩ = 1) = holdsM a t := by
  unfold Ok at ha
  unfold holdsM sharedM
  rw [Bool.eq_iff_iff]
  simp only [Bool.and_eq_true, decide_eq_true_eq]
  split <;> split <;> omega
theorem same_b (b : Bool) : g__law_same 6 [.bool b, .bool b] = .ok (.bool true) := by rw [e_same]; exact same_ok 6 _ rfl
theorem two_turn {a : Win} (ha : Ok a) (b z : Option SV) (t : Int) : ∃ y, l__law_two_hold_1 [some (.val (win a)), b, some (.val (.int t)), z] = .nx [some (.val (win a)), b, some (.val (.int t)), y] := by
  refine ⟨some (.val (.bool (holdsM a t))), ?_⟩
  have e := holds_eq ha "x" t
  simp [l__law_two_hold_1, shared_ok', e, holds_ok, same_b]
theorem two_hold_ok {a b : Win} (ha : Ok a) (hb : Ok b) : g__law_two_hold [win a, win b] = .ok (.bool true) := by
  have lp : ∀ ts : List Int, ∃ y z, forS (τName 2) l__law_two_hold_1 (ts.map .int) [some (.val (win a)), some (.val (win b)), none, none] = .nx [some (.val (win a)), some (.val (win b)), y, z] := by
    intro ts
    refine for_at (ts.map .int) (fun _ ρ => ∃ y z, ρ = [some (.val (win a)), some (.val (win b)), y, z]) (fun r => ∃ y z, r = .nx [some (.val (win a)), some (.val (win b)), y, z]) ⟨none, none, rfl⟩ ?_ ?_
    · rintro k d ρ hk ⟨y, z, rfl⟩
      rw [map_at] at hk
      obtain ⟨t, ht, rfl⟩ := Option.map_eq_some_iff.mp hk
      obtain ⟨y', e⟩ := two_turn ha (some (.val (win b))) z t
      refine ⟨_, rfl, ?_⟩
      show Aft (l__law_two_hold_1 [some (.val (win a)), some (.val (win b)), some (.val (.int t)), z]) _ _
      rw [e]
      exact ⟨_, _, rfl⟩
    · rintro ρ ⟨y, z, rfl⟩
      exact ⟨y, z, rfl⟩
  obtain ⟨y, z, e⟩ := lp [a.b - 1, a.b, a.e, a.e + 1, b.b]
  simp at e
  simp [g__law_two_hold, runF, b__law_two_hold, inside_ok, within_ok, disjoint_ok, shared_ok, clash_ok, lclash_ok, ← disj_eq ha hb, within_eq ha hb, clash_eq ha hb, same_b, e]
/-! ### row -/
def rep (n : Nat) : List Int := (List.replicate n [3, 13, 8]).flatten
theorem rep_len (n : Nat) : (rep n).length = 3 * n := by
  induction n with
  | zero => rfl
  | succ n ih => unfold rep at ih ⊢; rw [List.replicate_succ, List.flatten_cons, List.length_append, ih]; simp; omega
theorem rep_at : ∀ (n k : Nat), k < n → (rep n)[3 * k]? = some 3 ∧ (rep n)[3 * k + 1]? = some 13 ∧ (rep n)[3 * k + 2]? = some 8 := by
  intro n
  induction n with
  | zero => intro k h; omega
  | succ n ih =>
    intro k h
    have e : rep (n + 1) = 3 :: 13 :: 8 :: rep n := by unfold rep; rw [List.replicate_succ, List.flatten_cons]; rfl
    rw [e]
    cases k with
    | zero => exact ⟨rfl, rfl, rfl⟩
    | succ k => exact ih k (by omega)
theorem rep_szs (n : Nat) : Szs (rep n) := by
  intro m hm
  unfold rep at hm
  rw [List.mem_flatten] at hm
  obtain ⟨l, hl, hm⟩ := hm
  rw [List.eq_of_mem_replicate hl] at hm
  simp at hm
  omega
theorem rep_map (n : Nat) : (List.replicate n [PyData.int 3, .int 13, .int 8]).flatten = (rep n).map .int := by
  unfold rep
  rw [List.map_flatten, List.map_replicate]
  rfl
def kindsD : List PyData := [.str "a", .str "ab", .str "a1"]
theorem row_turn (c m z6 z7 : Option SV) (os : List Int) (ws : List Win) (k : Nat) (d0 d1 x y z : Int) (h0 : os[0]? = some d0) (h1 : os[1]? = some d1) (hx : os[2 + 3 * k]? = some x) (hy : os[3 + 3 * k]? = some y) (hz : os[4 + 3 * k]? = some z)
    (g1 : 0 ≤ d1) (gx : 0 ≤ x ∧ x < 3) (gy : 0 ≤ y ∧ y < 13) (gz : 0 ≤ z) (lw : ws.length < mx) :
    ∃ w y6 y7, l__law_row_1 [c, m, some (.val (.list (os.map .int))), some (.val (.list kindsD)), some (.own (.list (ws.map win))), some (.val (.int (k : Int))), z6, z7]
      = .nx [c, m, some (.val (.list (os.map .int))), some (.val (.list kindsD)), some (.own (.list ((ws ++ [w]).map win))), some (.val (.int (k : Int))), y6, y7] ∧ Ok w := by
  have a0 : atI (os.map PyData.int) 0 = some (.int d0) := by rw [show (0 : Int) = ((0 : Nat) : Int) from rfl, at_nat, map_at, h0]; rfl
  have a1 : atI (os.map PyData.int) 1 = some (.int d1) := by rw [show (1 : Int) = ((1 : Nat) : Int) from rfl, at_nat, map_at, h1]; rfl
  have ax : atI (os.map PyData.int) (2 + 3 * (k : Int)) = some (.int x) := by rw [show (2 + 3 * (k : Int)) = ((2 + 3 * k : Nat) : Int) by omega, at_nat, map_at, hx]; rfl
  have ay : atI (os.map PyData.int) (3 + 3 * (k : Int)) = some (.int y) := by rw [show (3 + 3 * (k : Int)) = ((3 + 3 * k : Nat) : Int) by omega, at_nat, map_at, hy]; rfl
  have az : atI (os.map PyData.int) (4 + 3 * (k : Int)) = some (.int z) := by rw [show (4 + 3 * (k : Int)) = ((4 + 3 * k : Nat) : Int) by omega, at_nat, map_at, hz]; rfl
  have ak : ∃ s, atI kindsD x = some (.str s) := by
    have : x = 0 ∨ x = 1 ∨ x = 2 := by omega
    rcases this with rfl | rfl | rfl
    · exact ⟨"a", at0 _ _⟩
    · exact ⟨"ab", at1 _ _ _⟩
    · exact ⟨"a1", at2 _ _ _ _⟩
  obtain ⟨s, ak⟩ := ak
  have lw' : (ws.map win).length < mx := by rw [List.length_map]; exact lw
  have three : (3 : Nat) ≤ mx := by decide
  generalize hE : (if y + z < 12 then y + z else 12) = E
  have gE : y ≤ E ∧ E ≤ 12 := by rw [← hE]; split <;> omega
  by_cases c1 : d0 = 1
  · subst c1
    refine ⟨⟨s, y * 769, if E * 769 + d1 < 9999 then E * 769 + d1 else 9999⟩, some (.val (.int (y * 769))), some (.val (.int (E * 769 + d1))), ?_, ?_⟩
    · simp [l__law_row_1, x_app, a0, a1, ax, ay, az, ak, lw, three, mulOk_l, hE, win]
    · unfold Ok
      dsimp only
      split <;> omega
  · by_cases c2 : d0 = 2
    · subst c2
      refine ⟨⟨s, 9987 + y, if 9987 + E < 9999 then 9987 + E else 9999⟩, some (.val (.int (9987 + y))), some (.val (.int (9987 + E))), ?_, ?_⟩
      · simp [l__law_row_1, x_app, a0, a1, ax, ay, az, ak, lw, three, mulOk_l, hE, win]
      · unfold Ok
        dsimp only
        split <;> omega
    · refine ⟨⟨s, y, if E < 9999 then E else 9999⟩, some (.val (.int y)), some (.val (.int E)), ?_, ?_⟩
      · simp [l__law_row_1, x_app, a0, a1, ax, ay, az, ak, lw, three, mulOk_l, hE, win, c1, c2]
      · unfold Ok
        dsimp only
        split <;> omega
theorem row_ok (cell : Int) (n : Nat) (hn : n ≤ 1000) : ∃ ws : List Win, g__law_row [.int cell, .int (n : Int)] = .ok (.tuple (ws.map win)) ∧ ws.length = n ∧ ∀ w ∈ ws, Ok w := by
  have hs : Szs (4 :: 700 :: rep n) := Szs.app (a := [4, 700]) (by intro m hm; simp at hm; omega) (rep_szs n)
  obtain ⟨os, e, d⟩ := draws_ok cell (4 :: 700 :: rep n) hs (by simp [rep_len]; omega)
  have lp : ∃ (ws : List Win) (z5 z6 z7 : Option SV), forS (τName 5) l__law_row_1 ((List.range n).map fun (k : Nat) => .int (k : Int)) [some (.val (.int cell)), some (.val (.int (n : Int))), some (.val (.list (os.map .int))), some (.val (.list kindsD)), some (.own (.list [])), none, none, none]
      = .nx [some (.val (.int cell)), some (.val (.int (n : Int))), some (.val (.list (os.map .int))), some (.val (.list kindsD)), some (.own (.list (ws.map win))), z5, z6, z7] ∧ ws.length = n ∧ ∀ w ∈ ws, Ok w := by
    refine for_rng n (fun k ρ => ∃ (ws : List Win) (z5 z6 z7 : Option SV), ρ = [some (.val (.int cell)), some (.val (.int (n : Int))), some (.val (.list (os.map .int))), some (.val (.list kindsD)), some (.own (.list (ws.map win))), z5, z6, z7] ∧ ws.length = k ∧ ∀ w ∈ ws, Ok w)
      (fun r => ∃ (ws : List Win) (z5 z6 z7 : Option SV), r = .nx [some (.val (.int cell)), some (.val (.int (n : Int))), some (.val (.list (os.map .int))), some (.val (.list kindsD)), some (.own (.list (ws.map win))), z5, z6, z7] ∧ ws.length = n ∧ ∀ w ∈ ws, Ok w) ⟨[], none, none, none, rfl, rfl, fun w hw => by cases hw⟩ ?_ ?_
    · rintro k ρ hk ⟨ws, z5, z6, z7, rfl, hl, hw⟩
      obtain ⟨r1, r2, r3⟩ := rep_at n k hk
      obtain ⟨d0, h0, _, _⟩ := d.get (i := 0) (n := 4) rfl
      obtain ⟨d1, h1, g1, _⟩ := d.get (i := 1) (n := 700) rfl
      obtain ⟨x, hx, gx, gx'⟩ := d.get (i := 2 + 3 * k) (n := 3) (by rw [Nat.add_comm]; exact r1)
      obtain ⟨y, hy, gy, gy'⟩ := d.get (i := 3 + 3 * k) (n := 13) (by rw [show 3 + 3 * k = 3 * k + 1 + 2 by omega]; exact r2)
      obtain ⟨z, hz, gz, _⟩ := d.get (i := 4 + 3 * k) (n := 8) (by rw [show 4 + 3 * k = 3 * k + 2 + 2 by omega]; exact r3)
      obtain ⟨w, y6, y7, t, ok⟩ := row_turn (some (.val (.int cell))) (some (.val (.int (n : Int)))) z6 z7 os ws k d0 d1 x y z h0 h1 hx hy hz g1 ⟨gx, gx'⟩ ⟨gy, gy'⟩ gz (by show _ < 16777216; omega)
      show Aft (l__law_row_1 [some (.val (.int cell)), some (.val (.int (n : Int))), some (.val (.list (os.map .int))), some (.val (.list kindsD)), some (.own (.list (ws.map win))), some (.val (.int (k : Int))), z6, z7]) _ _
      rw [t]
      refine ⟨_, _, _, _, rfl, by simp [hl], fun v hv => ?_⟩
      rcases List.mem_append.mp hv with h | h
      · exact hw v h
      · rw [List.mem_singleton.mp h]; exact ok
    · rintro ρ ⟨ws, z5, z6, z7, rfl, hl, hw⟩
      exact ⟨ws, _, _, _, rfl, hl, hw⟩
  obtain ⟨ws, z5, z6, z7, e2, hl, hw⟩ := lp
  refine ⟨ws, ?_, hl, hw⟩
  have em : oMul (.list [.int 3, .int 13, .int 8]) (.int (n : Int)) = .ok (.list ((rep n).map .int)) := by
    simp only [oMul]
    rw [Int.toNat_natCast, if_pos, rep_map]
    simp only [Bool.and_eq_true, decide_eq_true_eq, List.length_cons, List.length_nil]
    refine ⟨⟨by omega, by omega⟩, ?_⟩
    show _ ≤ 16777216
    omega
  have l2 : (rep n).length + 1 + 1 ≤ mx := by rw [rep_len]; show _ ≤ 16777216; omega
  have l3 : 2 + (rep n).length ≤ mx := by rw [rep_len]; show _ ≤ 16777216; omega
  simp at e
  simp [kindsD] at e2
  simp [g__law_row, runF, b__law_row, em, e_draws, l2, l3, e, rng_nat (show n ≤ 1000000000 by omega), e2]
end K09

namespace K09
open PySem PySem.Spec PyProof.Rows L2 DL
theorem of_ok (ws : List Win) (hl : ws.length ≤ 100000) : g_clash_of [.tuple (ws.map win)] = .ok (pairD (pairM clashM ws)) := pair_ok clash_ok ws hl
theorem lof_ok (ws : List Win) (hl : ws.length ≤ 100000) : g__law_pair_of [.tuple (ws.map win)] = .ok (pairD (pairM lclashM ws)) := pair_ok lclash_ok ws hl
theorem find_congr {α : Type} {p q : α → Bool} : ∀ {xs : List α}, (∀ x ∈ xs, p x = q x) → xs.find? p = xs.find? q
  | [], _ => rfl
  | x :: xs, h => by
    rw [List.find?_cons, List.find?_cons, h x List.mem_cons_self, find_congr fun y hy => h y (List.mem_cons_of_mem _ hy)]
theorem fs_congr {α β : Type} {p q : α → Option β} : ∀ {xs : List α}, (∀ x ∈ xs, p x = q x) → xs.findSome? p = xs.findSome? q
  | [], _ => rfl
  | x :: xs, h => by
    rw [List.findSome?_cons, List.findSome?_cons, h x List.mem_cons_self, fs_congr fun y hy => h y (List.mem_cons_of_mem _ hy)]
theorem pair_eq {ws : List Win} (h : ∀ w ∈ ws, Ok w) : pairM lclashM ws = pairM clashM ws := by
  unfold pairM
  refine fs_congr fun j _ => ?_
  cases e : ws[j]? with
  | none => rfl
  | some w =>
    show Option.map _ (inM lclashM ws j w) = Option.map _ (inM clashM ws j w)
    refine congrArg _ ?_
    unfold inM
    refine find_congr fun i _ => ?_
    cases e2 : ws[i]? with
    | none => rfl
    | some v => exact clash_eq (h v (List.mem_of_getElem? e2)) (h w (List.mem_of_getElem? e))
theorem same_pair (o : Option (Nat × Nat)) : g__law_same 6 [pairD o, pairD o] = .ok (.bool true) := by rw [e_same]; exact same_ok 6 _ (pair_okD o)
/-- the windows told apart -/
theorem lc_ok (s0 s1 s2 s3 s4 : Option SV) (w : Win) (r : En) (ws : List Win) : lcL (τName 6) t_law_1 e_law_1 (ws.map win) (s0 :: s1 :: s2 :: s3 :: s4 :: some (.val (win w)) :: none :: r) = .ok ((ws.filter fun v => lclashM v w).map win) := by
  refine lcL_map win win (fun v => lclashM v w) (fun v => s0 :: s1 :: s2 :: s3 :: s4 :: some (.val (win w)) :: some (.val (win v)) :: r) ws fun v _ => ⟨rfl, ?_, fun _ => rfl⟩
  simp [t_law_1, lclash_ok]
theorem apart_turn (s0 s1 s2 s3 s6 : Option SV) (r : En) (vs : List Win) (w : Win) (hv : vs.length ≤ 40) (h6 : noOwn [s6] [0] = true) :
    ∃ us : List Win, l_law_1 (s0 :: s1 :: s2 :: s3 :: some (.own (.list (vs.map win))) :: some (.val (win w)) :: s6 :: r) = .nx (s0 :: s1 :: s2 :: s3 :: some (.own (.list (us.map win))) :: some (.val (win w)) :: s6 :: r) ∧ us.length ≤ 40 ∧ ∀ u ∈ us, u ∈ vs ∨ u = w := by
  have h6' : noOwn (s0 :: s1 :: s2 :: s3 :: some (.own (.list (vs.map win))) :: some (.val (win w)) :: s6 :: r) [6] = true := h6
  have e : wipeE (s0 :: s1 :: s2 :: s3 :: some (.own (.list (vs.map win))) :: some (.val (win w)) :: s6 :: r) [6] = s0 :: s1 :: s2 :: s3 :: some (.own (.list (vs.map win))) :: some (.val (win w)) :: none :: r := rfl
  have l1 : vs.length ≤ mx := by show _ ≤ 16777216; omega
  have l2 : vs.length < mx := by show _ < 16777216; omega
  by_cases h : vs.length < 40
  · have h' : (vs.length : Int) < 40 := by omega
    by_cases g : (vs.filter fun v => lclashM v w).length = 0
    · refine ⟨vs ++ [w], ?_, by simp; omega, fun u hu => ?_⟩
      · simp at g
        simp [l_law_1, x_app, h', h6', e, lc_ok, l1, l2, g]
        exact g
      · rcases List.mem_append.mp hu with h | h
        · exact .inl h
        · exact .inr (List.mem_singleton.mp h)
    · refine ⟨vs, ?_, hv, fun u hu => .inl hu⟩
      have g' : ¬ ((vs.filter fun v => lclashM v w).length : Int) = 0 := by omega
      simp [l_law_1, x_app, h', h6', e, lc_ok, l1, l2, g']
      simpa using g
  · have h' : ¬ (vs.length : Int) < 40 := by omega
    exact ⟨vs, by simp [l_law_1, h'], hv, fun u hu => .inl hu⟩

theorem apart_loop (s0 s1 s2 s3 : Option SV) (r : En) (ws : List Win) (hw : ∀ w ∈ ws, Ok w) : ∃ (vs : List Win) (z : Option SV), forS (τName 5) l_law_1 (ws.map win) (s0 :: s1 :: s2 :: s3 :: some (.own (.list [])) :: none :: none :: r) = .nx (s0 :: s1 :: s2 :: s3 :: some (.own (.list (vs.map win))) :: z :: none :: r) ∧ vs.length ≤ 40 ∧ ∀ v ∈ vs, Ok v := by
  refine for_at (ws.map win) (fun _ ρ => ∃ (vs : List Win) (z : Option SV), ρ = (s0 :: s1 :: s2 :: s3 :: some (.own (.list (vs.map win))) :: z :: none :: r) ∧ vs.length ≤ 40 ∧ ∀ v ∈ vs, Ok v)
    (fun q => ∃ (vs : List Win) (z : Option SV), q = .nx (s0 :: s1 :: s2 :: s3 :: some (.own (.list (vs.map win))) :: z :: none :: r) ∧ vs.length ≤ 40 ∧ ∀ v ∈ vs, Ok v) ⟨[], none, rfl, by decide, fun v hv => by cases hv⟩ ?_ ?_
  · rintro k d ρ hk ⟨vs, z, rfl, hl, hv⟩
    rw [map_at] at hk
    obtain ⟨w, hw', rfl⟩ := Option.map_eq_some_iff.mp hk
    obtain ⟨us, e, l, m⟩ := apart_turn s0 s1 s2 s3 none r vs w hl rfl
    refine ⟨_, rfl, ?_⟩
    show Aft (l_law_1 (s0 :: s1 :: s2 :: s3 :: some (.own (.list (vs.map win))) :: some (.val (win w)) :: none :: r)) _ _
    rw [e]
    refine ⟨us, _, rfl, l, fun v hv' => ?_⟩
    rcases m v hv' with h | h
    · exact hv v h
    · rw [h]; exact hw w (List.mem_of_getElem? hw')
  · rintro ρ ⟨vs, z, rfl, hl, hv⟩
    exact ⟨vs, z, rfl, hl, hv⟩
theorem rows_loop (s0 s1 s2 s3 s4 s5 s6 s7 s8 : Option SV) (r : En) (rows : List (List Win)) (hr : ∀ ws ∈ rows, ws.length ≤ 100000 ∧ ∀ w ∈ ws, Ok w) (z : Option SV) : ∃ y : Option SV, forS (τName 9) l_law_2 (rows.map fun ws => .tuple (ws.map win)) (s0 :: s1 :: s2 :: s3 :: s4 :: s5 :: s6 :: s7 :: s8 :: z :: r) = .nx (s0 :: s1 :: s2 :: s3 :: s4 :: s5 :: s6 :: s7 :: s8 :: y :: r) := by
  refine for_at (rows.map fun ws => .tuple (ws.map win)) (fun _ ρ => ∃ z : Option SV, ρ = (s0 :: s1 :: s2 :: s3 :: s4 :: s5 :: s6 :: s7 :: s8 :: z :: r))
    (fun q => ∃ z : Option SV, q = .nx (s0 :: s1 :: s2 :: s3 :: s4 :: s5 :: s6 :: s7 :: s8 :: z :: r)) ⟨z, rfl⟩ ?_ ?_
  · rintro k d ρ hk ⟨z, rfl⟩
    rw [map_at] at hk
    obtain ⟨ws, hw', rfl⟩ := Option.map_eq_some_iff.mp hk
    obtain ⟨hl, ho⟩ := hr ws (List.mem_of_getElem? hw')
    refine ⟨_, rfl, ?_⟩
    show Aft (l_law_2 (s0 :: s1 :: s2 :: s3 :: s4 :: s5 :: s6 :: s7 :: s8 :: some (.val (.tuple (ws.map win))) :: r)) _ _
    have e : l_law_2 (s0 :: s1 :: s2 :: s3 :: s4 :: s5 :: s6 :: s7 :: s8 :: some (.val (.tuple (ws.map win))) :: r) = .nx (s0 :: s1 :: s2 :: s3 :: s4 :: s5 :: s6 :: s7 :: s8 :: some (.val (.tuple (ws.map win))) :: r) := by
      simp [l_law_2, of_ok ws hl, lof_ok ws hl, pair_eq ho, same_pair]
    rw [e]
    exact ⟨_, rfl⟩
  · rintro ρ ⟨z, rfl⟩
    exact ⟨z, rfl⟩
theorem inner_loop (s0 s1 s2 s4 s5 s6 s7 s8 s9 s10 : Option SV) (ws : List Win) (hw : ∀ w ∈ ws, Ok w) (a : Win) (ha : Ok a) (ks : List Nat) (hk : ∀ k ∈ ks, k < ws.length) (z : Option SV) : ∃ y : Option SV, forS (τName 12) l_law_4 (ks.map fun (k : Nat) => .int (k : Int)) [s0, s1, s2, some (.val (.tuple (ws.map win))), s4, s5, s6, s7, s8, s9, s10, some (.val (win a)), z] = .nx [s0, s1, s2, some (.val (.tuple (ws.map win))), s4, s5, s6, s7, s8, s9, s10, some (.val (win a)), y] := by
  refine for_at (ks.map fun (k : Nat) => .int (k : Int)) (fun _ ρ => ∃ z : Option SV, ρ = [s0, s1, s2, some (.val (.tuple (ws.map win))), s4, s5, s6, s7, s8, s9, s10, some (.val (win a)), z])
    (fun q => ∃ z : Option SV, q = .nx [s0, s1, s2, some (.val (.tuple (ws.map win))), s4, s5, s6, s7, s8, s9, s10, some (.val (win a)), z]) ⟨z, rfl⟩ ?_ ?_
  · rintro i d ρ hi ⟨z, rfl⟩
    rw [map_at] at hi
    obtain ⟨k, hk', rfl⟩ := Option.map_eq_some_iff.mp hi
    have kl := hk k (List.mem_of_getElem? hk')
    have en : ws[k]? = some ws[k] := List.getElem?_eq_getElem kl
    refine ⟨_, rfl, ?_⟩
    show Aft (l_law_4 [s0, s1, s2, some (.val (.tuple (ws.map win))), s4, s5, s6, s7, s8, s9, s10, some (.val (win a)), some (.val (.int (k : Int)))]) _ _
    have e : l_law_4 [s0, s1, s2, some (.val (.tuple (ws.map win))), s4, s5, s6, s7, s8, s9, s10, some (.val (win a)), some (.val (.int (k : Int)))] = .nx [s0, s1, s2, some (.val (.tuple (ws.map win))), s4, s5, s6, s7, s8, s9, s10, some (.val (win a)), some (.val (.int (k : Int)))] := by
      simp [l_law_4, at_nat, en, two_hold_ok ha (hw _ (List.getElem_mem kl))]
    rw [e]
    exact ⟨_, rfl⟩
  · rintro ρ ⟨z, rfl⟩
    exact ⟨z, rfl⟩
theorem outer_loop (s0 s1 s2 s4 s5 s6 s7 s8 s9 : Option SV) (ws : List Win) (hw : ∀ w ∈ ws, Ok w) (hl : ws.length ≤ 100000) (c : Int) (hc : 0 < c ∧ c < 1000000) (z y : Option SV) : ∃ z' y' : Option SV, forS (τName 11) l_law_3 (ws.map win) [s0, s1, s2, some (.val (.tuple (ws.map win))), s4, s5, s6, s7, s8, s9, some (.val (.int c)), z, y] = .nx [s0, s1, s2, some (.val (.tuple (ws.map win))), s4, s5, s6, s7, s8, s9, some (.val (.int c)), z', y'] := by
  refine for_at (ws.map win) (fun _ ρ => ∃ z y : Option SV, ρ = [s0, s1, s2, some (.val (.tuple (ws.map win))), s4, s5, s6, s7, s8, s9, some (.val (.int c)), z, y])
    (fun q => ∃ z y : Option SV, q = .nx [s0, s1, s2, some (.val (.tuple (ws.map win))), s4, s5, s6, s7, s8, s9, some (.val (.int c)), z, y]) ⟨z, y, rfl⟩ ?_ ?_
  · rintro i d ρ hi ⟨z, y, rfl⟩
    rw [map_at] at hi
    obtain ⟨a, ha', rfl⟩ := Option.map_eq_some_iff.mp hi
    obtain ⟨ks, rk, lk⟩ := rng3_nat (n := ws.length) (c := c) (by omega) hc
    obtain ⟨y', e⟩ := inner_loop s0 s1 s2 s4 s5 s6 s7 s8 s9 (some (.val (.int c))) ws hw a (hw a (List.mem_of_getElem? ha')) ks lk y
    refine ⟨_, rfl, ?_⟩
    show Aft (l_law_3 [s0, s1, s2, some (.val (.tuple (ws.map win))), s4, s5, s6, s7, s8, s9, some (.val (.int c)), some (.val (win a)), y]) _ _
    have e' : l_law_3 [s0, s1, s2, some (.val (.tuple (ws.map win))), s4, s5, s6, s7, s8, s9, some (.val (.int c)), some (.val (win a)), y] = .nx [s0, s1, s2, some (.val (.tuple (ws.map win))), s4, s5, s6, s7, s8, s9, some (.val (.int c)), some (.val (win a)), y'] := by
      simp [l_law_3, rk, e]
    rw [e']
    exact ⟨_, _, rfl⟩
  · rintro ρ ⟨z, y, rfl⟩
    exact ⟨z, y, rfl⟩
theorem row_int (c m : Int) (h : 0 ≤ m ∧ m ≤ 1000) : ∃ ws : List Win, g__law_row [.int c, .int m] = .ok (.tuple (ws.map win)) ∧ ws.length = m.toNat ∧ ∀ w ∈ ws, Ok w := by
  have e : m = ((m.toNat : Nat) : Int) := by omega
  have r := row_ok c m.toNat (by omega)
  rwa [← e] at r
theorem law_true (ns : List Int) (hn : ns.length ≤ 63) : g_law [scr ns] = .ok (.bool true) := by
  obtain ⟨c0, h0⟩ := cell_ok ns 0
  obtain ⟨c1, h1⟩ := cell_ok ns 1
  obtain ⟨c2, h2⟩ := cell_ok ns 2
  obtain ⟨c3, h3⟩ := cell_ok ns 3
  rw [← e_cell] at h0 h1 h2 h3
  simp at h0 h1 h2 h3
  by_cases h5 : c0 % 16 = 5
  · obtain ⟨ws, r1, l1, o1⟩ := row_int c1 (40) (by omega)
    obtain ⟨us, r2, l2, o2⟩ := row_int c2 (52) (by omega)
    obtain ⟨vs, z5, ea, la, oa⟩ := apart_loop (some (.val (scr ns))) (some (.val (.int (40)))) (some (.val (.bool true))) (some (.val (.tuple (ws.map win)))) [none, none, none, none, none, none] us o2
    have lw : ws.length ≤ 1000 := by omega
    have p1 : (0 : Int) < (vs.length : Int) + 1 := by omega
    have kA := cut_len (vs.map win) none (some (c3 % ((vs.length : Int) + 1)))
    have kB := cut_len (ws.map win) none (some 1)
    have kC := cut_len (vs.map win) (some (c3 % ((vs.length : Int) + 1))) none
    rw [List.length_map] at kA kB kC
    have q1 : (DL.cutD (vs.map win) none (some (c3 % ((vs.length : Int) + 1)))).length + (DL.cutD (ws.map win) none (some 1)).length ≤ mx := by show _ ≤ 16777216; omega
    have q2 : (DL.cutD (vs.map win) none (some (c3 % ((vs.length : Int) + 1)))).length + (DL.cutD (ws.map win) none (some 1)).length + (DL.cutD (vs.map win) (some (c3 % ((vs.length : Int) + 1))) none).length ≤ mx := by show _ ≤ 16777216; omega
    have kD := cut_len (DL.cutD vs none (some (c3 % ((vs.length : Int) + 1))) ++ (DL.cutD ws none (some 1) ++ DL.cutD vs (some (c3 % ((vs.length : Int) + 1))) none)) none (some 40)
    rw [List.length_append, List.length_append] at kD
    have kA' := cut_len vs none (some (c3 % ((vs.length : Int) + 1)))
    have kB' := cut_len ws none (some 1)
    have kC' := cut_len vs (some (c3 % ((vs.length : Int) + 1))) none
    have er := rows_loop (some (.val (scr ns))) (some (.val (.int (40)))) (some (.val (.bool true))) (some (.val (.tuple (ws.map win)))) (some (.own (.list (vs.map win)))) z5 none
      (some (.val (.int (c3 % ((vs.length : Int) + 1))))) (some (.val (.tuple (DL.cutD (vs.map win) none (some (c3 % ((vs.length : Int) + 1))) ++ (DL.cutD (ws.map win) none (some 1) ++ DL.cutD (vs.map win) (some (c3 % ((vs.length : Int) + 1))) none))))) [none, none, none]
      [ws, vs, DL.cutD (DL.cutD vs none (some (c3 % ((vs.length : Int) + 1))) ++ (DL.cutD ws none (some 1) ++ DL.cutD vs (some (c3 % ((vs.length : Int) + 1))) none)) none (some 40)] (by
        intro xs hx
        simp only [List.mem_cons, List.not_mem_nil, or_false] at hx
        rcases hx with rfl | rfl | rfl
        · exact ⟨by omega, o1⟩
        · exact ⟨by omega, oa⟩
        · refine ⟨by omega, fun w hw => ?_⟩
          have h1 := cut_mem hw
          rcases List.mem_append.mp h1 with h | h
          · exact oa w (cut_mem h)
          · rcases List.mem_append.mp h with h | h
            · exact o1 w (cut_mem h)
            · exact oa w (cut_mem h)) none
    obtain ⟨y9, er⟩ := er
    simp only [List.map_cons, List.map_nil, ← cut_map, List.map_append] at er
    obtain ⟨z11, z12, eo⟩ := outer_loop (some (.val (scr ns))) (some (.val (.int (40)))) (some (.val (.bool true))) (some (.own (.list (vs.map win)))) z5 none
      (some (.val (.int (c3 % ((vs.length : Int) + 1))))) (some (.val (.tuple (DL.cutD (vs.map win) none (some (c3 % ((vs.length : Int) + 1))) ++ (DL.cutD (ws.map win) none (some 1) ++ DL.cutD (vs.map win) (some (c3 % ((vs.length : Int) + 1))) none))))) y9 ws o1 (by omega) 7 (by omega) none none
    simp [g_law, runF, b_law, h0, h1, h2, h3, h5, r1, r2, ea, p1, q1, q2, er, eo]
  · obtain ⟨ws, r1, l1, o1⟩ := row_int c1 (c0 % 10) (by omega)
    obtain ⟨us, r2, l2, o2⟩ := row_int c2 (c0 % 10 + 12) (by omega)
    obtain ⟨vs, z5, ea, la, oa⟩ := apart_loop (some (.val (scr ns))) (some (.val (.int (c0 % 10)))) (some (.val (.bool false))) (some (.val (.tuple (ws.map win)))) [none, none, none, none, none, none] us o2
    have lw : ws.length ≤ 1000 := by omega
    have p1 : (0 : Int) < (vs.length : Int) + 1 := by omega
    have kA := cut_len (vs.map win) none (some (c3 % ((vs.length : Int) + 1)))
    have kB := cut_len (ws.map win) none (some 1)
    have kC := cut_len (vs.map win) (some (c3 % ((vs.length : Int) + 1))) none
    rw [List.length_map] at kA kB kC
    have q1 : (DL.cutD (vs.map win) none (some (c3 % ((vs.length : Int) + 1)))).length + (DL.cutD (ws.map win) none (some 1)).length ≤ mx := by show _ ≤ 16777216; omega
    have q2 : (DL.cutD (vs.map win) none (some (c3 % ((vs.length : Int) + 1)))).length + (DL.cutD (ws.map win) none (some 1)).length + (DL.cutD (vs.map win) (some (c3 % ((vs.length : Int) + 1))) none).length ≤ mx := by show _ ≤ 16777216; omega
    have kD := cut_len (DL.cutD vs none (some (c3 % ((vs.length : Int) + 1))) ++ (DL.cutD ws none (some 1) ++ DL.cutD vs (some (c3 % ((vs.length : Int) + 1))) none)) none (some 40)
    rw [List.length_append, List.length_append] at kD
    have kA' := cut_len vs none (some (c3 % ((vs.length : Int) + 1)))
    have kB' := cut_len ws none (some 1)
    have kC' := cut_len vs (some (c3 % ((vs.length : Int) + 1))) none
    have er := rows_loop (some (.val (scr ns))) (some (.val (.int (c0 % 10)))) (some (.val (.bool false))) (some (.val (.tuple (ws.map win)))) (some (.own (.list (vs.map win)))) z5 none
      (some (.val (.int (c3 % ((vs.length : Int) + 1))))) (some (.val (.tuple (DL.cutD (vs.map win) none (some (c3 % ((vs.length : Int) + 1))) ++ (DL.cutD (ws.map win) none (some 1) ++ DL.cutD (vs.map win) (some (c3 % ((vs.length : Int) + 1))) none))))) [none, none, none]
      [ws, vs, DL.cutD (DL.cutD vs none (some (c3 % ((vs.length : Int) + 1))) ++ (DL.cutD ws none (some 1) ++ DL.cutD vs (some (c3 % ((vs.length : Int) + 1))) none)) none (some 40)] (by
        intro xs hx
        simp only [List.mem_cons, List.not_mem_nil, or_false] at hx
        rcases hx with rfl | rfl | rfl
        · exact ⟨by omega, o1⟩
        · exact ⟨by omega, oa⟩
        · refine ⟨by omega, fun w hw => ?_⟩
          have h1 := cut_mem hw
          rcases List.mem_append.mp h1 with h | h
          · exact oa w (cut_mem h)
          · rcases List.mem_append.mp h with h | h
            · exact o1 w (cut_mem h)
            · exact oa w (cut_mem h)) none
    obtain ⟨y9, er⟩ := er
    simp only [List.map_cons, List.map_nil, ← cut_map, List.map_append] at er
    obtain ⟨z11, z12, eo⟩ := outer_loop (some (.val (scr ns))) (some (.val (.int (c0 % 10)))) (some (.val (.bool false))) (some (.own (.list (vs.map win)))) z5 none
      (some (.val (.int (c3 % ((vs.length : Int) + 1))))) (some (.val (.tuple (DL.cutD (vs.map win) none (some (c3 % ((vs.length : Int) + 1))) ++ (DL.cutD (ws.map win) none (some 1) ++ DL.cutD (vs.map win) (some (c3 % ((vs.length : Int) + 1))) none))))) y9 ws o1 (by omega) 1 (by omega) none none
    simp [g_law, runF, b_law, h0, h1, h2, h3, h5, r1, r2, ea, p1, q1, q2, er, eo]
end K09

namespace K09
open PySem PySem.Spec PyProof.Rows L2 DL
/-! ### what the top has written -/
theorem all_mk {l : PySem.W.OpenLaw} {w : World} {K : PySem.W.Frag} {h : Heap} {mg : Str → Option Value} {fa f0 f1 f2 f3 f4 f5 f6 f7 f8 f9 f10 f11 f12 f13 f14 : Addr} (X : K.In h) (G : h.Ns mainGlobals mg) (hfa : mg "law" = some (.ref fa))
    {od0 an0 : Option Addr} {sl0 : Array (Option Value)} {oc0 kV0 dc0 pm0 cd0 ct0 : Value}
    {od1 an1 : Option Addr} {sl1 : Array (Option Value)} {oc1 kV1 dc1 pm1 cd1 ct1 : Value}
    {od2 an2 : Option Addr} {sl2 : Array (Option Value)} {oc2 kV2 dc2 pm2 cd2 ct2 : Value}
    {od3 an3 : Option Addr} {sl3 : Array (Option Value)} {oc3 kV3 dc3 pm3 cd3 ct3 : Value}
    {od4 an4 : Option Addr} {sl4 : Array (Option Value)} {oc4 kV4 dc4 pm4 cd4 ct4 : Value}
    {od5 an5 : Option Addr} {sl5 : Array (Option Value)} {oc5 kV5 dc5 pm5 cd5 ct5 : Value}
    {od6 an6 : Option Addr} {sl6 : Array (Option Value)} {oc6 kV6 dc6 pm6 cd6 ct6 : Value}
    {od7 an7 : Option Addr} {sl7 : Array (Option Value)} {oc7 kV7 dc7 pm7 cd7 ct7 : Value}
    {od8 an8 : Option Addr} {sl8 : Array (Option Value)} {oc8 kV8 dc8 pm8 cd8 ct8 : Value}
    {od9 an9 : Option Addr} {sl9 : Array (Option Value)} {oc9 kV9 dc9 pm9 cd9 ct9 : Value}
    {od10 an10 : Option Addr} {sl10 : Array (Option Value)} {oc10 kV10 dc10 pm10 cd10 ct10 : Value}
    {od11 an11 : Option Addr} {sl11 : Array (Option Value)} {oc11 kV11 dc11 pm11 cd11 ct11 : Value}
    {od12 an12 : Option Addr} {sl12 : Array (Option Value)} {oc12 kV12 dc12 pm12 cd12 ct12 : Value}
    {od13 an13 : Option Addr} {sl13 : Array (Option Value)} {oc13 kV13 dc13 pm13 cd13 ct13 : Value}
    {od14 an14 : Option Addr} {sl14 : Array (Option Value)} {oc14 kV14 dc14 pm14 cd14 ct14 : Value}
    (a0 : PySem.W.nsIn K mainGlobals "holds" = some (some (.ref f0))) (l0 : K.lookup f0 = some ⟨oc0, od0, .func (PySem.W.fnOf "holds" "holds" (defArgs s_holds) (defBody s_holds) (defScope s_holds) .none kV0 dc0 pm0 an0 cd0 ct0), sl0⟩) (c0 : PySem.W.codeIn K cd0 "holds" = true) (k0 : PySem.W.keepIn K (.ref f0) = true)
    (a1 : PySem.W.nsIn K mainGlobals "inside" = some (some (.ref f1))) (l1 : K.lookup f1 = some ⟨oc1, od1, .func (PySem.W.fnOf "inside" "inside" (defArgs s_inside) (defBody s_inside) (defScope s_inside) .none kV1 dc1 pm1 an1 cd1 ct1), sl1⟩) (c1 : PySem.W.codeIn K cd1 "inside" = true) (k1 : PySem.W.keepIn K (.ref f1) = true)
    (a2 : PySem.W.nsIn K mainGlobals "disjoint" = some (some (.ref f2))) (l2 : K.lookup f2 = some ⟨oc2, od2, .func (PySem.W.fnOf "disjoint" "disjoint" (defArgs s_disjoint) (defBody s_disjoint) (defScope s_disjoint) .none kV2 dc2 pm2 an2 cd2 ct2), sl2⟩) (c2 : PySem.W.codeIn K cd2 "disjoint" = true) (k2 : PySem.W.keepIn K (.ref f2) = true)
    (a3 : PySem.W.nsIn K mainGlobals "_law_cell" = some (some (.ref f3))) (l3 : K.lookup f3 = some ⟨oc3, od3, .func (PySem.W.fnOf "_law_cell" "_law_cell" (defArgs s__law_cell) (defBody s__law_cell) (defScope s__law_cell) .none kV3 dc3 pm3 an3 cd3 ct3), sl3⟩) (c3 : PySem.W.codeIn K cd3 "_law_cell" = true) (k3 : PySem.W.keepIn K (.ref f3) = true)
    (a4 : PySem.W.nsIn K mainGlobals "_law_draws" = some (some (.ref f4))) (l4 : K.lookup f4 = some ⟨oc4, od4, .func (PySem.W.fnOf "_law_draws" "_law_draws" (defArgs s__law_draws) (defBody s__law_draws) (defScope s__law_draws) .none kV4 dc4 pm4 an4 cd4 ct4), sl4⟩) (c4 : PySem.W.codeIn K cd4 "_law_draws" = true) (k4 : PySem.W.keepIn K (.ref f4) = true)
    (a5 : PySem.W.nsIn K mainGlobals "_law_shared" = some (some (.ref f5))) (l5 : K.lookup f5 = some ⟨oc5, od5, .func (PySem.W.fnOf "_law_shared" "_law_shared" (defArgs s__law_shared) (defBody s__law_shared) (defScope s__law_shared) .none kV5 dc5 pm5 an5 cd5 ct5), sl5⟩) (c5 : PySem.W.codeIn K cd5 "_law_shared" = true) (k5 : PySem.W.keepIn K (.ref f5) = true)
    (a6 : PySem.W.nsIn K mainGlobals "clash" = some (some (.ref f6))) (l6 : K.lookup f6 = some ⟨oc6, od6, .func (PySem.W.fnOf "clash" "clash" (defArgs s_clash) (defBody s_clash) (defScope s_clash) .none kV6 dc6 pm6 an6 cd6 ct6), sl6⟩) (c6 : PySem.W.codeIn K cd6 "clash" = true) (k6 : PySem.W.keepIn K (.ref f6) = true)
    (a7 : PySem.W.nsIn K mainGlobals "_law_within" = some (some (.ref f7))) (l7 : K.lookup f7 = some ⟨oc7, od7, .func (PySem.W.fnOf "_law_within" "_law_within" (defArgs s__law_within) (defBody s__law_within) (defScope s__law_within) .none kV7 dc7 pm7 an7 cd7 ct7), sl7⟩) (c7 : PySem.W.codeIn K cd7 "_law_within" = true) (k7 : PySem.W.keepIn K (.ref f7) = true)
    (a8 : PySem.W.nsIn K mainGlobals "_law_row" = some (some (.ref f8))) (l8 : K.lookup f8 = some ⟨oc8, od8, .func (PySem.W.fnOf "_law_row" "_law_row" (defArgs s__law_row) (defBody s__law_row) (defScope s__law_row) .none kV8 dc8 pm8 an8 cd8 ct8), sl8⟩) (c8 : PySem.W.codeIn K cd8 "_law_row" = true) (k8 : PySem.W.keepIn K (.ref f8) = true)
    (a9 : PySem.W.nsIn K mainGlobals "clash_of" = some (some (.ref f9))) (l9 : K.lookup f9 = some ⟨oc9, od9, .func (PySem.W.fnOf "clash_of" "clash_of" (defArgs s_clash_of) (defBody s_clash_of) (defScope s_clash_of) .none kV9 dc9 pm9 an9 cd9 ct9), sl9⟩) (c9 : PySem.W.codeIn K cd9 "clash_of" = true) (k9 : PySem.W.keepIn K (.ref f9) = true)
    (a10 : PySem.W.nsIn K mainGlobals "_law_clash" = some (some (.ref f10))) (l10 : K.lookup f10 = some ⟨oc10, od10, .func (PySem.W.fnOf "_law_clash" "_law_clash" (defArgs s__law_clash) (defBody s__law_clash) (defScope s__law_clash) .none kV10 dc10 pm10 an10 cd10 ct10), sl10⟩) (c10 : PySem.W.codeIn K cd10 "_law_clash" = true) (k10 : PySem.W.keepIn K (.ref f10) = true)
    (a11 : PySem.W.nsIn K mainGlobals "_law_pair_of" = some (some (.ref f11))) (l11 : K.lookup f11 = some ⟨oc11, od11, .func (PySem.W.fnOf "_law_pair_of" "_law_pair_of" (defArgs s__law_pair_of) (defBody s__law_pair_of) (defScope s__law_pair_of) .none kV11 dc11 pm11 an11 cd11 ct11), sl11⟩) (c11 : PySem.W.codeIn K cd11 "_law_pair_of" = true) (k11 : PySem.W.keepIn K (.ref f11) = true)
    (a12 : PySem.W.nsIn K mainGlobals "_law_same" = some (some (.ref f12))) (l12 : K.lookup f12 = some ⟨oc12, od12, .func (PySem.W.fnOf "_law_same" "_law_same" (defArgs s__law_same) (defBody s__law_same) (defScope s__law_same) .none kV12 dc12 pm12 an12 cd12 ct12), sl12⟩) (c12 : PySem.W.codeIn K cd12 "_law_same" = true) (k12 : PySem.W.keepIn K (.ref f12) = true)
    (a13 : PySem.W.nsIn K mainGlobals "_law_two_hold" = some (some (.ref f13))) (l13 : K.lookup f13 = some ⟨oc13, od13, .func (PySem.W.fnOf "_law_two_hold" "_law_two_hold" (defArgs s__law_two_hold) (defBody s__law_two_hold) (defScope s__law_two_hold) .none kV13 dc13 pm13 an13 cd13 ct13), sl13⟩) (c13 : PySem.W.codeIn K cd13 "_law_two_hold" = true) (k13 : PySem.W.keepIn K (.ref f13) = true)
    (a14 : PySem.W.nsIn K mainGlobals "law" = some (some (.ref f14))) (l14 : K.lookup f14 = some ⟨oc14, od14, .func (PySem.W.fnOf "law" "law" (defArgs s_law) (defBody s_law) (defScope s_law) .none kV14 dc14 pm14 an14 cd14 ct14), sl14⟩) (c14 : PySem.W.codeIn K cd14 "law" = true) (k14 : PySem.W.keepIn K (.ref f14) = true)
    (z_bool : PySem.W.nsIn K mainGlobals "bool" = some none)
    (z_int : PySem.W.nsIn K mainGlobals "int" = some none)
    (z_isinstance : PySem.W.nsIn K mainGlobals "isinstance" = some none)
    (z_len : PySem.W.nsIn K mainGlobals "len" = some none)
    (z_max : PySem.W.nsIn K mainGlobals "max" = some none)
    (z_min : PySem.W.nsIn K mainGlobals "min" = some none)
    (z_range : PySem.W.nsIn K mainGlobals "range" = some none)
    (z_str : PySem.W.nsIn K mainGlobals "str" = some none)
    (z_tuple : PySem.W.nsIn K mainGlobals "tuple" = some none) :
    ∃ fd : FuncData, (∀ (s : Shared) (v : Value), BindsTo s fd ⟨[v], []⟩ [("script", v)]) ∧ ∀ base : Heap, K.In base → base.Ns mainGlobals mg → FnOk l.prog w K mg base (L2.CX l.prog w) 8 fa fd ["script"] (spD K mg g_law) := by
  have e := hfa.symm.trans (PySem.W.mg_of X G a14)
  cases e
  have F0 := fun_mk (st := s_holds) l0 c0 k0
  have b0 := F0.binds (ps := ["window", "time"]) fun _ _ _ _ _ _ us hl => match us, hl with | [_, _], _ => rfl
  have F1 := fun_mk (st := s_inside) l1 c1 k1
  have b1 := F1.binds (ps := ["inner", "outer"]) fun _ _ _ _ _ _ us hl => match us, hl with | [_, _], _ => rfl
  have F2 := fun_mk (st := s_disjoint) l2 c2 k2
  have b2 := F2.binds (ps := ["first", "second"]) fun _ _ _ _ _ _ us hl => match us, hl with | [_, _], _ => rfl
  have F3 := fun_mk (st := s__law_cell) l3 c3 k3
  have b3 := F3.binds (ps := ["script", "k"]) fun _ _ _ _ _ _ us hl => match us, hl with | [_, _], _ => rfl
  have F4 := fun_mk (st := s__law_draws) l4 c4 k4
  have b4 := F4.binds (ps := ["cell", "sizes"]) fun _ _ _ _ _ _ us hl => match us, hl with | [_, _], _ => rfl
  have F5 := fun_mk (st := s__law_shared) l5 c5 k5
  have b5 := F5.binds (ps := ["one", "two"]) fun _ _ _ _ _ _ us hl => match us, hl with | [_, _], _ => rfl
  have F6 := fun_mk (st := s_clash) l6 c6 k6
  have b6 := F6.binds (ps := ["first", "second"]) fun _ _ _ _ _ _ us hl => match us, hl with | [_, _], _ => rfl
  have F7 := fun_mk (st := s__law_within) l7 c7 k7
  have b7 := F7.binds (ps := ["inner", "outer"]) fun _ _ _ _ _ _ us hl => match us, hl with | [_, _], _ => rfl
  have F8 := fun_mk (st := s__law_row) l8 c8 k8
  have b8 := F8.binds (ps := ["cell", "many"]) fun _ _ _ _ _ _ us hl => match us, hl with | [_, _], _ => rfl
  have F9 := fun_mk (st := s_clash_of) l9 c9 k9
  have b9 := F9.binds (ps := ["windows"]) fun _ _ _ _ _ _ us hl => match us, hl with | [_], _ => rfl
  have F10 := fun_mk (st := s__law_clash) l10 c10 k10
  have b10 := F10.binds (ps := ["one", "two"]) fun _ _ _ _ _ _ us hl => match us, hl with | [_, _], _ => rfl
  have F11 := fun_mk (st := s__law_pair_of) l11 c11 k11
  have b11 := F11.binds (ps := ["windows"]) fun _ _ _ _ _ _ us hl => match us, hl with | [_], _ => rfl
  have F12 := fun_mk (st := s__law_same) l12 c12 k12
  have b12 := F12.binds (ps := ["actual", "due"]) fun _ _ _ _ _ _ us hl => match us, hl with | [_, _], _ => rfl
  have F13 := fun_mk (st := s__law_two_hold) l13 c13 k13
  have b13 := F13.binds (ps := ["one", "two"]) fun _ _ _ _ _ _ us hl => match us, hl with | [_, _], _ => rfl
  have F14 := fun_mk (st := s_law) l14 c14 k14
  have b14 := F14.binds (ps := ["script"]) fun _ _ _ _ _ _ us hl => match us, hl with | [_], _ => rfl
  refine ⟨PySem.W.fnOf "law" "law" (defArgs s_law) (defBody s_law) (defScope s_law) .none kV14 dc14 pm14 an14 cd14 ct14, fun s v => .of_eq rfl, fun base _ _ => ?_⟩
  have m_bool := PySem.W.mg_none_of X G z_bool
  have m_int := PySem.W.mg_none_of X G z_int
  have m_isinstance := PySem.W.mg_none_of X G z_isinstance
  have m_len := PySem.W.mg_none_of X G z_len
  have m_max := PySem.W.mg_none_of X G z_max
  have m_min := PySem.W.mg_none_of X G z_min
  have m_range := PySem.W.mg_none_of X G z_range
  have m_str := PySem.W.mg_none_of X G z_str
  have m_tuple := PySem.W.mg_none_of X G z_tuple
  have c_holds := ok_holds (P := l.prog) (w := w) (K := K) (mg := mg) (base := base) F0 b0 (PySem.W.mg_of X G a0)
  have c_inside := ok_inside (P := l.prog) (w := w) (K := K) (mg := mg) (base := base) F1 b1 (PySem.W.mg_of X G a1)
  have c_disjoint := ok_disjoint (P := l.prog) (w := w) (K := K) (mg := mg) (base := base) F2 b2 (PySem.W.mg_of X G a2)
  have c__law_cell := ok__law_cell (P := l.prog) (w := w) (K := K) (mg := mg) (base := base) F3 b3 (PySem.W.mg_of X G a3) m_int m_len
  have c__law_draws := ok__law_draws (P := l.prog) (w := w) (K := K) (mg := mg) (base := base) F4 b4 (PySem.W.mg_of X G a4) m_int m_len m_range
  have c__law_shared := ok__law_shared (P := l.prog) (w := w) (K := K) (mg := mg) (base := base) F5 b5 (PySem.W.mg_of X G a5) m_max m_min
  have c_clash := ok_clash (P := l.prog) (w := w) (K := K) (mg := mg) (base := base) F6 b6 (PySem.W.mg_of X G a6) c_disjoint c_inside
  have c__law_within := ok__law_within (P := l.prog) (w := w) (K := K) (mg := mg) (base := base) F7 b7 (PySem.W.mg_of X G a7) c__law_shared
  have c__law_row := ok__law_row (P := l.prog) (w := w) (K := K) (mg := mg) (base := base) F8 b8 (PySem.W.mg_of X G a8) m_min m_range m_tuple c__law_draws
  have c_clash_of := ok_clash_of (P := l.prog) (w := w) (K := K) (mg := mg) (base := base) F9 b9 (PySem.W.mg_of X G a9) m_len m_range c_clash
  have c__law_clash := ok__law_clash (P := l.prog) (w := w) (K := K) (mg := mg) (base := base) F10 b10 (PySem.W.mg_of X G a10) c__law_shared c__law_within
  have c__law_pair_of := ok__law_pair_of (P := l.prog) (w := w) (K := K) (mg := mg) (base := base) F11 b11 (PySem.W.mg_of X G a11) m_len m_range c__law_clash
  have c__law_same := ok__law_same (P := l.prog) (w := w) (K := K) (mg := mg) (base := base) F12 b12 (PySem.W.mg_of X G a12) m_bool m_int m_isinstance m_len m_range m_str m_tuple 6
  have c__law_two_hold := ok__law_two_hold (P := l.prog) (w := w) (K := K) (mg := mg) (base := base) F13 b13 (PySem.W.mg_of X G a13) c__law_clash c__law_same c__law_shared c__law_within c_clash c_disjoint c_holds c_inside
  exact ok_law (P := l.prog) (w := w) (K := K) (mg := mg) (base := base) F14 m_int m_len m_range m_tuple c__law_cell c__law_clash c__law_pair_of c__law_row c__law_same c__law_two_hold c_clash_of
end K09
open PySem PySem.W PyProof.Rows
set_option maxHeartbeats 0 in
theorem PySem.Challenge.cw_roundsfare_k09_windows_that_clash_holds : PySem.Challenge.rw_roundsfare_k09_windows_that_clash.Holds := by
  w_on; o_law; k_head; (case hw => w_witness2)
  k_fill
  refine L2.walk_of (l := PySem.Challenge.rw_roundsfare_k09_windows_that_clash) (n := 63) (k := 8) (x := "script") (CX := fun w => L2.CX (PySem.Challenge.rw_roundsfare_k09_windows_that_clash).prog w) (sp := fun w => DL.spL _) rfl (by decide) rfl ⟨rfl, by decide, by decide⟩ (fun w h Y => PySem.W.kIn_of Y) ?F (fun _ _ a ns hl _ hS => ⟨a, ns, rfl, hS, hl, fun _ => rfl⟩) (fun _ _ _ _ _ h => DL.cx_no h)
  case F =>
    intro w mg fa h KX G hmg
    refine' DL.law_end (K09.all_mk (l := PySem.Challenge.rw_roundsfare_k09_windows_that_clash) (w := w) KX G hmg ?a0 ?l0 ?c0 ?k0 ?a1 ?l1 ?c1 ?k1 ?a2 ?l2 ?c2 ?k2 ?a3 ?l3 ?c3 ?k3 ?a4 ?l4 ?c4 ?k4 ?a5 ?l5 ?c5 ?k5 ?a6 ?l6 ?c6 ?k6 ?a7 ?l7 ?c7 ?k7 ?a8 ?l8 ?c8 ?k8 ?a9 ?l9 ?c9 ?k9 ?a10 ?l10 ?c10 ?k10 ?a11 ?l11 ?c11 ?k11 ?a12 ?l12 ?c12 ?k12 ?a13 ?l13 ?c13 ?k13 ?a14 ?l14 ?c14 ?k14 ?z_bool ?z_int ?z_isinstance ?z_len ?z_max ?z_min ?z_range ?z_str ?z_tuple) K09.law_true
    (case a0 => k_is); (case l0 => k_is); (case c0 => k_is); (case k0 => k_is); (case a1 => k_is); (case l1 => k_is); (case c1 => k_is); (case k1 => k_is); (case a2 => k_is); (case l2 => k_is); (case c2 => k_is); (case k2 => k_is); (case a3 => k_is); (case l3 => k_is); (case c3 => k_is); (case k3 => k_is); (case a4 => k_is); (case l4 => k_is); (case c4 => k_is); (case k4 => k_is); (case a5 => k_is); (case l5 => k_is); (case c5 => k_is); (case k5 => k_is); (case a6 => k_is); (case l6 => k_is); (case c6 => k_is); (case k6 => k_is); (case a7 => k_is); (case l7 => k_is); (case c7 => k_is); (case k7 => k_is); (case a8 => k_is); (case l8 => k_is); (case c8 => k_is); (case k8 => k_is); (case a9 => k_is); (case l9 => k_is); (case c9 => k_is); (case k9 => k_is); (case a10 => k_is); (case l10 => k_is); (case c10 => k_is); (case k10 => k_is); (case a11 => k_is); (case l11 => k_is); (case c11 => k_is); (case k11 => k_is); (case a12 => k_is); (case l12 => k_is); (case c12 => k_is); (case k12 => k_is); (case a13 => k_is); (case l13 => k_is); (case c13 => k_is); (case k13 => k_is); (case a14 => k_is); (case l14 => k_is); (case c14 => k_is); (case k14 => k_is); (case z_bool => k_is); (case z_int => k_is); (case z_isinstance => k_is); (case z_len => k_is); (case z_max => k_is); (case z_min => k_is); (case z_range => k_is); (case z_str => k_is); (case z_tuple => k_is)
