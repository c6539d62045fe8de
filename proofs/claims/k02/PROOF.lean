import PyProof.Rows.All
import Wide.All
import OpenK.AllK
import Wide.FinOn
import KE.DataEq
import KE.DataFind
import HandS.Base
import HandS.Call
import HandS.List
import HandS.Comp
import HandS.Ends
import HandS.Dict
import HandS.Iter
import HandS.Text
import HandS.Exc
import HandS.IsInst
import HandS.TupAny
import HandS.Conv
import HandS.CallSlots
import HandS.WordsExc
import HandS.ForMost
import HandS.ExcOwn
import KE.KExcSuper
import KE.KSuper
import HandS.ExcInit
import HandS.Nested
import HandS.ExcField
import HandS.ExcIs
import KE.KExcIs
import HandS.HotCalls
import PySem.Challenge.RW_roundsfare_k02_errors_and_limits
set_option Elab.async false
set_option linter.all false
set_option maxRecDepth 100000
set_option autoImplicit false
set_option maxHeartbeats 4000000
/-! DL1: data that does not change, denotations of expressions and statements as plain functions. -/
namespace DL
open PySem PySem.Spec PyProof.Rows L2

/-- the longest list -/
abbrev mx : Nat := 16777216
theorem mx_line : mx = sizeLine := sizeLine_eq.symm

/-! ### heaps -/
/-- all that was tracked is as it was -/
def Gr (H H' : Hp) : Prop := ∀ b o, H b = some o → H' b = some o
theorem Gr.refl (H : Hp) : Gr H H := fun _ _ h => h
theorem Gr.trans {H H1 H2 : Hp} (a : Gr H H1) (b : Gr H1 H2) : Gr H H2 := fun c o h => b c o (a c o h)
theorem Gr.seq {K : PySem.W.Frag} {H H' : Hp} {a : Addr} {xs : List V} (e : Gr H H') (h : SqL K H a xs) : SqL K H' a xs := by
  rcases h with (h | ⟨o, h⟩) | h
  · exact .inl (.inl (e _ _ h))
  · exact .inl (.inr ⟨o, e _ _ h⟩)
  · exact .inr h
theorem same_upd {H : Hp} {p : Addr} {o : HO} (h : H p = none) : Gr H (upd H p o) := fun b x e => by
  rw [upd_ne (ne_of_none e h)]
  exact e
def hide (H : Hp) (O : List Addr) : Hp := fun a => if a ∈ O then none else H a
theorem hide_out {H : Hp} {O : List Addr} {a : Addr} (h : a ∉ O) : hide H O a = H a := if_neg h
theorem hide_in {H : Hp} {O : List Addr} {a : Addr} (h : a ∈ O) : hide H O a = none := if_pos h
theorem hide_nil (H : Hp) : hide H [] = H := by
  funext a
  exact hide_out (by simp)
theorem hide_some {H : Hp} {O : List Addr} {a : Addr} {o : HO} (h : hide H O a = some o) : a ∉ O ∧ H a = some o := by
  by_cases q : a ∈ O
  · rw [hide_in q] at h; cases h
  · rw [hide_out q] at h; exact ⟨q, h⟩
theorem hide_same {H H' : Hp} (O : List Addr) (g : Gr H H') : Gr (hide H O) (hide H' O) := fun a o h => by
  obtain ⟨q, e⟩ := hide_some h
  rw [hide_out q]
  exact g a o e
theorem hide_sub {H : Hp} {O : List Addr} : Gr (hide H O) H := fun a o h => (hide_some h).2
theorem hide_less {H : Hp} {O O' : List Addr} (s : ∀ a ∈ O', a ∈ O) : Gr (hide H O) (hide H O') := fun a o h => by
  obtain ⟨q, e⟩ := hide_some h
  rw [hide_out fun z => q (s a z)]
  exact e
theorem Gr.seqT {K : PySem.W.Frag} {H H' : Hp} {a : Addr} {xs : List V} (e : Gr H H') (h : SqT K H a xs) : SqT K H' a xs := by
  rcases h with (h | ⟨o, h⟩) | h
  · exact .inl (.inl (e _ _ h))
  · exact .inl (.inr ⟨o, e _ _ h⟩)
  · exact .inr h
theorem Gr.rd {H H' : Hp} {a : Addr} {u : HO} (e : Gr H H') (h : Rd H a u) : Rd H' a u := by
  rcases h with h | ⟨o, h⟩
  · exact .inl (e _ _ h)
  · exact .inr ⟨o, e _ _ h⟩

/-! ### results -/
/-- an exception: its class's name, its fields -/
structure Exn where
  cls : Str
  fs : List (PyData × PyData)
inductive Rs (α : Type) where
  | ok (a : α)
  | ex (e : Exn)
  | bad
@[inline] def Rs.bind {α β : Type} : Rs α → (α → Rs β) → Rs β
  | .ok a, k => k a
  | .ex e, _ => .ex e
  | .bad, _ => .bad
@[simp] theorem bind_ok {α β : Type} (a : α) (k : α → Rs β) : (Rs.ok a).bind k = k a := Eq.trans rfl rfl
@[simp] theorem bind_ex {α β : Type} (e : Exn) (k : α → Rs β) : (Rs.ex e : Rs α).bind k = .ex e := Eq.trans rfl rfl
@[simp] theorem bind_bad {α β : Type} (k : α → Rs β) : (Rs.bad : Rs α).bind k = .bad := Eq.trans rfl rfl

/-! ### what a value stands for -/
def keyD : Key → PyData
  | .inl i => .int i
  | .inr x => .str x
/-- a caught exception's object is tracked -/
def ExT (a : Addr) (oe : Obj) : HO := .ext fun h => h.get? a = some oe
/-- the class of this name -/
def excAt (K : PySem.W.Frag) (nm : Str) : Option Addr := (K.find? fun p => match p.2.data with | .cls cd => cd.name == nm | _ => false).map (·.1)
mutual
inductive Rp (K : PySem.W.Frag) (H : Hp) : V → PyData → Prop
  | non : Rp K H .non .none
  | bl (b : Bool) : Rp K H (.bl b) (.bool b)
  | int (i : Int) : Rp K H (.int i) (.int i)
  | str (x : Str) : Rp K H (.str x) (.str x)
  | lst {a : Addr} {xs : List V} {ds : List PyData} : Rd H a (.lst xs) → xs.length ≤ mx → RpAll K H xs ds → Rp K H (.ref a) (.list ds)
  /-- the script: an object of whatever place, its ints -/
  | scr {a : Addr} {ns : List Int} : SqL K H a (ns.map V.int) → ns.length ≤ mx → Rp K H (.ref a) (.dict [(.none, .list (ns.map PyData.int))])
  | tup {a : Addr} {xs : List V} {ds : List PyData} : SqT K H a xs → xs.length ≤ mx → RpAll K H xs ds → Rp K H (.ref a) (.tuple ds)
  | dK {a : Addr} {kvs : List (Key × V)} {es : List (PyData × PyData)} : Rd H a (.dK kvs) → RpKV K H (kvs.map fun p => (keyD p.1, p.2)) es → Rp K H (.ref a) (.dict es)
  | dT {a : Addr} {kvs : List (List Key × V)} {es : List (PyData × PyData)} : Rd H a (.dT kvs) → RpKV K H (kvs.map fun p => (.tuple (p.1.map keyD), p.2)) es → Rp K H (.ref a) (.dict es)
  /-- an exception: its class, its fields -/
  | exn {a C d : Addr} {oe : Obj} {nm : Str} {fs : List (Str × V)} {es : List (PyData × PyData)} : H a = some (ExT a oe) → Zc (.ref C) (some d) oe → (∃ vs, oe.data = .fields vs) → excAt K nm = some C → H d = some (.xd fs) → RpFs K H fs es → Rp K H (.ref a) (.dict ((.bool true, .str nm) :: es))
  | exn0 {a C : Addr} {oe : Obj} {nm : Str} : H a = some (ExT a oe) → Zc (.ref C) none oe → (∃ vs, oe.data = .fields vs) → excAt K nm = some C → Rp K H (.ref a) (.dict [(.bool true, .str nm)])
inductive RpFs (K : PySem.W.Frag) (H : Hp) : List (Str × V) → List (PyData × PyData) → Prop
  | nil : RpFs K H [] []
  | cons {f : Str} {v : V} {d : PyData} {vs : List (Str × V)} {ds : List (PyData × PyData)} : Rp K H v d → RpFs K H vs ds → RpFs K H ((f, v) :: vs) ((.str f, d) :: ds)
inductive RpAll (K : PySem.W.Frag) (H : Hp) : List V → List PyData → Prop
  | nil : RpAll K H [] []
  | cons {v : V} {vs : List V} {d : PyData} {ds : List PyData} : Rp K H v d → RpAll K H vs ds → RpAll K H (v :: vs) (d :: ds)
inductive RpKV (K : PySem.W.Frag) (H : Hp) : List (PyData × V) → List (PyData × PyData) → Prop
  | nil : RpKV K H [] []
  | cons {k : PyData} {v : V} {vs : List (PyData × V)} {d : PyData} {ds : List (PyData × PyData)} : Rp K H v d → RpKV K H vs ds → RpKV K H ((k, v) :: vs) ((k, d) :: ds)
end
mutual
theorem Rp.mono {K : PySem.W.Frag} {H H' : Hp} (g : Gr H H') : ∀ {v : V} {d : PyData}, Rp K H v d → Rp K H' v d
  | _, _, .non => .non
  | _, _, .bl b => .bl b
  | _, _, .int i => .int i
  | _, _, .str x => .str x
  | _, _, .lst s l r => .lst (Gr.rd g s) l (RpAll.mono g r)
  | _, _, .scr s l => .scr (g.seq s) l
  | _, _, .tup s l r => .tup (Gr.seqT g s) l (RpAll.mono g r)
  | _, _, .dK s r => .dK (Gr.rd g s) (RpKV.mono g r)
  | _, _, .dT s r => .dT (Gr.rd g s) (RpKV.mono g r)
  | _, _, .exn h z v c d r => .exn (g _ _ h) z v c (g _ _ d) (RpFs.mono g r)
  | _, _, .exn0 h z v c => .exn0 (g _ _ h) z v c
theorem RpFs.mono {K : PySem.W.Frag} {H H' : Hp} (g : Gr H H') : ∀ {v : List (Str × V)} {d : List (PyData × PyData)}, RpFs K H v d → RpFs K H' v d
  | _, _, .nil => .nil
  | _, _, .cons r t => .cons (Rp.mono g r) (RpFs.mono g t)
theorem RpAll.mono {K : PySem.W.Frag} {H H' : Hp} (g : Gr H H') : ∀ {v : List V} {d : List PyData}, RpAll K H v d → RpAll K H' v d
  | _, _, .nil => .nil
  | _, _, .cons r t => .cons (Rp.mono g r) (RpAll.mono g t)
theorem RpKV.mono {K : PySem.W.Frag} {H H' : Hp} (g : Gr H H') : ∀ {v : List (PyData × V)} {d : List (PyData × PyData)}, RpKV K H v d → RpKV K H' v d
  | _, _, .nil => .nil
  | _, _, .cons r t => .cons (Rp.mono g r) (RpKV.mono g t)
end
section
variable {K : PySem.W.Frag} {H : Hp}
theorem RpAll.length : ∀ {xs : List V} {ds : List PyData}, RpAll K H xs ds → xs.length = ds.length
  | _, _, .nil => rfl
  | _, _, .cons _ t => by rw [List.length_cons, List.length_cons, RpAll.length t]
theorem RpAll.get : ∀ {xs : List V} {ds : List PyData} {i : Nat} {d : PyData}, RpAll K H xs ds → ds[i]? = some d → ∃ x, xs[i]? = some x ∧ Rp K H x d
  | _, _, _, _, .nil, e => by simp at e
  | _, _, 0, _, .cons r _, e => by simp at e; subst e; exact ⟨_, rfl, r⟩
  | _, _, i + 1, d, .cons _ t, e => by
    obtain ⟨u, h1, h2⟩ := RpAll.get (i := i) (d := d) t (by simpa using e)
    exact ⟨u, by simpa using h1, h2⟩
theorem RpAll.getV : ∀ {xs : List V} {ds : List PyData} {i : Nat} {x : V}, RpAll K H xs ds → xs[i]? = some x → ∃ d, ds[i]? = some d ∧ Rp K H x d
  | _, _, _, _, .nil, e => by simp at e
  | _, _, 0, _, .cons r _, e => by simp at e; subst e; exact ⟨_, rfl, r⟩
  | _, _, i + 1, d, .cons _ t, e => by
    obtain ⟨u, h1, h2⟩ := RpAll.getV (i := i) (x := d) t (by simpa using e)
    exact ⟨u, by simpa using h1, h2⟩
theorem RpAll.append : ∀ {xs ys : List V} {ds es : List PyData}, RpAll K H xs ds → RpAll K H ys es → RpAll K H (xs ++ ys) (ds ++ es)
  | _, _, _, _, .nil, s => s
  | _, _, _, _, .cons r t, s => .cons r (RpAll.append t s)
theorem RpAll.take : ∀ {xs : List V} {ds : List PyData} (n : Nat), RpAll K H xs ds → RpAll K H (xs.take n) (ds.take n)
  | _, _, 0, _ => .nil
  | _, _, _ + 1, .nil => .nil
  | _, _, n + 1, .cons r t => .cons r (RpAll.take n t)
theorem RpAll.drop : ∀ {xs : List V} {ds : List PyData} (n : Nat), RpAll K H xs ds → RpAll K H (xs.drop n) (ds.drop n)
  | _, _, 0, r => r
  | _, _, _ + 1, .nil => .nil
  | _, _, n + 1, .cons _ t => RpAll.drop n t
theorem RpAll.reverse : ∀ {xs : List V} {ds : List PyData}, RpAll K H xs ds → RpAll K H xs.reverse ds.reverse
  | _, _, .nil => .nil
  | _, _, .cons r t => by
    rw [List.reverse_cons, List.reverse_cons]
    exact (RpAll.reverse t).append (.cons r .nil)
theorem RpAll.set : ∀ {xs : List V} {ds : List PyData} {x : V} {d : PyData} (i : Nat), RpAll K H xs ds → Rp K H x d → RpAll K H (xs.set i x) (ds.set i d)
  | _, _, _, _, _, .nil, _ => .nil
  | _, _, _, _, 0, .cons _ t, r => .cons r t
  | _, _, _, _, i + 1, .cons q t, r => .cons q (RpAll.set i t r)
theorem RpAll.int {xs : List V} : ∀ {ns : List Int}, RpAll K H xs (ns.map PyData.int) → xs = ns.map V.int
  | [], h => by cases h; rfl
  | n :: ns, h => by
    cases h with
    | cons r t =>
      cases r
      rw [RpAll.int t]
      rfl
theorem rpAll_ints : ∀ (ns : List Int), RpAll K H (ns.map V.int) (ns.map PyData.int)
  | [] => .nil
  | n :: ns => .cons (.int n) (rpAll_ints ns)
theorem RpAll.strs {xs : List V} : ∀ {ns : List Str}, RpAll K H xs (ns.map PyData.str) → xs = ns.map V.str
  | [], h => by cases h; rfl
  | n :: ns, h => by
    cases h with
    | cons r t =>
      cases r
      rw [RpAll.strs t]
      rfl
theorem rpAll_strs : ∀ (ns : List Str), RpAll K H (ns.map V.str) (ns.map PyData.str)
  | [] => .nil
  | n :: ns => .cons (.str n) (rpAll_strs ns)
mutual
/-- as the layer's own words for data -/
theorem Rp.dp : ∀ {d : PyData} {v : V}, d.plain = true → Rp K H v d → Dp K H v d
  | .none, _, _, h => by cases h; exact .non
  | .bool _, _, _, h => by cases h; exact .bl _
  | .int _, _, _, h => by cases h; exact .int _
  | .str _, _, _, h => by cases h; exact .str _
  | .list ds, _, p, h => by
    cases h with
    | lst s _ r => exact .lst (.inl s) (RpAll.dp (by simpa [PyData.plain] using p) r)
  | .tuple ds, _, p, h => by
    cases h with
    | tup s _ r => exact .tup s (RpAll.dp (by simpa [PyData.plain] using p) r)
  | .dict _, _, p, _ => by simp [PyData.plain] at p
theorem RpAll.dp : ∀ {ds : List PyData} {vs : List V}, PyData.plainAll ds = true → RpAll K H vs ds → DpAll K H vs ds
  | [], _, _, h => by cases h; exact .nil
  | d :: ds, _, p, h => by
    cases h with
    | cons r t =>
      have p' : d.plain = true ∧ PyData.plainAll ds = true := by simpa [PyData.plainAll] using p
      exact .cons (Rp.dp p'.1 r) (RpAll.dp p'.2 t)
end
end

/-! ### the state of a def: slots -/
/-- a slot holds data, or a list (a dict) that was made here and is held by this name alone -/
inductive SV where
  | val (d : PyData)
  | own (d : PyData)
abbrev En := List (Option SV)
def own1 : Option V → Option SV → Option Addr
  | some (.ref a), some (.own _) => some a
  | _, _ => none
def owned : L2.St → En → List Addr
  | x :: σ, y :: ρ => match own1 x y with
    | some a => a :: owned σ ρ
    | none => owned σ ρ
  | _, _ => []
/-- an object held alone: its items are of G -/
def OwnR (K : PySem.W.Frag) (G H : Hp) (a : Addr) (d : PyData) : Prop :=
  (∃ xs ds, d = .list ds ∧ H a = some (.lst xs) ∧ xs.length ≤ mx ∧ RpAll K G xs ds) ∨
  (∃ (kvs : List (Key × V)) (es : List (PyData × PyData)), d = .dict es ∧ H a = some (.dK kvs) ∧ RpKV K G (kvs.map fun p => (keyD p.1, p.2)) es) ∨
  (∃ (kvs : List (List Key × V)) (es : List (PyData × PyData)), d = .dict es ∧ H a = some (.dT kvs) ∧ RpKV K G (kvs.map fun p => (.tuple (p.1.map keyD), p.2)) es)
def SlotR (K : PySem.W.Frag) (G H : Hp) (x : Option V) (y : Option SV) : Prop := match y with
  | none => True
  | some (.val d) => ∃ v, x = some v ∧ Rp K G v d
  | some (.own d) => ∃ a, x = some (.ref a) ∧ OwnR K G H a d
inductive SlotsR (K : PySem.W.Frag) (G H : Hp) : L2.St → En → Prop
  | nil : SlotsR K G H [] []
  | cons {x : Option V} {y : Option SV} {σ : L2.St} {ρ : En} : SlotR K G H x y → SlotsR K G H σ ρ → SlotsR K G H (x :: σ) (y :: ρ)
structure SR (K : PySem.W.Frag) (O : List Addr) (H0 H : Hp) (σ : L2.St) (ρ : En) : Prop where
  same : Gr H0 H
  new : ∀ a ∈ owned σ ρ, H0 a = none
  nd : (owned σ ρ).Nodup
  old : ∀ a ∈ O, H0 a ≠ none
  slots : SlotsR K (hide H (O ++ owned σ ρ)) H σ ρ

section
variable {K : PySem.W.Frag} {G G' H H' H0 : Hp} {a : Addr} {d : PyData} {σ : L2.St} {ρ : En} {O : List Addr}
theorem OwnR.mono (g : Gr G G') (e : ∀ o, H a = some o → H' a = some o) (h : OwnR K G H a d) : OwnR K G' H' a d := by
  rcases h with ⟨xs, ds, h1, h2, h3, h4⟩ | ⟨xs, ds, h1, h2, h4⟩ | ⟨xs, ds, h1, h2, h4⟩
  · exact .inl ⟨xs, ds, h1, e _ h2, h3, h4.mono g⟩
  · exact .inr (.inl ⟨xs, ds, h1, e _ h2, h4.mono g⟩)
  · exact .inr (.inr ⟨xs, ds, h1, e _ h2, h4.mono g⟩)
theorem OwnR.there (h : OwnR K G H a d) : H a ≠ none := by
  rcases h with ⟨xs, ds, h1, h2, h3⟩ | ⟨xs, ds, h1, h2, h3⟩ | ⟨xs, ds, h1, h2, h3⟩ <;> (rw [h2]; exact fun z => by cases z)
theorem OwnR.rp (h : OwnR K G H a d) (g : Gr G H) : Rp K H (.ref a) d := by
  rcases h with ⟨xs, ds, rfl, h2, h3, h4⟩ | ⟨xs, ds, rfl, h2, h4⟩ | ⟨xs, ds, rfl, h2, h4⟩
  · exact .lst (.inl h2) h3 (h4.mono g)
  · exact .dK (.inl h2) (h4.mono g)
  · exact .dT (.inl h2) (h4.mono g)
theorem SlotsR.mono (g : Gr G G') (e : ∀ a ∈ owned σ ρ, ∀ o, H a = some o → H' a = some o) (h : SlotsR K G H σ ρ) : SlotsR K G' H' σ ρ := by
  induction h with
  | nil => exact .nil
  | @cons x y σ ρ h1 h2 ih =>
    refine .cons ?_ (ih fun a ha => e a ?_)
    · cases y with
      | none => trivial
      | some sv =>
        cases sv with
        | val d => obtain ⟨v, e1, r⟩ := h1; exact ⟨v, e1, r.mono g⟩
        | own d =>
          obtain ⟨a, e1, r⟩ := h1
          subst e1
          exact ⟨a, rfl, r.mono g (e a (by simp [owned, own1]))⟩
    · unfold owned
      split
      · exact List.mem_cons_of_mem _ ha
      · exact ha
theorem SlotsR.len (h : SlotsR K G H σ ρ) : σ.length = ρ.length := by
  induction h with
  | nil => rfl
  | cons _ _ ih => rw [List.length_cons, List.length_cons, ih]
theorem SlotsR.get (h : SlotsR K G H σ ρ) {i : Nat} {y : Option SV} (e : ρ[i]? = some y) : ∃ x, σ[i]? = some x ∧ SlotR K G H x y := by
  induction h generalizing i with
  | nil => simp at e
  | cons h1 h2 ih =>
    cases i with
    | zero =>
      simp at e
      subst e
      exact ⟨_, rfl, h1⟩
    | succ i =>
      obtain ⟨x, e1, r⟩ := ih (i := i) (by simpa using e)
      exact ⟨x, by simpa using e1, r⟩
theorem SlotsR.owned_there (h : SlotsR K G H σ ρ) : ∀ a ∈ owned σ ρ, H a ≠ none := by
  induction h with
  | nil => intro a ha; simp [owned] at ha
  | @cons x y σ ρ h1 h2 ih =>
    intro a ha
    unfold owned at ha
    split at ha
    · rename_i b hb
      rcases List.mem_cons.mp ha with q | q
      · subst q
        unfold own1 at hb
        split at hb
        · cases hb
          obtain ⟨a', e1, r⟩ := h1
          cases e1
          exact r.there
        · cases hb
      · exact ih a q
    · exact ih a ha
theorem SR.there (s : SR K O H0 H σ ρ) : ∀ a ∈ O ++ owned σ ρ, H a ≠ none := fun a ha => by
  rcases List.mem_append.mp ha with h | h
  · intro z
    cases e : H0 a with
    | none => exact s.old a h e
    | some o =>
      rw [s.same a o e] at z
      cases z
  · exact s.slots.owned_there a h
theorem SR.grow (s : SR K O H0 H σ ρ) (g : Gr H H') : SR K O H0 H' σ ρ :=
  ⟨s.same.trans g, s.new, s.nd, s.old, s.slots.mono (hide_same _ g) fun a _ o e => g a o e⟩
theorem SR.fresh (s : SR K O H0 H σ ρ) {p : Addr} (h : H p = none) : p ∉ O ++ owned σ ρ := fun z => s.there p z h
/-- the heap that stands still -/
theorem SR.rebase (s : SR K O H0 H σ ρ) : SR K O (hide H (owned σ ρ)) H σ ρ :=
  ⟨hide_sub, fun a h => hide_in h, s.nd, fun a h => by
    have n : a ∉ owned σ ρ := fun z => s.old a h (s.new a z)
    rw [hide_out n]
    exact s.there a (List.mem_append_left _ h), s.slots⟩
theorem SR.base_sub (s : SR K O H0 H σ ρ) : Gr H0 (hide H (owned σ ρ)) := fun a o e => by
  have n : a ∉ owned σ ρ := fun z => by rw [s.new a z] at e; cases e
  rw [hide_out n]
  exact s.same a o e
theorem SR.weak {H1 : Hp} (s : SR K O H1 H σ ρ) (g : Gr H0 H1) (old : ∀ a ∈ O, H0 a ≠ none) : SR K O H0 H σ ρ := by
  refine ⟨g.trans s.same, fun a h => ?_, s.nd, old, s.slots⟩
  cases e : H0 a with
  | none => rfl
  | some o =>
    have q := g a o e
    rw [s.new a h] at q
    cases q
end
end DL

namespace DL
open PySem PySem.Spec PyProof.Rows L2

/-! ### expressions -/
/-- an exception stands for e -/
def ExR (K : PySem.W.Frag) (mg : Str → Option Value) (G : Hp) (c : Value) (dd : Option Addr) (e : Exn) : Prop :=
  ∃ C, c = .ref C ∧ excAt K e.cls = some C ∧ ((∃ d fs, dd = some d ∧ G d = some (.xd fs) ∧ RpFs K G fs e.fs) ∨ (dd = none ∧ e.fs = []))
theorem ExR.mono {K : PySem.W.Frag} {mg : Str → Option Value} {H H' : Hp} {c : Value} {dd : Option Addr} {e : Exn} (g : Gr H H') (h : ExR K mg H c dd e) : ExR K mg H' c dd e := by
  obtain ⟨C, h1, h2, ⟨d, fs, h3, h4, h5⟩ | h3⟩ := h
  · exact ⟨C, h1, h2, .inl ⟨d, fs, h3, g _ _ h4, h5.mono g⟩⟩
  · exact ⟨C, h1, h2, .inr h3⟩
/-- data, or an object of this def's own -/
def RpB (K : PySem.W.Frag) (O : List Addr) (H : Hp) (v : V) (d : PyData) : Prop := Rp K (hide H O) v d ∨ ∃ a, v = .ref a ∧ OwnR K (hide H O) H a d
def RK (K : PySem.W.Frag) (mg : Str → Option Value) (W : WX) (O : List Addr) (σ : L2.St) (H : Hp) (Q : VK) : Rs PyData → Prop
  | .ok d => ∀ H' v, Gr H H' → Rp K (hide H' O) v d → Q v H'
  | .ex e => ∀ H' c dd, Gr H H' → ExR K mg (hide H' O) c dd e → W c dd σ H'
  | .bad => False
def RKB (K : PySem.W.Frag) (mg : Str → Option Value) (W : WX) (O : List Addr) (σ : L2.St) (H : Hp) (Q : VK) : Rs PyData → Prop
  | .ok d => ∀ H' v, Gr H H' → RpB K O H' v d → Q v H'
  | .ex e => ∀ H' c dd, Gr H H' → ExR K mg (hide H' O) c dd e → W c dd σ H'
  | .bad => False
/-- the same for any kind of result, R telling what stands for it -/
def RKT {α : Type} (K : PySem.W.Frag) (mg : Str → Option Value) (W : WX) (O : List Addr) (σ : L2.St) (H : Hp) (Q : α → Hp → Prop) : Rs α → Prop
  | .ok d => ∀ H', Gr H H' → Q d H'
  | .ex e => ∀ H' c dd, Gr H H' → ExR K mg (hide H' O) c dd e → W c dd σ H'
  | .bad => False
def tD (K : PySem.W.Frag) (mg : Str → Option Value) (W : WX) (f : En → Rs PyData) : TE := fun σ H Q => ∃ ρ O H0, SR K O H0 H σ ρ ∧ RK K mg W (O ++ owned σ ρ) σ H Q (f ρ)
def tB' (K : PySem.W.Frag) (mg : Str → Option Value) (W : WX) (f : En → Rs PyData) : TE := fun σ H Q => ∃ ρ O H0, SR K O H0 H σ ρ ∧ RKB K mg W (O ++ owned σ ρ) σ H Q (f ρ)
/-- a test -/
def tT (K : PySem.W.Frag) (mg : Str → Option Value) (W : WX) (f : En → Rs Bool) : TT := fun σ H Q => ∃ ρ O H0, SR K O H0 H σ ρ ∧ RKT K mg W (O ++ owned σ ρ) σ H Q (f ρ)
/-- e denotes f; in DE the result is data, in BE it may be an object of the def's own -/
abbrev DE (X : Cx) (W : WX) (e : Expr) (f : En → Rs PyData) : Prop := PE X e (tD X.K X.mg W f)
abbrev BE (X : Cx) (W : WX) (e : Expr) (f : En → Rs PyData) : Prop := PE X e (tB' X.K X.mg W f)
abbrev DT (X : Cx) (W : WX) (e : Expr) (f : En → Rs Bool) : Prop := PT X e (tT X.K X.mg W f)

section
variable {K : PySem.W.Frag} {mg : Str → Option Value} {W : WX} {O : List Addr} {σ : L2.St} {H H1 : Hp} {Q Q' : VK}
theorem RK.grow {r : Rs PyData} (g : Gr H H1) (h : RK K mg W O σ H Q r) : RK K mg W O σ H1 Q r := by
  cases r with
  | ok d => exact fun H' v g' => h H' v (g.trans g')
  | ex e => exact fun H' c dd g' => h H' c dd (g.trans g')
  | bad => exact h
theorem RKB.grow {r : Rs PyData} (g : Gr H H1) (h : RKB K mg W O σ H Q r) : RKB K mg W O σ H1 Q r := by
  cases r with
  | ok d => exact fun H' v g' => h H' v (g.trans g')
  | ex e => exact fun H' c dd g' => h H' c dd (g.trans g')
  | bad => exact h
theorem RKT.grow {α : Type} {r : Rs α} {Q : α → Hp → Prop} (g : Gr H H1) (h : RKT K mg W O σ H Q r) : RKT K mg W O σ H1 Q r := by
  cases r with
  | ok d => exact fun H' g' => h H' (g.trans g')
  | ex e => exact fun H' c dd g' => h H' c dd (g.trans g')
  | bad => exact h
theorem RKB.toRK {r : Rs PyData} (h : RKB K mg W O σ H Q r) : RK K mg W O σ H Q r := by
  cases r with
  | ok d => exact fun H' v g rp => h H' v g (.inl rp)
  | ex e => exact h
  | bad => exact h
/-- at once: the result stands here -/
theorem RK.here {v : V} {d : PyData} (h : RK K mg W O σ H Q (.ok d)) (r : Rp K (hide H O) v d) : Q v H := h H v (Gr.refl H) r
theorem RK.new {p : Addr} {o : HO} {d : PyData} (h : RK K mg W O σ H Q (.ok d)) (hp : H p = none) (r : Rp K (hide (upd H p o) O) (.ref p) d) : Q (.ref p) (upd H p o) := h _ _ (same_upd hp) r
/-- a part is run, then the rest -/
theorem RKB.of {r : Rs PyData} {k : PyData → Rs PyData} (h : RK K mg W O σ H Q (r.bind k)) (hk : ∀ d H1 v, Gr H H1 → RpB K O H1 v d → RK K mg W O σ H1 Q (k d) → Q' v H1) : RKB K mg W O σ H Q' r := by
  cases r with
  | ok d => exact fun H' v g rp => hk d H' v g rp (RK.grow g h)
  | ex e => exact h
  | bad => exact h
theorem RK.of {r : Rs PyData} {k : PyData → Rs PyData} (h : RK K mg W O σ H Q (r.bind k)) (hk : ∀ d H1 v, Gr H H1 → Rp K (hide H1 O) v d → RK K mg W O σ H1 Q (k d) → Q' v H1) : RK K mg W O σ H Q' r := by
  cases r with
  | ok d => exact fun H' v g rp => hk d H' v g rp (RK.grow g h)
  | ex e => exact h
  | bad => exact h
theorem RKT.of {α : Type} {r : Rs α} {Q' : α → Hp → Prop} {k : α → Rs PyData} (h : RK K mg W O σ H Q (r.bind k)) (hk : ∀ d H1, Gr H H1 → RK K mg W O σ H1 Q (k d) → Q' d H1) : RKT K mg W O σ H Q' r := by
  cases r with
  | ok d => exact fun H' g => hk d H' g (RK.grow g h)
  | ex e => exact h
  | bad => exact h
theorem RKB.ofT {α : Type} {r : Rs PyData} {Q : α → Hp → Prop} {k : PyData → Rs α} (h : RKT K mg W O σ H Q (r.bind k)) (hk : ∀ d H1 v, Gr H H1 → RpB K O H1 v d → RKT K mg W O σ H1 Q (k d) → Q' v H1) : RKB K mg W O σ H Q' r := by
  cases r with
  | ok d => exact fun H' v g rp => hk d H' v g rp (RKT.grow g h)
  | ex e => exact h
  | bad => exact h
theorem RKT.ofT {α β : Type} {r : Rs α} {Q : β → Hp → Prop} {Q' : α → Hp → Prop} {k : α → Rs β} (h : RKT K mg W O σ H Q (r.bind k)) (hk : ∀ d H1, Gr H H1 → RKT K mg W O σ H1 Q (k d) → Q' d H1) : RKT K mg W O σ H Q' r := by
  cases r with
  | ok d => exact fun H' g => hk d H' g (RKT.grow g h)
  | ex e => exact h
  | bad => exact h
/-- what is borrowed, where nothing is hidden -/
theorem RpB.rp {v : V} {d : PyData} (h : RpB K O H v d) : Rp K H v d := by
  rcases h with h | ⟨a, rfl, h⟩
  · exact h.mono hide_sub
  · exact h.rp hide_sub
theorem RpB.grow {v : V} {d : PyData} (g : Gr H H1) (h : RpB K O H v d) : RpB K O H1 v d := by
  rcases h with h | ⟨a, rfl, h⟩
  · exact .inl (h.mono (hide_same _ g))
  · exact .inr ⟨a, rfl, h.mono (hide_same _ g) fun o e => g a o e⟩
/-- a list that is read -/
theorem RpB.list {v : V} {ds : List PyData} (h : RpB K O H v (.list ds)) : ∃ a xs, v = .ref a ∧ Rd H a (.lst xs) ∧ xs.length ≤ mx ∧ RpAll K (hide H O) xs ds := by
  rcases h with h | ⟨a, rfl, ⟨xs, es, e, h1, h2, h3⟩ | ⟨_, _, e, _⟩ | ⟨_, _, e, _⟩⟩
  · cases h with
    | lst s l r => exact ⟨_, _, rfl, Gr.rd hide_sub s, l, r⟩
  · cases e
    exact ⟨a, xs, rfl, .inl h1, h2, h3⟩
  · cases e
  · cases e
theorem RpB.tuple {v : V} {ds : List PyData} (h : RpB K O H v (.tuple ds)) : ∃ a xs, v = .ref a ∧ SqT K H a xs ∧ xs.length ≤ mx ∧ RpAll K (hide H O) xs ds := by
  rcases h with h | ⟨a, rfl, ⟨xs, es, e, h1, h2, h3⟩ | ⟨_, _, e, _⟩ | ⟨_, _, e, _⟩⟩
  · cases h with
    | tup s l r => exact ⟨_, _, rfl, Gr.seqT hide_sub s, l, r⟩
  · cases e
  · cases e
  · cases e
theorem RpB.scr {v : V} {ns : List PyData} (h : RpB K O H v (.dict [(.none, .list ns)])) : ∃ (a : Addr) (is : List Int), v = .ref a ∧ ns = is.map PyData.int ∧ SqL K H a (is.map V.int) ∧ is.length ≤ mx := by
  rcases h with h | ⟨a, rfl, ⟨xs, es, e, h1, h2, h3⟩ | ⟨kvs, _, e, _, h⟩ | ⟨kvs, _, e, _, h⟩⟩
  · cases h with
    | scr s l => exact ⟨_, _, rfl, rfl, hide_sub.seq s, l⟩
    | @dK a kvs _ s r =>
      cases kvs with
      | nil => cases r
      | cons p kvs =>
        obtain ⟨k, v⟩ := p
        cases k <;> cases r
    | @dT a kvs _ s r =>
      cases kvs with
      | nil => cases r
      | cons p kvs => cases r
  · cases e
  · cases e
    cases kvs with
    | nil => cases h
    | cons p kvs =>
      obtain ⟨k, v⟩ := p
      cases k <;> cases h
  · cases e
    cases kvs with
    | nil => cases h
    | cons p kvs => cases h
theorem RpB.int {v : V} {i : Int} (h : RpB K O H v (.int i)) : v = .int i := by
  rcases h with h | ⟨a, rfl, ⟨xs, es, e, _⟩ | ⟨_, _, e, _⟩ | ⟨_, _, e, _⟩⟩
  · cases h; rfl
  all_goals cases e
theorem RpB.str {v : V} {i : Str} (h : RpB K O H v (.str i)) : v = .str i := by
  rcases h with h | ⟨a, rfl, ⟨xs, es, e, _⟩ | ⟨_, _, e, _⟩ | ⟨_, _, e, _⟩⟩
  · cases h; rfl
  all_goals cases e
theorem RpB.bool {v : V} {i : Bool} (h : RpB K O H v (.bool i)) : v = .bl i := by
  rcases h with h | ⟨a, rfl, ⟨xs, es, e, _⟩ | ⟨_, _, e, _⟩ | ⟨_, _, e, _⟩⟩
  · cases h; rfl
  all_goals cases e
theorem RpB.none {v : V} (h : RpB K O H v .none) : v = .non := by
  rcases h with h | ⟨a, rfl, ⟨xs, es, e, _⟩ | ⟨_, _, e, _⟩ | ⟨_, _, e, _⟩⟩
  · cases h; rfl
  all_goals cases e
end

theorem PE.imp {X : Cx} {e : Expr} {t t' : TE} (h : PE X e t) (i : ∀ σ H Q, t' σ H Q → t σ H Q) : PE X e t' := ⟨fun pins s σ H Q I q => h.run pins s σ H Q I (i σ H Q q)⟩
theorem PT.imp {X : Cx} {e : Expr} {t t' : TT} (h : PT X e t) (i : ∀ σ H Q, t' σ H Q → t σ H Q) : PT X e t' := ⟨fun pins s σ H Q I q => h.run pins s σ H Q I (i σ H Q q)⟩

/-! ### operations on data -/
def mulOk (i j : Int) : Bool := (decide (-18446744073709551616 < i) && decide (i < 18446744073709551616)) || (decide (-18446744073709551616 < j) && decide (j < 18446744073709551616))
def oAdd : PyData → PyData → Rs PyData
  | .int i, .int j => .ok (.int (i + j))
  | .str i, .str j => if i.length + j.length ≤ mx then .ok (.str (i ++ j)) else .bad
  | .tuple i, .tuple j => if i.length + j.length ≤ mx then .ok (.tuple (i ++ j)) else .bad
  | .list i, .list j => if i.length + j.length ≤ mx then .ok (.list (i ++ j)) else .bad
  | _, _ => .bad
def oSub : PyData → PyData → Rs PyData
  | .int i, .int j => .ok (.int (i - j))
  | _, _ => .bad
def oMul : PyData → PyData → Rs PyData
  | .int i, .int j => if mulOk i j then .ok (.int (i * j)) else .bad
  | .list i, .int k => if decide (-4611686018427387904 ≤ k) && decide (k < 4611686018427387904) && decide (i.length * k.toNat ≤ mx) then .ok (.list (List.replicate k.toNat i).flatten) else .bad
  | _, _ => .bad
def oMod : PyData → PyData → Rs PyData
  | .int i, .int j => if 0 < j then .ok (.int (i % j)) else .bad
  | _, _ => .bad
def oDiv : PyData → PyData → Rs PyData
  | .int i, .int j => if 0 < j ∧ j < 1073741824 then .ok (.int (i / j)) else .bad
  | _, _ => .bad
def oPow : PyData → PyData → Rs PyData
  | .int i, .int j => if decide (0 ≤ j) && decide (j ≤ 1000000) && decide (i.natAbs < 18446744073709551616) then .ok (.int (i ^ j.toNat)) else .bad
  | _, _ => .bad
/-- data that may be compared -/
def cmpOk (d e : PyData) : Bool := d.plain && e.plain && decide (min d.depth e.depth ≤ 64)
def oEq (d e : PyData) : Rs PyData := if cmpOk d e then .ok (.bool (PyData.eqv d e)) else .bad
def oNe (d e : PyData) : Rs PyData := if cmpOk d e then .ok (.bool (!PyData.eqv d e)) else .bad
def oLt : PyData → PyData → Rs PyData
  | .int i, .int j => .ok (.bool (decide (i < j)))
  | _, _ => .bad
def oLe : PyData → PyData → Rs PyData
  | .int i, .int j => .ok (.bool (decide (i ≤ j)))
  | _, _ => .bad
def oGt : PyData → PyData → Rs PyData
  | .int i, .int j => .ok (.bool (decide (j < i)))
  | _, _ => .bad
def oGe : PyData → PyData → Rs PyData
  | .int i, .int j => .ok (.bool (decide (j ≤ i)))
  | _, _ => .bad
def oIsN : PyData → Rs PyData
  | .none => .ok (.bool true)
  | _ => .ok (.bool false)
def oNotN : PyData → Rs PyData
  | .none => .ok (.bool false)
  | _ => .ok (.bool true)
def oIx : PyData → PyData → Rs PyData
  | .list xs, .int i => match atI xs i with | some d => .ok d | none => .bad
  | .tuple xs, .int i => match atI xs i with | some d => .ok d | none => .bad
  | .dict [(.none, .list xs)], .int i => match atI xs i with | some d => .ok d | none => .bad
  | .str z, .int i => if z.length ≤ mx then (match atI z.cps.toList i with | some c => .ok (.str ⟨#[c]⟩) | none => .bad) else .bad
  | _, _ => .bad
def oLen : PyData → Rs PyData
  | .list xs => .ok (.int xs.length)
  | .tuple xs => .ok (.int xs.length)
  | .str z => if z.length ≤ mx then .ok (.int z.length) else .bad
  | .dict [(.none, .list xs)] => .ok (.int xs.length)
  | _ => .bad
def oInt : PyData → Rs PyData
  | .int i => .ok (.int i)
  | .bool b => .ok (.int (if b then 1 else 0))
  | _ => .bad
def oStr : PyData → Rs PyData
  | .int i => if i.natAbs.log2 < 1920 then .ok (.str (toString i)) else .bad
  | _ => .bad
def oTuple : PyData → Rs PyData
  | .list xs => .ok (.tuple xs)
  | .tuple xs => .ok (.tuple xs)
  | _ => .bad
def oList : PyData → Rs PyData
  | .list xs => .ok (.list xs)
  | .tuple xs => .ok (.list xs)
  | _ => .bad
def oMin2 : PyData → PyData → Rs PyData
  | .int i, .int j => .ok (.int (if j < i then j else i))
  | _, _ => .bad
def oMax2 : PyData → PyData → Rs PyData
  | .int i, .int j => .ok (.int (if j > i then j else i))
  | _, _ => .bad
/-- the truth of what is tested -/
def oTru : PyData → Rs Bool
  | .bool b => .ok b
  | _ => .bad

/-! ### rules: names, constants -/
section
variable {X : Cx} {W : WX} {a b c : Expr} {fa fb fc : En → Rs PyData} {pos : Pos}
theorem DE.be (h : DE X W a fa) : BE X W a fa := PE.imp h fun σ H Q ⟨ρ, O, H0, s, r⟩ => ⟨ρ, O, H0, s, r.toRK⟩
def dVar (i : Nat) : En → Rs PyData := fun ρ => match ρ[i]? with
  | some (some (.val d)) => .ok d
  | _ => .bad
def bVar (i : Nat) : En → Rs PyData := fun ρ => match ρ[i]? with
  | some (some (.val d)) => .ok d
  | some (some (.own d)) => .ok d
  | _ => .bad
theorem de_var (i : Nat) {x : Str} (hN : X.N[i]? = some x := by rfl) (hv : Vis X.env.scope x := by first | exact Or.inl rfl | exact Or.inr (Or.inl rfl) | exact Or.inr (Or.inr rfl)) (hd : (x == ("__debug__" : Str)) = false := by decide)
    (hcd : (x == ("__classdict__" : Str)) = false := by decide) : DE X W (.Name x pos) (dVar i) :=
  PE.imp (pe_var hN hv hd hcd) fun σ H Q ⟨ρ, O, H0, s, r⟩ => by
    unfold dVar at r
    split at r
    · rename_i d e
      obtain ⟨x, e1, v, e2, rp⟩ := s.slots.get e
      subst e2
      exact ⟨v, e1, r.here rp⟩
    · exact r.elim
theorem be_var (i : Nat) {x : Str} (hN : X.N[i]? = some x := by rfl) (hv : Vis X.env.scope x := by first | exact Or.inl rfl | exact Or.inr (Or.inl rfl) | exact Or.inr (Or.inr rfl)) (hd : (x == ("__debug__" : Str)) = false := by decide)
    (hcd : (x == ("__classdict__" : Str)) = false := by decide) : BE X W (.Name x pos) (bVar i) :=
  PE.imp (pe_var hN hv hd hcd) fun σ H Q ⟨ρ, O, H0, s, r⟩ => by
    unfold bVar at r
    split at r
    · rename_i d e
      obtain ⟨x, e1, v, e2, rp⟩ := s.slots.get e
      subst e2
      exact ⟨v, e1, r H v (Gr.refl H) (.inl rp)⟩
    · rename_i d e
      obtain ⟨x, e1, a, e2, rp⟩ := s.slots.get e
      subst e2
      exact ⟨.ref a, e1, r H (.ref a) (Gr.refl H) (.inr ⟨a, rfl, rp⟩)⟩
    · exact r.elim
def dC (d : PyData) : En → Rs PyData := fun _ => .ok d
theorem de_int {i : Int} {j : Nat} : DE X W (.Constant (.int i) j pos) (dC (.int i)) := PE.imp pe_int fun σ H Q ⟨ρ, O, H0, s, r⟩ => RK.here r (.int i)
theorem de_bl {i : Bool} {j : Nat} : DE X W (.Constant (.bool i) j pos) (dC (.bool i)) := PE.imp pe_bl fun σ H Q ⟨ρ, O, H0, s, r⟩ => RK.here r (.bl i)
theorem de_non {j : Nat} : DE X W (.Constant .none j pos) (dC .none) := PE.imp pe_non fun σ H Q ⟨ρ, O, H0, s, r⟩ => RK.here r .non
theorem de_str {i : Str} {j : Nat} : DE X W (.Constant (.str i) j pos) (dC (.str i)) := PE.imp pe_str fun σ H Q ⟨ρ, O, H0, s, r⟩ => RK.here r (.str i)
/-- a module's constant: an int, a text -/
theorem de_globI {x : Str} {i : Int} {t : Tok} (hg : Gl X x) (hm : X.mg x = some (.int i t)) (hd : (x == ("__debug__" : Str)) = false := by decide) : DE X W (.Name x pos) (dC (.int i)) :=
  PE.imp (pe_glob (v := .int i) hg hm ⟨t, rfl⟩ hd) fun σ H Q ⟨ρ, O, H0, s, r⟩ => RK.here r (.int i)
theorem de_globS {x : Str} {i : Str} {t : Tok} (hg : Gl X x) (hm : X.mg x = some (.str i t)) (hd : (x == ("__debug__" : Str)) = false := by decide) : DE X W (.Name x pos) (dC (.str i)) :=
  PE.imp (pe_glob (v := .str i) hg hm ⟨t, rfl⟩ hd) fun σ H Q ⟨ρ, O, H0, s, r⟩ => RK.here r (.str i)

/-! ### operators -/
def b1 (op : PyData → Rs PyData) (fa : En → Rs PyData) : En → Rs PyData := fun ρ => (fa ρ).bind op
def b2 (op : PyData → PyData → Rs PyData) (fa fb : En → Rs PyData) : En → Rs PyData := fun ρ => (fa ρ).bind fun d => (fb ρ).bind fun e => op d e
/-- an operation by values keeps to op -/
def Ok2 (X : Cx) (r : R2) (op : PyData → PyData → Rs PyData) : Prop := ∀ (W : WX) (O : List Addr) (σ : L2.St) (H : Hp) (Q : VK) (x y : V) (d e : PyData), (∀ a ∈ O, H a ≠ none) → RpB X.K O H x d → RpB X.K O H y e → RK X.K X.mg W O σ H Q (op d e) → r x y H Q
theorem go2 {r : R2} {op : PyData → PyData → Rs PyData} (h : Ok2 X r op) {σ : L2.St} {H : Hp} {Q : VK} (q : tD X.K X.mg W (b2 op fa fb) σ H Q) : tOp r (tB' X.K X.mg W fa) (tB' X.K X.mg W fb) σ H Q := by
  obtain ⟨ρ, O, H0, s, q⟩ := q
  refine ⟨ρ, O, H0, s, RKB.of q fun d H1 v g1 r1 q1 => ⟨ρ, O, H0, s.grow g1, RKB.of q1 fun e H2 u g2 r2 q2 => ?_⟩⟩
  exact h W _ σ H2 Q v u d e ((s.grow g1).grow g2).there (r1.grow g2) r2 q2
theorem de_op {op : Operator} {r : R2} {o : PyData → PyData → Rs PyData} (hr : OpR X (binaryOp op) r) (h : Ok2 X r o) (ha : BE X W a fa) (hb : BE X W b fb) : DE X W (.BinOp a op b pos) (b2 o fa fb) :=
  PE.imp (pe_op hr ha hb) fun _ _ _ q => go2 h q
theorem de_cmp {op : CmpOp} {r : R2} {o : PyData → PyData → Rs PyData} (hr : OpR X (compareOp op) r) (h : Ok2 X r o) (ha : BE X W a fa) (hb : BE X W b fb) (hm : behindInMarks op b = false) : DE X W (.Compare a [op] [b] pos) (b2 o fa fb) :=
  PE.imp (pe_cmpR hr ha hb hm) fun _ _ _ q => go2 h q
/-- a value as a test -/
def tst (f : En → Rs PyData) : En → Rs Bool := fun ρ => (f ρ).bind oTru
theorem tst_ok {f : En → Rs PyData} {σ : L2.St} {H : Hp} {Q : Bool → Hp → Prop} (q : tT X.K X.mg W (tst f) σ H Q) : tD X.K X.mg W f σ H fun x H' => ∃ k, x = .bl k ∧ Q k H' := by
  obtain ⟨ρ, O, H0, s, q⟩ := q
  refine ⟨ρ, O, H0, s, ?_⟩
  unfold tst at q
  cases e : f ρ with
  | ok d =>
    rw [e] at q
    intro H' v g rp
    cases d with
    | bool b =>
      cases rp
      exact ⟨b, rfl, q H' g⟩
    | _ => exact q.elim
  | ex x => rw [e] at q; exact q
  | bad => rw [e] at q; exact q
theorem dt_cmp {op : CmpOp} {r : R2} {o : PyData → PyData → Rs PyData} (hr : OpR X (compareOp op) r) (h : Ok2 X r o) (ha : BE X W a fa) (hb : BE X W b fb) (hm : behindInMarks op b = false) : DT X W (.Compare a [op] [b] pos) (tst (b2 o fa fb)) :=
  PT.imp (pt_cmpR hr ha hb hm) fun _ _ _ q => go2 h (tst_ok q)
theorem dt_val {f : En → Rs PyData} (h : DE X W a f) (he : ∀ whole, isTrue a X.env whole = (do let v ← whole; standAt a.pos; holding [v] (truthy v)) := by intro _; rfl) : DT X W a (tst f) :=
  PT.imp (pt_val h he) fun _ _ _ q => tst_ok q

/-! ### and, or, not; a if t else b -/
def tAndD (f g : En → Rs Bool) : En → Rs Bool := fun ρ => (f ρ).bind fun c => if c then g ρ else .ok false
def tOrD (f g : En → Rs Bool) : En → Rs Bool := fun ρ => (f ρ).bind fun c => if c then .ok true else g ρ
def tNotD (f : En → Rs Bool) : En → Rs Bool := fun ρ => (f ρ).bind fun c => .ok (!c)
abbrev DW (X : Cx) (W : WX) (e : Expr) (f : En → Rs Bool) : Prop := PW X e (tT X.K X.mg W f)
theorem PW.imp {X : Cx} {e : Expr} {t t' : TT} (h : PW X e t) (i : ∀ σ H Q, t' σ H Q → t σ H Q) : PW X e t' := ⟨fun wh pins s σ H Q I q => h.run wh pins s σ H Q I (i σ H Q q)⟩
variable {ga gb : En → Rs Bool} {rest : List Expr}
theorem dw_and1 (ha : DT X W a ga) : DW X W (.BoolOp .And [a] pos) ga := pw_and1 ha
theorem dw_or1 (ha : DT X W a ga) : DW X W (.BoolOp .Or [a] pos) ga := pw_or1 ha
theorem dw_and (ha : DT X W a ga) (hb : DW X W (.BoolOp .And (b :: rest) pos) gb) : DW X W (.BoolOp .And (a :: b :: rest) pos) (tAndD ga gb) :=
  PW.imp (pw_and ha hb) fun σ H Q ⟨ρ, O, H0, s, q⟩ => ⟨ρ, O, H0, s, RKT.ofT q fun c H1 g q1 => by
    cases c with
    | true => exact ⟨ρ, O, H0, s.grow g, q1⟩
    | false => exact q1 H1 (Gr.refl _)⟩
theorem dw_or (ha : DT X W a ga) (hb : DW X W (.BoolOp .Or (b :: rest) pos) gb) : DW X W (.BoolOp .Or (a :: b :: rest) pos) (tOrD ga gb) :=
  PW.imp (pw_or ha hb) fun σ H Q ⟨ρ, O, H0, s, q⟩ => ⟨ρ, O, H0, s, RKT.ofT q fun c H1 g q1 => by
    cases c with
    | true => exact q1 H1 (Gr.refl _)
    | false => exact ⟨ρ, O, H0, s.grow g, q1⟩⟩
theorem dt_w {e : Expr} (h : DW X W e ga) : DT X W e ga := h.pt
theorem dt_not (ha : DT X W a ga) : DT X W (.UnaryOp .Not a pos) (tNotD ga) :=
  PT.imp (pt_not ha) fun σ H Q ⟨ρ, O, H0, s, q⟩ => ⟨ρ, O, H0, s, RKT.ofT q fun c H1 g q1 => q1 H1 (Gr.refl _)⟩
end
end DL

namespace DL
open PySem PySem.Spec PyProof.Rows L2

section
variable {K : PySem.W.Frag} {mg : Str → Option Value} {W : WX} {O : List Addr} {σ : L2.St} {H : Hp} {Q : VK}
theorem RpAll.nil_iff {xs : List V} {ds : List PyData} (h : RpAll K H xs ds) : xs = [] ↔ ds = [] := by
  have e := h.length
  constructor
  · intro z
    rw [z] at e
    exact List.length_eq_zero_iff.mp e.symm
  · intro z
    rw [z] at e
    exact List.length_eq_zero_iff.mp e
theorem RpAll.rangeV (lo : Int) : ∀ n : Nat, RpAll K H ((List.range n).map fun i => V.int (lo + (i : Nat))) ((List.range n).map fun i => PyData.int (lo + (i : Nat)))
  | 0 => .nil
  | n + 1 => by
    rw [List.range_succ, List.map_append, List.map_append]
    exact (RpAll.rangeV lo n).append (.cons (.int _) .nil)
theorem RpB.tupleRp {v : V} {ds : List PyData} (h : RpB K O H v (.tuple ds)) : Rp K (hide H O) v (.tuple ds) := by
  rcases h with h | ⟨a, rfl, ⟨xs, es, e, _⟩ | ⟨_, _, e, _⟩ | ⟨_, _, e, _⟩⟩
  · exact h
  all_goals cases e
theorem RK.newT {ds : List PyData} {xs : List V} {p : Addr} (h : RK K mg W O σ H Q (.ok (.tuple ds))) (th : ∀ a ∈ O, H a ≠ none) (hp : H p = none) (hl : xs.length ≤ mx) (r : RpAll K (hide H O) xs ds) : Q (.ref p) (upd H p (.tup xs)) := by
  have np : p ∉ O := fun z => th p z hp
  refine h.new hp (.tup (.inl (.inl ?_)) hl (r.mono (hide_same _ (same_upd hp))))
  rw [hide_out np, upd_same]
theorem RK.newL {ds : List PyData} {xs : List V} {p : Addr} (h : RK K mg W O σ H Q (.ok (.list ds))) (th : ∀ a ∈ O, H a ≠ none) (hp : H p = none) (hl : xs.length ≤ mx) (r : RpAll K (hide H O) xs ds) : Q (.ref p) (upd H p (.lst xs)) := by
  have np : p ∉ O := fun z => th p z hp
  refine h.new hp (.lst (.inl ?_) hl (r.mono (hide_same _ (same_upd hp))))
  rw [hide_out np, upd_same]
end

section
variable {X : Cx} {W : WX} {a b c : Expr} {fa fb fc : En → Rs PyData} {pos : Pos}
/-! ### + - * % // ** -/
/-- lists that may be locked -/
def rCatR : R2 := fun x y H Q => ∃ l b xs zs, x = .ref l ∧ y = .ref b ∧ Rd H l (.lst xs) ∧ Rd H b (.lst zs) ∧ xs.length + zs.length ≤ sizeLine ∧ ∀ p, H p = none → Q (.ref p) (upd H p (.lst (xs ++ zs)))
theorem lst_rd {pins : List (Addr × Obj)} {σ : L2.St} {H : Hp} {s : Shared} {l : Addr} {xs : List V} (I : Inv X pins σ H s) (h : Rd H l (.lst xs)) : xs.length ≤ sizeLine ∧ ∃ (its : List Value) (n : Nat), Vals xs its ∧ xs.length = its.length ∧ s.heap.get? l = some { cls := .type "list", data := .seq its.toArray n } := by
  obtain ⟨z, its, n, r, e⟩ := h.ok I.hok
  exact ⟨z, its, n, r, r.length, e⟩
theorem op_catR : OpR X (binaryOp .Add) rCatR := by
  intro pins s σ H x y v u Q I rx ry h
  obtain ⟨l, b, xs, zs, rfl, rfl, hH, hB, hz, q⟩ := h
  cases rx
  cases ry
  obtain ⟨z, its, n, r, hl, e⟩ := lst_rd I hH
  obtain ⟨z2, its2, n2, r2, hl2, e2⟩ := lst_rd I hB
  refine PySem.P.add_list e e2 ?_ (by rw [List.size_toArray, List.size_toArray]; omega)
  have ea : its.toArray ++ its2.toArray = (its ++ its2).toArray := by simp
  rw [ea]
  exact ⟨.ref _, _, I.lnew (t' := s.toks) (r.append r2) (by rw [List.length_append]; omega), rfl, q _ I.fresh⟩
def rAddD (K : PySem.W.Frag) : R2 := fun x y H Q => (rI0 fun i j => .int (i + j)) x y H Q ∨ (∃ i j, x = .str i ∧ y = .str j ∧ i.length + j.length ≤ sizeLine ∧ Q (.str (i ++ j)) H) ∨ rCatA K x y H Q ∨ rCatR x y H Q
theorem op_addD : OpR X (binaryOp .Add) (rAddD X.K) := op_add.or (op_add_str.or (op_catA.or op_catR))
theorem ok_add : Ok2 X (rAddD X.K) oAdd := by
  intro W O σ H Q x y d e th rx ry q
  unfold oAdd at q
  split at q
  · cases rx.int
    cases ry.int
    exact .inl ⟨_, _, rfl, rfl, q.here (.int _)⟩
  · rename_i i j
    cases rx.str
    cases ry.str
    split at q
    · rename_i hz
      exact .inr (.inl ⟨_, _, rfl, rfl, by rw [← mx_line]; exact hz, q.here (.str _)⟩)
    · exact q.elim
  · rename_i i j
    have tX := rx.tupleRp
    have tY := ry.tupleRp
    obtain ⟨p, xs, rfl, hx, lx, rX⟩ := rx.tuple
    obtain ⟨p', ys, rfl, hy, ly, rY⟩ := ry.tuple
    split at q
    · rename_i hz
      have hz' : xs.length + ys.length ≤ mx := by rw [rX.length, rY.length]; exact hz
      refine .inr (.inr (.inl ⟨p, p', xs, ys, rfl, rfl, hx, hy, by rw [← mx_line]; exact hz', fun e => ?_, fun h1 h2 => ?_, fun h1 h2 u hu => ?_⟩))
      · have e' := rX.nil_iff.mp e
        subst e'
        exact q.here tY
      · have e' := rY.nil_iff.mp h2
        subst e'
        rw [List.append_nil] at q
        exact q.here tX
      · exact q.newT th hu (by rw [List.length_append]; exact hz') (rX.append rY)
    · exact q.elim
  · rename_i i j
    obtain ⟨p, xs, rfl, hx, lx, rX⟩ := rx.list
    obtain ⟨p', ys, rfl, hy, ly, rY⟩ := ry.list
    split at q
    · rename_i hz
      have hz' : xs.length + ys.length ≤ mx := by rw [rX.length, rY.length]; exact hz
      exact .inr (.inr (.inr ⟨p, p', xs, ys, rfl, rfl, hx, hy, by rw [← mx_line]; exact hz', fun u hu => q.newL th hu (by rw [List.length_append]; exact hz') (rX.append rY)⟩))
    · exact q.elim
  · exact q.elim
theorem ok_sub : Ok2 X (rI0 fun i j => .int (i - j)) oSub := by
  intro W O σ H Q x y d e th rx ry q
  unfold oSub at q
  split at q
  · cases rx.int
    cases ry.int
    exact ⟨_, _, rfl, rfl, q.here (.int _)⟩
  · exact q.elim
theorem RpAll.rep {K : PySem.W.Frag} {H : Hp} {xs : List V} {ds : List PyData} (h : RpAll K H xs ds) : ∀ n : Nat, RpAll K H (List.replicate n xs).flatten (List.replicate n ds).flatten
  | 0 => .nil
  | n + 1 => by
    rw [List.replicate_succ, List.replicate_succ, List.flatten_cons, List.flatten_cons]
    exact h.append (RpAll.rep h n)
/-- a list that may be locked, times an int -/
def rRepR : R2 := fun x y H Q => ∃ l k xs, x = .ref l ∧ y = .int k ∧ Rd H l (.lst xs) ∧ -(2 ^ 63) ≤ k ∧ k < 2 ^ 63 ∧ xs.length * k.toNat ≤ sizeLine ∧
  ∀ p, H p = none → Q (.ref p) (upd H p (.lst (List.replicate k.toNat xs).flatten))
theorem op_repR : OpR X (binaryOp .Mult) rRepR := by
  intro pins s σ H x y v u Q I rx ry h
  obtain ⟨l, k, xs, rfl, rfl, hH, h1, h2, hz, q⟩ := h
  cases rx
  obtain ⟨t, rfl⟩ := ry
  obtain ⟨z, its, n, r, hl, e⟩ := lst_rd I hH
  have hlen : its.toArray.size * k.toNat ≤ sizeLine := by rw [List.size_toArray, ← hl]; exact hz
  have hcap : ¬ its.toArray.size * k.toNat > (2 ^ 63 - 1) / 8 := by
    have : (sizeLine : Nat) ≤ (2 ^ 63 - 1) / 8 := by decide
    omega
  have hfit : ¬ (!Builtin.List.listFitsIndex k) = true := by
    rw [fitsIndex_both h1 h2]
    exact Bool.false_ne_true
  have hlong : ¬ Builtin.List.listTooLong (its.toArray.size * k.toNat) = true := by
    rw [notLongL hlen]
    exact Bool.false_ne_true
  have hnew : List.foldl (fun x1 x2 => x1 ++ x2) #[] (List.replicate (if its.toArray.isEmpty = true then 0 else k.toNat) its.toArray) = (List.replicate k.toNat its).flatten.toArray := by
    have f0 : ∀ m : Nat, List.foldl (fun x1 x2 => x1 ++ x2) #[] (List.replicate m its.toArray) = (List.replicate m its).flatten.toArray := fun m => by
      have := foldl_rep its m []
      rw [List.nil_append] at this
      exact this
    rw [f0]
    cases its with
    | nil => simp
    | cons a r' => rw [if_neg (by simp)]
  refine wpAny_binaryOp_repeat_ref (T := "list") (U := "int") (by decide) ⟨_, e, rfl⟩ (fun s' => typeIs_int s' k t) noFill_list_mul F.fills_int_mul F.slot_int_rmul repeat_list F.slot_int_index.lookup
    (call_meets F.slot_int_rmul (typeIs_int s k t) F.entry_int_rmul (F.args_int_rmul_2 _ _) (int___rmul___int_list k t l its.toArray n)
      ⟨e, rfl, ⟨_, e, rfl⟩, call_meets F.slot_list_mul ⟨_, e, rfl⟩ F.entry_list_mul (F.args_list_mul_2 _ _) (AutoListH.list___mul___list_int_3 l its.toArray n k t hfit hcap hlong) ⟨e, ?_⟩⟩)
  rw [hnew]
  exact ⟨.ref _, _, I.lnew (t' := s.toks) (r.rep k.toNat) (by rw [PyProof.Rows.lm_len_rep_flat, Nat.mul_comm]; exact hz), rfl, q _ I.fresh⟩
def rMulD : R2 := fun x y H Q => (rI CMul fun i j => .int (i * j)) x y H Q ∨ rRepR x y H Q
theorem op_mulD : OpR X (binaryOp .Mult) rMulD := op_mul.or op_repR
theorem ok_mul : Ok2 X rMulD oMul := by
  intro W O σ H Q x y d e th rx ry q
  unfold oMul at q
  split at q
  · rename_i i j
    cases rx.int
    cases ry.int
    split at q
    · rename_i hc
      refine .inl ⟨_, _, rfl, rfl, ?_, q.here (.int _)⟩
      unfold mulOk at hc
      simp only [Bool.or_eq_true, Bool.and_eq_true, decide_eq_true_eq] at hc
      exact hc
    · exact q.elim
  · rename_i i k
    cases ry.int
    obtain ⟨p, xs, rfl, hx, lx, rX⟩ := rx.list
    split at q
    · rename_i hc
      simp only [Bool.and_eq_true, decide_eq_true_eq] at hc
      obtain ⟨⟨h1, h2⟩, h3⟩ := hc
      refine .inr ⟨p, k, xs, rfl, rfl, hx, by omega, by omega, by rw [← mx_line, rX.length]; exact h3, fun u hu => q.newL th hu ?_ (rX.rep _)⟩
      rw [PyProof.Rows.lm_len_rep_flat, Nat.mul_comm, rX.length]
      exact h3
    · exact q.elim
  · exact q.elim
theorem ok_mod : Ok2 X (rI (fun _ j => 0 < j) fun i j => .int (i % j)) oMod := by
  intro W O σ H Q x y d e th rx ry q
  unfold oMod at q
  split at q
  · cases rx.int
    cases ry.int
    split at q
    · rename_i h
      exact ⟨_, _, rfl, rfl, h, q.here (.int _)⟩
    · exact q.elim
  · exact q.elim
theorem ok_div : Ok2 X (rI CDiv fun i j => .int (i / j)) oDiv := by
  intro W O σ H Q x y d e th rx ry q
  unfold oDiv at q
  split at q
  · cases rx.int
    cases ry.int
    split at q
    · rename_i h
      exact ⟨_, _, rfl, rfl, h, q.here (.int _)⟩
    · exact q.elim
  · exact q.elim
theorem ok_pow : Ok2 X (rI CPow fun i j => .int (i ^ j.toNat)) oPow := by
  intro W O σ H Q x y d e th rx ry q
  unfold oPow at q
  split at q
  · cases rx.int
    cases ry.int
    split at q
    · rename_i h
      simp only [Bool.and_eq_true, decide_eq_true_eq] at h
      exact ⟨_, _, rfl, rfl, ⟨h.1.1, h.1.2, h.2⟩, q.here (.int _)⟩
    · exact q.elim
  · exact q.elim

/-! ### comparisons -/
theorem RpB.dp {K : PySem.W.Frag} {O : List Addr} {H : Hp} {v : V} {d : PyData} (h : RpB K O H v d) (p : d.plain = true) : Dp K H v d := h.rp.dp p
def rEqP (A : Around) (K : PySem.W.Frag) (neg : Bool) : R2 := fun x y H Q => ∃ d e, Dp K H x d ∧ Dp K H y e ∧ d.plain = true ∧ e.plain = true ∧ min d.depth e.depth ≤ 64 ∧ Q (.bl (if neg then !PyData.eqv d e else PyData.eqv d e)) H
theorem op_eqP (hu : X.A.units + 64 < cLine) : OpR X (compareOp .Eq) (rEqP X.A X.K false) := by
  intro pins s σ H x y v u Q I rx ry h
  obtain ⟨d, e, hd, he, sd, se, hm, q⟩ := h
  obtain ⟨as, r1⟩ := Dp.reads I d x v hd rx
  obtain ⟨bs, r2⟩ := Dp.reads I e y u he ry
  exact SeqAt.eq_plain r1 r2 sd se (by omega) ⟨.bl _, H, I, rfl, q⟩
theorem op_neP (hu : X.A.units + 64 < cLine) : OpR X (compareOp .NotEq) (rEqP X.A X.K true) := by
  intro pins s σ H x y v u Q I rx ry h
  obtain ⟨d, e, hd, he, sd, se, hm, q⟩ := h
  obtain ⟨as, r1⟩ := Dp.reads I d x v hd rx
  obtain ⟨bs, r2⟩ := Dp.reads I e y u he ry
  exact SeqAt.ne_plain r1 r2 sd se (by omega) ⟨.bl _, H, I, rfl, q⟩
theorem cmpOk_of {d e : PyData} (h : cmpOk d e = true) : d.plain = true ∧ e.plain = true ∧ min d.depth e.depth ≤ 64 := by
  unfold cmpOk at h
  simp only [Bool.and_eq_true, decide_eq_true_eq] at h
  exact ⟨h.1.1, h.1.2, h.2⟩
theorem ok_eq : Ok2 X (rEqP X.A X.K false) oEq := by
  intro W O σ H Q x y d e th rx ry q
  unfold oEq at q
  split at q
  · rename_i h
    obtain ⟨h1, h2, h3⟩ := cmpOk_of h
    exact ⟨d, e, rx.dp h1, ry.dp h2, h1, h2, h3, q.here (.bl _)⟩
  · exact q.elim
theorem ok_ne : Ok2 X (rEqP X.A X.K true) oNe := by
  intro W O σ H Q x y d e th rx ry q
  unfold oNe at q
  split at q
  · rename_i h
    obtain ⟨h1, h2, h3⟩ := cmpOk_of h
    exact ⟨d, e, rx.dp h1, ry.dp h2, h1, h2, h3, q.here (.bl _)⟩
  · exact q.elim
theorem ok_lt : Ok2 X (rI0 fun i j => .bl (decide (i < j))) oLt := by
  intro W O σ H Q x y d e th rx ry q
  unfold oLt at q
  split at q
  · cases rx.int
    cases ry.int
    exact ⟨_, _, rfl, rfl, q.here (.bl _)⟩
  · exact q.elim
theorem ok_le : Ok2 X (rI0 fun i j => .bl (decide (i ≤ j))) oLe := by
  intro W O σ H Q x y d e th rx ry q
  unfold oLe at q
  split at q
  · cases rx.int
    cases ry.int
    exact ⟨_, _, rfl, rfl, q.here (.bl _)⟩
  · exact q.elim
theorem ok_gt : Ok2 X (rI0 fun i j => .bl (decide (j < i))) oGt := by
  intro W O σ H Q x y d e th rx ry q
  unfold oGt at q
  split at q
  · cases rx.int
    cases ry.int
    exact ⟨_, _, rfl, rfl, q.here (.bl _)⟩
  · exact q.elim
theorem ok_ge : Ok2 X (rI0 fun i j => .bl (decide (j ≤ i))) oGe := by
  intro W O σ H Q x y d e th rx ry q
  unfold oGe at q
  split at q
  · cases rx.int
    cases ry.int
    exact ⟨_, _, rfl, rfl, q.here (.bl _)⟩
  · exact q.elim
/-- is None: the right side None -/
def oIs : PyData → PyData → Rs PyData
  | d, .none => oIsN d
  | _, _ => .bad
def oIsNot : PyData → PyData → Rs PyData
  | d, .none => oNotN d
  | _, _ => .bad
theorem RpB.isNon {K : PySem.W.Frag} {O : List Addr} {H : Hp} {v : V} {d : PyData} (h : RpB K O H v d) : (d = .none ∧ v = .non) ∨ (d ≠ .none ∧ v ≠ .non) := by
  rcases h with h | ⟨a, rfl, ⟨xs, es, e, _⟩ | ⟨_, _, e, _⟩ | ⟨_, _, e, _⟩⟩
  · cases h with
    | non => exact .inl ⟨rfl, rfl⟩
    | _ => exact .inr ⟨(fun z => by cases z), (fun z => by cases z)⟩
  all_goals exact .inr ⟨(fun z => by rw [e] at z; cases z), (fun z => by cases z)⟩
theorem oIsN_of {d : PyData} (h : d ≠ .none) : oIsN d = .ok (.bool false) := by
  cases d <;> first | rfl | exact absurd rfl h
theorem oNotN_of {d : PyData} (h : d ≠ .none) : oNotN d = .ok (.bool true) := by
  cases d <;> first | rfl | exact absurd rfl h
theorem ok_is : Ok2 X (fun x y H Q => y = .non ∧ Q (.bl (decide (x = .non))) H) oIs := by
  intro W O σ H Q x y d e th rx ry q
  unfold oIs at q
  split at q
  · refine ⟨ry.none, ?_⟩
    rcases rx.isNon with ⟨rfl, rfl⟩ | ⟨h1, h2⟩
    · exact q.here (.bl _)
    · rw [oIsN_of h1] at q
      rw [decide_eq_false h2]
      exact q.here (.bl _)
  · exact q.elim
theorem ok_isnot : Ok2 X (fun x y H Q => y = .non ∧ Q (.bl (!decide (x = .non))) H) oIsNot := by
  intro W O σ H Q x y d e th rx ry q
  unfold oIsNot at q
  split at q
  · refine ⟨ry.none, ?_⟩
    rcases rx.isNon with ⟨rfl, rfl⟩ | ⟨h1, h2⟩
    · exact q.here (.bl _)
    · rw [oNotN_of h1] at q
      rw [decide_eq_false h2]
      exact q.here (.bl _)
  · exact q.elim

/-! ### a[i], len, int, str, tuple, list, min, max -/
theorem RpAll.atI {K : PySem.W.Frag} {H : Hp} {xs : List V} {ds : List PyData} {i : Int} {d : PyData} (h : RpAll K H xs ds) (e : atI ds i = some d) : ∃ x, L2.atI xs i = some x ∧ Rp K H x d := by
  unfold L2.atI at e ⊢
  rw [h.length]
  cases q : ixN ds.length i with
  | none => rw [q] at e; cases e
  | some j =>
    rw [q] at e
    exact h.get e
theorem ok_ix : Ok2 X (rIx X.K) oIx := by
  intro W O σ H Q x y d e th rx ry q
  unfold oIx at q
  split at q
  · cases ry.int
    obtain ⟨p, xs, rfl, hx, lx, rX⟩ := rx.list
    split at q
    · rename_i z
      obtain ⟨v, e1, r1⟩ := rX.atI z
      exact .inl ⟨p, xs, _, v, rfl, rfl, .inl hx, e1, q.here r1⟩
    · exact q.elim
  · cases ry.int
    obtain ⟨p, xs, rfl, hx, lx, rX⟩ := rx.tuple
    split at q
    · rename_i z
      obtain ⟨v, e1, r1⟩ := rX.atI z
      exact .inr (.inl ⟨p, xs, _, v, rfl, rfl, hx, e1, q.here r1⟩)
    · exact q.elim
  · cases ry.int
    obtain ⟨p, is, rfl, rfl, hx, lx⟩ := rx.scr
    split at q
    · rename_i z
      obtain ⟨v, e1, r1⟩ := (rpAll_ints (K := X.K) (H := hide H O) is).atI z
      exact .inl ⟨p, _, _, v, rfl, rfl, hx, e1, q.here r1⟩
    · exact q.elim
  · cases ry.int
    cases rx.str
    split at q
    · rename_i hz
      split at q
      · rename_i z
        exact .inr (.inr ⟨_, _, _, rfl, rfl, by rw [← mx_line]; exact hz, z, q.here (.str _)⟩)
      · exact q.elim
    · exact q.elim
  · exact q.elim
theorem de_ix (ha : BE X W a fa) (hb : BE X W b fb) (hs : PlainIx b := by exact fun _ _ => rfl) : DE X W (.Subscript a b pos) (b2 oIx fa fb) :=
  PE.imp (pe_ix ix_seq ha hb hs) fun _ _ _ q => go2 ok_ix q
/-- a call of a builtin with one argument -/
def Ok1 (X : Cx) (r : List V → Hp → VK → Prop) (op : PyData → Rs PyData) : Prop := ∀ (W : WX) (O : List Addr) (σ : L2.St) (H : Hp) (Q : VK) (x : V) (d : PyData), (∀ a ∈ O, H a ≠ none) → RpB X.K O H x d → RK X.K X.mg W O σ H Q (op d) → r [x] H Q
theorem go1 {r : List V → Hp → VK → Prop} {op : PyData → Rs PyData} (h : Ok1 X r op) {σ : L2.St} {H : Hp} {Q : VK} (q : tD X.K X.mg W (b1 op fa) σ H Q) : tCB r (tCons (tB' X.K X.mg W fa) tNil) σ H Q := by
  obtain ⟨ρ, O, H0, s, q⟩ := q
  exact ⟨ρ, O, H0, s, RKB.of q fun d H1 v g1 r1 q1 => h W _ σ H1 Q v d (s.grow g1).there r1 q1⟩
def Ok1b (X : Cx) (r : List V → Hp → VK → Prop) (op : PyData → PyData → Rs PyData) : Prop := ∀ (W : WX) (O : List Addr) (σ : L2.St) (H : Hp) (Q : VK) (x y : V) (d e : PyData), (∀ a ∈ O, H a ≠ none) → RpB X.K O H x d → RpB X.K O H y e → RK X.K X.mg W O σ H Q (op d e) → r [x, y] H Q
theorem go1b {r : List V → Hp → VK → Prop} {op : PyData → PyData → Rs PyData} (h : Ok1b X r op) {σ : L2.St} {H : Hp} {Q : VK} (q : tD X.K X.mg W (b2 op fa fb) σ H Q) : tCB r (tCons (tB' X.K X.mg W fa) (tCons (tB' X.K X.mg W fb) tNil)) σ H Q := by
  obtain ⟨ρ, O, H0, s, q⟩ := q
  refine ⟨ρ, O, H0, s, RKB.of q fun d H1 v g1 r1 q1 => ⟨ρ, O, H0, s.grow g1, RKB.of q1 fun e H2 u g2 r2 q2 => ?_⟩⟩
  exact h W _ σ H2 Q v u d e ((s.grow g1).grow g2).there (r1.grow g2) r2 q2
variable {x : Str} {p : Pos}
theorem de_call1 {id : String} {r : List V → Hp → VK → Prop} {op : PyData → Rs PyData} (hc : CallR X (.builtin id) r) (h : Ok1 X r op) (ha : BE X W a fa) (hm : X.mg x = none) (hv : bootBuiltins x = some (.builtin id)) (hg : Gl X x := by rfl) (hn : x ≠ "__name__" := by decide) (hdb : (x == ("__debug__" : Str)) = false := by decide)
    (he : starEach (a :: []) X.env = (false, eval a X.env) :: starEach [] X.env := by rfl) (hpl : (backTo pos (starEach [] X.env)).any (·.1) = false := by rfl) : DE X W (.Call (.Name x p) [a] [] pos) (b1 op fa) :=
  PE.imp (pe_callB hc hg hm hv (pa_cons ha pa_nil he) hn hdb he hpl) fun _ _ _ q => go1 h q
theorem de_callT1 {id : String} {r : List V → Hp → VK → Prop} {op : PyData → Rs PyData} (hc : CallR X (.type id) r) (h : Ok1 X r op) (ha : BE X W a fa) (hm : X.mg x = none) (hv : bootBuiltins x = some (.type id)) (hg : Gl X x := by rfl) (hn : x ≠ "__name__" := by decide) (hdb : (x == ("__debug__" : Str)) = false := by decide)
    (he : starEach (a :: []) X.env = (false, eval a X.env) :: starEach [] X.env := by rfl) (hpl : (backTo pos (starEach [] X.env)).any (·.1) = false := by rfl) : DE X W (.Call (.Name x p) [a] [] pos) (b1 op fa) :=
  PE.imp (pe_callTy hc hg hm hv (pa_cons ha pa_nil he) hn hdb he hpl) fun _ _ _ q => go1 h q
theorem de_call2 {id : String} {r : List V → Hp → VK → Prop} {op : PyData → PyData → Rs PyData} (hc : CallR X (.builtin id) r) (h : Ok1b X r op) (ha : BE X W a fa) (hb : BE X W b fb) (hm : X.mg x = none) (hv : bootBuiltins x = some (.builtin id)) (hg : Gl X x := by rfl) (hn : x ≠ "__name__" := by decide) (hdb : (x == ("__debug__" : Str)) = false := by decide)
    (he : starEach (a :: [b]) X.env = (false, eval a X.env) :: starEach [b] X.env := by rfl) (he2 : starEach (b :: []) X.env = (false, eval b X.env) :: starEach [] X.env := by rfl) (hpl : (backTo pos (starEach [b] X.env)).any (·.1) = false := by rfl) : DE X W (.Call (.Name x p) [a, b] [] pos) (b2 op fa fb) :=
  PE.imp (pe_callB hc hg hm hv (pa_cons ha (pa_cons hb pa_nil he2) he) hn hdb he hpl) fun _ _ _ q => go1b h q
end
end DL

namespace DL
open PySem PySem.Spec PyProof.Rows L2

section
variable {X : Cx} {W : WX} {a b c : Expr} {fa fb fc : En → Rs PyData} {pos : Pos}
/-! ### builtins -/
theorem ok_len : Ok1 X (fun xs H Q => ∃ x n, xs = [x] ∧ LenV X.K x H n ∧ Q (.int n) H) oLen := by
  intro W O σ H Q x d th rx q
  unfold oLen at q
  split at q
  · obtain ⟨p, xs, rfl, hx, lx, rX⟩ := rx.list
    exact ⟨_, _, rfl, .inl ⟨xs, .inl hx, rX.length.symm⟩, q.here (.int _)⟩
  · obtain ⟨p, xs, rfl, hx, lx, rX⟩ := rx.tuple
    exact ⟨_, _, rfl, .inr ⟨xs, hx, rX.length.symm⟩, q.here (.int _)⟩
  · cases rx.str
    split at q
    · rename_i hz
      exact ⟨_, _, rfl, ⟨by rw [← mx_line]; exact hz, rfl⟩, q.here (.int _)⟩
    · exact q.elim
  · obtain ⟨p, is, rfl, rfl, hx, lx⟩ := rx.scr
    exact ⟨_, _, rfl, .inl ⟨_, hx, by rw [List.length_map, List.length_map]⟩, q.here (.int _)⟩
  · exact q.elim
theorem ok_int : Ok1 X (fun xs H Q => (∃ i, xs = [.int i] ∧ Q (.int i) H) ∨ ∃ k, xs = [.bl k] ∧ Q (.int (if k then 1 else 0)) H) oInt := by
  intro W O σ H Q x d th rx q
  unfold oInt at q
  split at q
  · cases rx.int
    exact .inl ⟨_, rfl, q.here (.int _)⟩
  · cases rx.bool
    exact .inr ⟨_, rfl, q.here (.int _)⟩
  · exact q.elim
theorem ok_str : Ok1 X (fun xs H Q => ∃ i, xs = [.int i] ∧ i.natAbs.log2 < 1920 ∧ Q (.str (toString i)) H) oStr := by
  intro W O σ H Q x d th rx q
  unfold oStr at q
  split at q
  · cases rx.int
    split at q
    · rename_i h
      exact ⟨_, rfl, h, q.here (.str _)⟩
    · exact q.elim
  · exact q.elim
theorem ok_tuple : Ok1 X (fun xs H Q => ∃ p ys, xs = [.ref p] ∧ ((SqL X.K H p ys ∧ ∀ l, H l = none → Q (.ref l) (upd H l (.tup ys))) ∨ (SqT X.K H p ys ∧ Q (.ref p) H))) oTuple := by
  intro W O σ H Q x d th rx q
  unfold oTuple at q
  split at q
  · obtain ⟨p, xs, rfl, hx, lx, rX⟩ := rx.list
    exact ⟨p, xs, rfl, .inl ⟨.inl hx, fun l hl => q.newT th hl lx rX⟩⟩
  · have r := rx.tupleRp
    obtain ⟨p, xs, rfl, hx, lx, rX⟩ := rx.tuple
    exact ⟨p, xs, rfl, .inr ⟨hx, q.here r⟩⟩
  · exact q.elim
theorem ok_list : Ok1 X (fun xs H Q => ∃ p ys, xs = [.ref p] ∧ (SqL X.K H p ys ∨ SqT X.K H p ys) ∧ ∀ l, H l = none → Q (.ref l) (upd H l (.lst ys))) oList := by
  intro W O σ H Q x d th rx q
  unfold oList at q
  split at q
  · obtain ⟨p, xs, rfl, hx, lx, rX⟩ := rx.list
    exact ⟨p, xs, rfl, .inl (.inl hx), fun l hl => q.newL th hl lx rX⟩
  · obtain ⟨p, xs, rfl, hx, lx, rX⟩ := rx.tuple
    exact ⟨p, xs, rfl, .inr hx, fun l hl => q.newL th hl lx rX⟩
  · exact q.elim
theorem ok_min2 : Ok1b X (fun xs H Q => ∃ i j, xs = [.int i, .int j] ∧ Q (.int (if j < i then j else i)) H) oMin2 := by
  intro W O σ H Q x y d e th rx ry q
  unfold oMin2 at q
  split at q
  · cases rx.int
    cases ry.int
    exact ⟨_, _, rfl, q.here (.int _)⟩
  · exact q.elim
theorem ok_max2 : Ok1b X (fun xs H Q => ∃ i j, xs = [.int i, .int j] ∧ Q (.int (if j > i then j else i)) H) oMax2 := by
  intro W O σ H Q x y d e th rx ry q
  unfold oMax2 at q
  split at q
  · cases rx.int
    cases ry.int
    exact ⟨_, _, rfl, q.here (.int _)⟩
  · exact q.elim

/-! ### isinstance: one built-in class -/
def oIsTup : PyData → Rs PyData
  | .tuple _ => .ok (.bool true)
  | .dict _ => .bad
  | _ => .ok (.bool false)
def oIsLst : PyData → Rs PyData
  | .list _ => .ok (.bool true)
  | .dict _ => .bad
  | _ => .ok (.bool false)
def oIsStr : PyData → Rs PyData
  | .str _ => .ok (.bool true)
  | .dict _ => .bad
  | _ => .ok (.bool false)
def oIsInt : PyData → Rs PyData
  | .int _ => .ok (.bool true)
  | .bool _ => .ok (.bool true)
  | .dict _ => .bad
  | _ => .ok (.bool false)
def oIsBool : PyData → Rs PyData
  | .bool _ => .ok (.bool true)
  | .dict _ => .bad
  | _ => .ok (.bool false)
/-- op tells whether data is of the built-in class T -/
def IsiOp (T : String) (op : PyData → Rs PyData) : Prop :=
  (op .none = .ok (.bool false) ∧ kitB "NoneType" T = some false) ∧ (∀ es, op (.dict es) = .bad) ∧
  (∃ b1 b2 b3 b4 b5 : Bool, (∀ b, op (.bool b) = .ok (.bool b1)) ∧ (∀ b, op (.int b) = .ok (.bool b2)) ∧ (∀ b, op (.str b) = .ok (.bool b3)) ∧ (∀ b, op (.list b) = .ok (.bool b4)) ∧ (∀ b, op (.tuple b) = .ok (.bool b5)) ∧
    kitB "bool" T = some b1 ∧ kitB "int" T = some b2 ∧ kitB "str" T = some b3 ∧ kitB "list" T = some b4 ∧ kitB "tuple" T = some b5)
theorem isi_tup : IsiOp "tuple" oIsTup := ⟨⟨rfl, by decide +kernel⟩, fun _ => rfl, _, _, _, _, _, fun _ => rfl, fun _ => rfl, fun _ => rfl, fun _ => rfl, fun _ => rfl, by decide +kernel, by decide +kernel, by decide +kernel, by decide +kernel, by decide +kernel⟩
theorem isi_lst : IsiOp "list" oIsLst := ⟨⟨rfl, by decide +kernel⟩, fun _ => rfl, _, _, _, _, _, fun _ => rfl, fun _ => rfl, fun _ => rfl, fun _ => rfl, fun _ => rfl, by decide +kernel, by decide +kernel, by decide +kernel, by decide +kernel, by decide +kernel⟩
theorem isi_str : IsiOp "str" oIsStr := ⟨⟨rfl, by decide +kernel⟩, fun _ => rfl, _, _, _, _, _, fun _ => rfl, fun _ => rfl, fun _ => rfl, fun _ => rfl, fun _ => rfl, by decide +kernel, by decide +kernel, by decide +kernel, by decide +kernel, by decide +kernel⟩
theorem isi_int : IsiOp "int" oIsInt := ⟨⟨rfl, by decide +kernel⟩, fun _ => rfl, _, _, _, _, _, fun _ => rfl, fun _ => rfl, fun _ => rfl, fun _ => rfl, fun _ => rfl, by decide +kernel, by decide +kernel, by decide +kernel, by decide +kernel, by decide +kernel⟩
theorem isi_bool : IsiOp "bool" oIsBool := ⟨⟨rfl, by decide +kernel⟩, fun _ => rfl, _, _, _, _, _, fun _ => rfl, fun _ => rfl, fun _ => rfl, fun _ => rfl, fun _ => rfl, by decide +kernel, by decide +kernel, by decide +kernel, by decide +kernel, by decide +kernel⟩
theorem ok_isi {T : String} {op : PyData → Rs PyData} (hI : IsiOp T op) (W : WX) (O : List Addr) (σ : L2.St) (H : Hp) (Q : VK) (x : V) (d : PyData) (rx : RpB X.K O H x d) (q : RK X.K X.mg W O σ H Q (op d)) : rIsi X.K [x, .ty T] H Q := by
  obtain ⟨⟨hn, kn⟩, hd, b1, b2, b3, b4, b5, h1, h2, h3, h4, h5, k1, k2, k3, k4, k5⟩ := hI
  cases d with
  | none =>
    cases rx.none
    rw [hn] at q
    exact ⟨.non, .ty T, _, _, _, rfl, .ty T, .base .non, kit_ty kn, q.here (.bl _)⟩
  | bool b =>
    cases rx.bool
    rw [h1] at q
    exact ⟨.bl b, .ty T, _, _, _, rfl, .ty T, .base (.bl b), kit_ty k1, q.here (.bl _)⟩
  | int b =>
    cases rx.int
    rw [h2] at q
    exact ⟨.int b, .ty T, _, _, _, rfl, .ty T, .base (.int b), kit_ty k2, q.here (.bl _)⟩
  | str b =>
    cases rx.str
    rw [h3] at q
    exact ⟨.str b, .ty T, _, _, _, rfl, .ty T, .base (.str b), kit_ty k3, q.here (.bl _)⟩
  | list b =>
    obtain ⟨p, xs, rfl, hx, lx, rX⟩ := rx.list
    rw [h4] at q
    refine ⟨.ref p, .ty T, _, _, _, rfl, .ty T, ?_, kit_ty k4, q.here (.bl _)⟩
    rcases hx with hx | ⟨o, hx⟩
    · exact .base (.lst hx)
    · exact .base (.frz hx)
  | tuple b =>
    obtain ⟨p, xs, rfl, hx, lx, rX⟩ := rx.tuple
    rw [h5] at q
    refine ⟨.ref p, .ty T, _, _, _, rfl, .ty T, ?_, kit_ty k5, q.here (.bl _)⟩
    rcases hx with (hx | ⟨o, hx⟩) | ⟨o, its, n, hk, hc, _⟩
    · exact .base (.tup hx)
    · exact .fTuple hx
    · exact .kTuple hk hc
  | dict es =>
    rw [hd] at q
    exact q.elim
theorem de_isi {T : String} {op : PyData → Rs PyData} {p p2 : Pos} {y : Str} (hI : IsiOp T op) (ha : BE X W a fa) (hm : X.mg "isinstance" = none) (hm2 : X.mg y = none) (hv : bootBuiltins y = some (.type T)) (hg : Gl X "isinstance" := by rfl) (hg2 : Gl X y := by rfl)
    (hn : y ≠ "__name__" := by decide) (hdb : (y == ("__debug__" : Str)) = false := by decide)
    (he : starEach (a :: [.Name y p2]) X.env = (false, eval a X.env) :: starEach [.Name y p2] X.env := by rfl) (hpl : (backTo pos (starEach [.Name y p2] X.env)).any (·.1) = false := by rfl) :
    DE X W (.Call (.Name "isinstance" p) [a, .Name y p2] [] pos) (b1 op fa) :=
  PE.imp (pe_callB call_isi hg hm (by decide +kernel) (pa_cons ha (pa_cons (pe_bltn (v := .ty T) hg2 hm2 hv rfl hn hdb) pa_nil) he) (by decide) (by decide) he hpl) fun σ H Q ⟨ρ, O, H0, s, q⟩ =>
    ⟨ρ, O, H0, s, RKB.of q fun d H1 v g1 r1 q1 => ok_isi hI W _ σ H1 Q v d r1 q1⟩

/-! ### and, or, not, a if t else b: values -/
def vAnd (f g : En → Rs PyData) : En → Rs PyData := fun ρ => (f ρ).bind fun d => match d with
  | .bool true => g ρ
  | .bool false => .ok (.bool false)
  | _ => .bad
def vOr (f g : En → Rs PyData) : En → Rs PyData := fun ρ => (f ρ).bind fun d => match d with
  | .bool true => .ok (.bool true)
  | .bool false => g ρ
  | _ => .bad
def oNot : PyData → Rs PyData
  | .bool b => .ok (.bool (!b))
  | _ => .bad
variable {rest : List Expr}
theorem de_one {op : BoolOp} (h : DE X W a fa) : DE X W (.BoolOp op [a] pos) fa := pe_one h
theorem de_and (ha : DE X W a fa) (hb : DE X W (.BoolOp .And (b :: rest) pos) fb) : DE X W (.BoolOp .And (a :: b :: rest) pos) (vAnd fa fb) :=
  PE.imp (pe_and ha hb) fun σ H Q ⟨ρ, O, H0, s, q⟩ => ⟨ρ, O, H0, s, RK.of q fun d H1 v g r1 q1 => by
    split at q1
    · cases r1
      exact ⟨true, rfl, ρ, O, H0, s.grow g, q1⟩
    · cases r1
      exact ⟨false, rfl, q1.here (.bl _)⟩
    · exact q1.elim⟩
theorem de_or (ha : DE X W a fa) (hb : DE X W (.BoolOp .Or (b :: rest) pos) fb) : DE X W (.BoolOp .Or (a :: b :: rest) pos) (vOr fa fb) :=
  PE.imp (pe_or ha hb) fun σ H Q ⟨ρ, O, H0, s, q⟩ => ⟨ρ, O, H0, s, RK.of q fun d H1 v g r1 q1 => by
    split at q1
    · cases r1
      exact ⟨true, rfl, q1.here (.bl _)⟩
    · cases r1
      exact ⟨false, rfl, ρ, O, H0, s.grow g, q1⟩
    · exact q1.elim⟩
theorem de_not (ha : DE X W a fa) : DE X W (.UnaryOp .Not a pos) (b1 oNot fa) :=
  PE.imp (pe_not ha) fun σ H Q ⟨ρ, O, H0, s, q⟩ => ⟨ρ, O, H0, s, RK.of q fun d H1 v g r1 q1 => by
    unfold oNot at q1
    split at q1
    · cases r1
      exact ⟨_, rfl, q1.here (.bl _)⟩
    · exact q1.elim⟩
def vIf (t : En → Rs Bool) (f g : En → Rs PyData) : En → Rs PyData := fun ρ => (t ρ).bind fun c => if c then f ρ else g ρ
theorem de_ifExp {t : En → Rs Bool} (hc : DT X W c t) (ha : DE X W a fa) (hb : DE X W b fb) : DE X W (.IfExp c a b pos) (vIf t fa fb) :=
  PE.imp (pe_ifExp hc ha hb) fun σ H Q ⟨ρ, O, H0, s, q⟩ => ⟨ρ, O, H0, s, RKT.of q fun k H1 g q1 => by
    cases k with
    | true => exact ⟨ρ, O, H0, s.grow g, q1⟩
    | false => exact ⟨ρ, O, H0, s.grow g, q1⟩⟩
def oNeg : PyData → Rs PyData
  | .int i => .ok (.int (-i))
  | _ => .bad
theorem de_neg (ha : BE X W a fa) : DE X W (.UnaryOp .USub a pos) (b1 oNeg fa) :=
  PE.imp (pe_un un_neg ha) fun σ H Q ⟨ρ, O, H0, s, q⟩ => ⟨ρ, O, H0, s, RKB.of q fun d H1 v g r1 q1 => by
    unfold oNeg at q1
    split at q1
    · cases r1.int
      exact ⟨_, rfl, q1.here (.int _)⟩
    · exact q1.elim⟩

/-! ### argument lists; displays -/
def RKA (K : PySem.W.Frag) (mg : Str → Option Value) (W : WX) (O : List Addr) (σ : L2.St) (H : Hp) (Q : List V → Hp → Prop) : Rs (List PyData) → Prop
  | .ok d => ∀ H' v, Gr H H' → RpAll K (hide H' O) v d → Q v H'
  | .ex e => ∀ H' c dd, Gr H H' → ExR K mg (hide H' O) c dd e → W c dd σ H'
  | .bad => False
theorem RKA.grow {K : PySem.W.Frag} {mg : Str → Option Value} {W : WX} {O : List Addr} {σ : L2.St} {H H1 : Hp} {Q : List V → Hp → Prop} {r : Rs (List PyData)} (g : Gr H H1) (h : RKA K mg W O σ H Q r) : RKA K mg W O σ H1 Q r := by
  cases r with
  | ok d => exact fun H' v g' => h H' v (g.trans g')
  | ex e => exact fun H' c dd g' => h H' c dd (g.trans g')
  | bad => exact h
def tAD (K : PySem.W.Frag) (mg : Str → Option Value) (W : WX) (f : En → Rs (List PyData)) : TA := fun σ H Q => ∃ ρ O H0, SR K O H0 H σ ρ ∧ RKA K mg W (O ++ owned σ ρ) σ H Q (f ρ)
abbrev DA (X : Cx) (W : WX) (es : List Expr) (f : En → Rs (List PyData)) : Prop := PA X es (tAD X.K X.mg W f)
theorem PA.imp {X : Cx} {e : List Expr} {t t' : TA} (h : PA X e t) (i : ∀ σ H Q, t' σ H Q → t σ H Q) : PA X e t' := ⟨fun pos pins s σ H Q I q => h.run pos pins s σ H Q I (i σ H Q q)⟩
def aNil : En → Rs (List PyData) := fun _ => .ok []
def aCons (f : En → Rs PyData) (g : En → Rs (List PyData)) : En → Rs (List PyData) := fun ρ => (f ρ).bind fun d => (g ρ).bind fun ds => .ok (d :: ds)
theorem da_nil : DA X W [] aNil := PA.imp pa_nil fun σ H Q ⟨ρ, O, H0, s, q⟩ => q H [] (Gr.refl H) .nil
theorem RK.ofA {K : PySem.W.Frag} {mg : Str → Option Value} {W : WX} {O : List Addr} {σ : L2.St} {H : Hp} {Q : List V → Hp → Prop} {Q' : VK} {r : Rs PyData} {k : PyData → Rs (List PyData)} (h : RKA K mg W O σ H Q (r.bind k)) (hk : ∀ d H1 v, Gr H H1 → Rp K (hide H1 O) v d → RKA K mg W O σ H1 Q (k d) → Q' v H1) : RK K mg W O σ H Q' r := by
  cases r with
  | ok d => exact fun H' v g rp => hk d H' v g rp (RKA.grow g h)
  | ex e => exact h
  | bad => exact h
theorem RKA.ofA {K : PySem.W.Frag} {mg : Str → Option Value} {W : WX} {O : List Addr} {σ : L2.St} {H : Hp} {Q Q' : List V → Hp → Prop} {r : Rs (List PyData)} {k : List PyData → Rs (List PyData)} (h : RKA K mg W O σ H Q (r.bind k)) (hk : ∀ d H1 v, Gr H H1 → RpAll K (hide H1 O) v d → RKA K mg W O σ H1 Q (k d) → Q' v H1) : RKA K mg W O σ H Q' r := by
  cases r with
  | ok d => exact fun H' v g rp => hk d H' v g rp (RKA.grow g h)
  | ex e => exact h
  | bad => exact h
theorem RKA.of {K : PySem.W.Frag} {mg : Str → Option Value} {W : WX} {O : List Addr} {σ : L2.St} {H : Hp} {Q : VK} {Q' : List V → Hp → Prop} {r : Rs (List PyData)} {k : List PyData → Rs PyData} (h : RK K mg W O σ H Q (r.bind k)) (hk : ∀ d H1 v, Gr H H1 → RpAll K (hide H1 O) v d → RK K mg W O σ H1 Q (k d) → Q' v H1) : RKA K mg W O σ H Q' r := by
  cases r with
  | ok d => exact fun H' v g rp => hk d H' v g rp (RK.grow g h)
  | ex e => exact h
  | bad => exact h
theorem da_cons {es : List Expr} {g : En → Rs (List PyData)} (ha : DE X W a fa) (hr : DA X W es g) (hs : starEach (a :: es) X.env = (false, eval a X.env) :: starEach es X.env := by rfl) : DA X W (a :: es) (aCons fa g) :=
  PA.imp (pa_cons ha hr hs) fun σ H Q ⟨ρ, O, H0, s, q⟩ => ⟨ρ, O, H0, s, RK.ofA q fun d H1 v g1 r1 q1 => ⟨ρ, O, H0, s.grow g1, RKA.ofA q1 fun ds H2 vs g2 r2 q2 => q2 H2 (v :: vs) (Gr.refl _) (.cons (r1.mono (hide_same _ g2)) r2)⟩⟩
def mkT (f : En → Rs (List PyData)) : En → Rs PyData := fun ρ => (f ρ).bind fun ds => if ds.length ≤ mx then .ok (.tuple ds) else .bad
def mkL (f : En → Rs (List PyData)) : En → Rs PyData := fun ρ => (f ρ).bind fun ds => if ds.length ≤ mx then .ok (.list ds) else .bad
theorem de_tup {es : List Expr} {k : Nat} {f : En → Rs (List PyData)} (h : DA X W es f) : DE X W (.Tuple es k pos) (mkT f) :=
  PE.imp (pe_tup h) fun σ H Q ⟨ρ, O, H0, s, q⟩ => ⟨ρ, O, H0, s, RKA.of q fun ds H1 vs g r1 q1 => by
    split at q1
    · rename_i hz
      have hz' : vs.length ≤ mx := by rw [r1.length]; exact hz
      exact ⟨by rw [← mx_line]; exact hz', fun p hp => q1.newT (s.grow g).there hp hz' r1⟩
    · exact q1.elim⟩

/-! ### new objects -/
def RKO (K : PySem.W.Frag) (mg : Str → Option Value) (W : WX) (O : List Addr) (σ : L2.St) (H : Hp) (Q : VK) : Rs PyData → Prop
  | .ok d => ∀ H' a, Gr H H' → H a = none → OwnR K (hide H' (a :: O)) H' a d → Q (.ref a) H'
  | .ex e => ∀ H' c dd, Gr H H' → ExR K mg (hide H' O) c dd e → W c dd σ H'
  | .bad => False
def tO (K : PySem.W.Frag) (mg : Str → Option Value) (W : WX) (f : En → Rs PyData) : TE := fun σ H Q => ∃ ρ O H0, SR K O H0 H σ ρ ∧ RKO K mg W (O ++ owned σ ρ) σ H Q (f ρ)
/-- the value is a new list (a new dict) -/
abbrev OE (X : Cx) (W : WX) (e : Expr) (f : En → Rs PyData) : Prop := PE X e (tO X.K X.mg W f)
theorem OwnR.rpH {K : PySem.W.Frag} {O : List Addr} {H : Hp} {a : Addr} {d : PyData} (h : OwnR K (hide H (a :: O)) H a d) (n : a ∉ O) : Rp K (hide H O) (.ref a) d := by
  have g : Gr (hide H (a :: O)) (hide H O) := hide_less fun b hb => List.mem_cons_of_mem _ hb
  have e : hide H O a = H a := hide_out n
  rcases h with ⟨xs, ds, rfl, h2, h3, h4⟩ | ⟨xs, ds, rfl, h2, h4⟩ | ⟨xs, ds, rfl, h2, h4⟩
  · exact .lst (.inl (e.trans h2)) h3 (h4.mono g)
  · exact .dK (.inl (e.trans h2)) (h4.mono g)
  · exact .dT (.inl (e.trans h2)) (h4.mono g)
theorem OE.de {f : En → Rs PyData} (h : OE X W a f) : DE X W a f := PE.imp h fun σ H Q ⟨ρ, O, H0, s, q⟩ => ⟨ρ, O, H0, s, by
  cases e : f ρ with
  | ok d =>
    rw [e] at q
    exact fun H' a g hn r => q H' _ g (r.rpH (s.fresh hn))
  | ex x => rw [e] at q; exact q
  | bad => rw [e] at q; exact q⟩
theorem RKA.ofO {K : PySem.W.Frag} {mg : Str → Option Value} {W : WX} {O : List Addr} {σ : L2.St} {H : Hp} {Q : VK} {Q' : List V → Hp → Prop} {r : Rs (List PyData)} {k : List PyData → Rs PyData} (h : RKO K mg W O σ H Q (r.bind k))
    (hk : ∀ d H1 v, Gr H H1 → RpAll K (hide H1 O) v d → RKO K mg W O σ H1 Q (k d) → Q' v H1) : RKA K mg W O σ H Q' r := by
  cases r with
  | ok ds =>
    intro H' v g rp
    refine hk ds H' v g rp ?_
    have h' : RKO K mg W O σ H Q (k ds) := h
    cases e : k ds with
    | ok d =>
      rw [e] at h'
      exact fun H2 a g2 hn => h' H2 a (g.trans g2) (by
        cases z : H a with
        | none => rfl
        | some o => rw [g a o z] at hn; cases hn)
    | ex x =>
      rw [e] at h'
      exact fun H2 c dd g2 => h' H2 c dd (g.trans g2)
    | bad =>
      rw [e] at h'
      exact h'
  | ex e => exact h
  | bad => exact h
theorem RKO.newL {K : PySem.W.Frag} {mg : Str → Option Value} {W : WX} {O : List Addr} {σ : L2.St} {H : Hp} {Q : VK} {ds : List PyData} {xs : List V} {p : Addr} (h : RKO K mg W O σ H Q (.ok (.list ds))) (hp : H p = none) (hl : xs.length ≤ mx) (r : RpAll K (hide H O) xs ds) : Q (.ref p) (upd H p (.lst xs)) := by
  refine h _ p (same_upd hp) hp (.inl ⟨xs, ds, rfl, upd_same, hl, r.mono fun a o e => ?_⟩)
  obtain ⟨n, e'⟩ := hide_some e
  have np : a ≠ p := ne_of_none e' hp
  rw [hide_out (by simp only [List.mem_cons, not_or]; exact ⟨np, n⟩), upd_ne np]
  exact e'
theorem oe_lst {es : List Expr} {f : En → Rs (List PyData)} (h : DA X W es f) : OE X W (.List es pos) (mkL f) :=
  PE.imp (pe_lst h) fun σ H Q ⟨ρ, O, H0, s, q⟩ => ⟨ρ, O, H0, s, RKA.ofO q fun ds H1 vs g r1 q1 => by
    split at q1
    · rename_i hz
      have hz' : vs.length ≤ mx := by rw [r1.length]; exact hz
      exact ⟨by rw [← mx_line]; exact hz', fun p hp => q1.newL hp hz' r1⟩
    · exact q1.elim⟩
end
end DL

namespace DL
open PySem PySem.Spec PyProof.Rows L2

/-! ### statements -/
inductive SRes where
  | nx (ρ : En)
  | ret (d : PyData)
  | brk (ρ : En)
  | ct (ρ : En)
  | ex (e : Exn) (ρ : En)
  | bad
def SK (K : PySem.W.Frag) (mg : Str → Option Value) (W : WX) (O : List Addr) (H0 : Hp) (D : Ends) : SRes → Prop
  | .nx ρ => ∀ σ H, SR K O H0 H σ ρ → D.nx σ H
  | .ret d => ∀ v H, Gr H0 H → Rp K (hide H O) v d → D.rt v H
  | .brk ρ => ∀ σ H, SR K O H0 H σ ρ → D.bk σ H
  | .ct ρ => ∀ σ H, SR K O H0 H σ ρ → D.ct σ H
  | .ex e ρ => ∀ c dd σ H, SR K O H0 H σ ρ → ExR K mg (hide H (O ++ owned σ ρ)) c dd e → W c dd σ H
  | .bad => False
def tS (K : PySem.W.Frag) (mg : Str → Option Value) (W : WX) (g : En → SRes) : TS := fun D σ H => ∃ ρ O H0, SR K O H0 H σ ρ ∧ SK K mg W O H0 D (g ρ)
abbrev DS (X : Cx) (W : WX) (st : Stmt) (g : En → SRes) : Prop := PS X st (tS X.K X.mg W g)
abbrev DSs (X : Cx) (W : WX) (st : List Stmt) (g : En → SRes) : Prop := PSs X st (tS X.K X.mg W g)
theorem PS.imp {X : Cx} {e : Stmt} {t t' : TS} (h : PS X e t) (i : ∀ D σ H, t' D σ H → t D σ H) : PS X e t' := ⟨fun pins s σ H D I q => h.run pins s σ H D I (i D σ H q)⟩
theorem PSs.imp {X : Cx} {e : List Stmt} {t t' : TS} (h : PSs X e t) (i : ∀ D σ H, t' D σ H → t D σ H) : PSs X e t' := ⟨fun pins s σ H D I q => h.run pins s σ H D I (i D σ H q)⟩
/-- an expression's result, then a statement's -/
def eS {α : Type} (ρ : En) (r : Rs α) (k : α → SRes) : SRes := match r with
  | .ok d => k d
  | .ex e => .ex e ρ
  | .bad => .bad
@[simp] theorem eS_ok {α : Type} (ρ : En) (d : α) (k : α → SRes) : eS ρ (.ok d) k = k d := Eq.trans rfl rfl
@[simp] theorem eS_ex {α : Type} (ρ : En) (e : Exn) (k : α → SRes) : eS ρ (.ex e : Rs α) k = .ex e ρ := Eq.trans rfl rfl
@[simp] theorem eS_bad {α : Type} (ρ : En) (k : α → SRes) : eS ρ (.bad : Rs α) k = .bad := Eq.trans rfl rfl
def sThen (r : SRes) (k : En → SRes) : SRes := match r with
  | .nx ρ => k ρ
  | r => r
@[simp] theorem then_nx (ρ : En) (k : En → SRes) : sThen (.nx ρ) k = k ρ := Eq.trans rfl rfl
@[simp] theorem then_ret (d : PyData) (k : En → SRes) : sThen (.ret d) k = .ret d := Eq.trans rfl rfl
@[simp] theorem then_brk (ρ : En) (k : En → SRes) : sThen (.brk ρ) k = .brk ρ := Eq.trans rfl rfl
@[simp] theorem then_ct (ρ : En) (k : En → SRes) : sThen (.ct ρ) k = .ct ρ := Eq.trans rfl rfl
@[simp] theorem then_ex (e : Exn) (ρ : En) (k : En → SRes) : sThen (.ex e ρ) k = .ex e ρ := Eq.trans rfl rfl
@[simp] theorem then_bad (k : En → SRes) : sThen .bad k = .bad := Eq.trans rfl rfl

section
variable {K : PySem.W.Frag} {mg : Str → Option Value} {W : WX} {O : List Addr} {H0 H : Hp} {σ : L2.St} {ρ : En} {D : Ends}
theorem SK.expr {r : Rs PyData} {k : PyData → SRes} {Q : VK} (s : SR K O H0 H σ ρ) (h : SK K mg W O H0 D (eS ρ r k)) (hk : ∀ d H1 v, SR K O H0 H1 σ ρ → Rp K (hide H1 (O ++ owned σ ρ)) v d → SK K mg W O H0 D (k d) → Q v H1) : RK K mg W (O ++ owned σ ρ) σ H Q r := by
  cases r with
  | ok d => exact fun H' v g rp => hk d H' v (s.grow g) rp h
  | ex e => exact fun H' c dd g x => h c dd σ H' (s.grow g) x
  | bad => exact h
theorem SK.exprB {r : Rs PyData} {k : PyData → SRes} {Q : VK} (s : SR K O H0 H σ ρ) (h : SK K mg W O H0 D (eS ρ r k)) (hk : ∀ d H1 v, SR K O H0 H1 σ ρ → RpB K (O ++ owned σ ρ) H1 v d → SK K mg W O H0 D (k d) → Q v H1) : RKB K mg W (O ++ owned σ ρ) σ H Q r := by
  cases r with
  | ok d => exact fun H' v g rp => hk d H' v (s.grow g) rp h
  | ex e => exact fun H' c dd g x => h c dd σ H' (s.grow g) x
  | bad => exact h
theorem SK.exprT {α : Type} {r : Rs α} {k : α → SRes} {Q : α → Hp → Prop} (s : SR K O H0 H σ ρ) (h : SK K mg W O H0 D (eS ρ r k)) (hk : ∀ d H1, SR K O H0 H1 σ ρ → SK K mg W O H0 D (k d) → Q d H1) : RKT K mg W (O ++ owned σ ρ) σ H Q r := by
  cases r with
  | ok d => exact fun H' g => hk d H' (s.grow g) h
  | ex e => exact fun H' c dd g x => h c dd σ H' (s.grow g) x
  | bad => exact h
theorem SK.exprO {r : Rs PyData} {k : PyData → SRes} {Q : VK} (s : SR K O H0 H σ ρ) (h : SK K mg W O H0 D (eS ρ r k)) (hk : ∀ d H1 a, Gr H H1 → SR K O H0 H1 σ ρ → H a = none → OwnR K (hide H1 (a :: (O ++ owned σ ρ))) H1 a d → SK K mg W O H0 D (k d) → Q (.ref a) H1) : RKO K mg W (O ++ owned σ ρ) σ H Q r := by
  cases r with
  | ok d => exact fun H' a g hn rp => hk d H' a g (s.grow g) hn rp h
  | ex e => exact fun H' c dd g x => h c dd σ H' (s.grow g) x
  | bad => exact h

/-! ### slots are set -/
theorem owned_set {σ : L2.St} {ρ : En} {i : Nat} {x : Option V} {y : Option SV} {a : Addr} (h : a ∈ owned (σ.set i x) (ρ.set i y)) : a ∈ owned σ ρ ∨ own1 x y = some a := by
  induction σ generalizing ρ i with
  | nil => simp [owned] at h
  | cons u σ ih =>
    cases ρ with
    | nil => simp [owned] at h
    | cons w ρ =>
      cases i with
      | zero =>
        rw [List.set_cons_zero, List.set_cons_zero] at h
        unfold owned at h ⊢
        split at h
        · rename_i b hb
          rcases List.mem_cons.mp h with e | e
          · subst e; exact .inr hb
          · left
            split
            · exact List.mem_cons_of_mem _ e
            · exact e
        · left
          split
          · exact List.mem_cons_of_mem _ h
          · exact h
      | succ i =>
        rw [List.set_cons_succ, List.set_cons_succ] at h
        unfold owned at h ⊢
        split at h
        · rename_i b hb
          rcases List.mem_cons.mp h with e | e
          · subst e; exact .inl List.mem_cons_self
          · rcases ih e with q | q
            · exact .inl (List.mem_cons_of_mem _ q)
            · exact .inr q
        · exact ih h
theorem owned_nd {σ : L2.St} {ρ : En} {i : Nat} {x : Option V} {y : Option SV} (nd : (owned σ ρ).Nodup) (hx : ∀ a, own1 x y = some a → a ∉ owned (σ.set i none) (ρ.set i none)) : (owned (σ.set i x) (ρ.set i y)).Nodup := by
  induction σ generalizing ρ i with
  | nil => simp [owned]
  | cons u σ ih =>
    cases ρ with
    | nil => simp [owned]
    | cons w ρ =>
      have tl : (owned σ ρ).Nodup := by
        unfold owned at nd
        split at nd
        · exact (List.nodup_cons.mp nd).2
        · exact nd
      cases i with
      | zero =>
        rw [List.set_cons_zero, List.set_cons_zero]
        rw [List.set_cons_zero, List.set_cons_zero] at hx
        unfold owned
        split
        · rename_i b hb
          refine List.nodup_cons.mpr ⟨fun z => hx b hb ?_, tl⟩
          show b ∈ owned (none :: σ) (none :: ρ)
          unfold owned own1
          exact z
        · exact tl
      | succ i =>
        rw [List.set_cons_succ, List.set_cons_succ]
        rw [List.set_cons_succ, List.set_cons_succ] at hx
        have hx' : ∀ a, own1 x y = some a → a ∉ owned (σ.set i none) (ρ.set i none) := fun a e z => hx a e (by
          unfold owned
          split
          · exact List.mem_cons_of_mem _ z
          · exact z)
        have r := ih tl hx'
        unfold owned
        split
        · rename_i b hb
          refine List.nodup_cons.mpr ⟨fun z => ?_, r⟩
          rcases owned_set z with q | q
          · unfold owned at nd
            rw [hb] at nd
            exact (List.nodup_cons.mp nd).1 q
          · refine hx b q ?_
            unfold owned
            rw [hb]
            exact List.mem_cons_self
        · exact r
theorem SlotsR.set {G : Hp} (h : SlotsR K G H σ ρ) {i : Nat} {x : Option V} {y : Option SV} (hy : SlotR K G H x y) : SlotsR K G H (σ.set i x) (ρ.set i y) := by
  induction h generalizing i with
  | nil => exact .nil
  | cons h1 h2 ih =>
    cases i with
    | zero => exact .cons hy h2
    | succ i => exact .cons h1 ih
theorem owned_set_sub {i : Nat} {x : Option V} {y : Option SV} (hn : own1 x y = none) : ∀ a ∈ owned (σ.set i x) (ρ.set i y), a ∈ owned σ ρ := fun a h => by
  rcases owned_set h with q | q
  · exact q
  · rw [hn] at q; cases q
/-- a slot takes data -/
theorem SR.setV (s : SR K O H0 H σ ρ) {i : Nat} {v : V} {d : PyData} (r : Rp K (hide H (O ++ owned σ ρ)) v d) : SR K O H0 H (σ.set i (some v)) (ρ.set i (some (.val d))) := by
  have sub := owned_set_sub (σ := σ) (ρ := ρ) (i := i) (x := some v) (y := some (.val d)) (by cases v <;> rfl)
  have g : Gr (hide H (O ++ owned σ ρ)) (hide H (O ++ owned (σ.set i (some v)) (ρ.set i (some (.val d))))) := hide_less fun a ha => by
    rcases List.mem_append.mp ha with h | h
    · exact List.mem_append_left _ h
    · exact List.mem_append_right _ (sub a h)
  refine ⟨s.same, fun a h => s.new a (sub a h), owned_nd s.nd (fun a e => by cases v <;> cases e), s.old, (s.slots.set (x := some v) (y := some (.val d)) (show SlotR K _ H (some v) (some (.val d)) from ⟨v, rfl, r⟩)).mono g fun _ _ _ e => e⟩
/-- a slot is forgotten -/
theorem SR.setN (s : SR K O H0 H σ ρ) {i : Nat} {x : Option V} : SR K O H0 H (σ.set i x) (ρ.set i none) := by
  have hn : own1 x (none : Option SV) = none := by cases x with | none => rfl | some v => cases v <;> rfl
  have sub := owned_set_sub (σ := σ) (ρ := ρ) (i := i) (x := x) (y := none) hn
  have g : Gr (hide H (O ++ owned σ ρ)) (hide H (O ++ owned (σ.set i x) (ρ.set i none))) := hide_less fun a ha => by
    rcases List.mem_append.mp ha with h | h
    · exact List.mem_append_left _ h
    · exact List.mem_append_right _ (sub a h)
  exact ⟨s.same, fun a h => s.new a (sub a h), owned_nd s.nd (fun a e => by rw [hn] at e; cases e), s.old, (s.slots.set (x := x) (y := none) trivial).mono g fun _ _ _ e => e⟩
/-- a slot takes a new object -/
theorem SR.setO {H1 : Hp} (s : SR K O H0 H σ ρ) (g : Gr H H1) {i : Nat} {a : Addr} {d : PyData} (hn : H a = none) (r : OwnR K (hide H1 (a :: (O ++ owned σ ρ))) H1 a d) : SR K O H0 H1 (σ.set i (some (.ref a))) (ρ.set i (some (.own d))) := by
  have na := s.fresh hn
  have nO : a ∉ owned σ ρ := fun z => na (List.mem_append_right _ z)
  have n0 : H0 a = none := by
    cases e : H0 a with
    | none => rfl
    | some o => rw [s.same a o e] at hn; cases hn
  have sub : ∀ b ∈ O ++ owned (σ.set i (some (.ref a))) (ρ.set i (some (.own d))), b ∈ a :: (O ++ owned σ ρ) := fun b hb => by
    rcases List.mem_append.mp hb with h | h
    · exact List.mem_cons_of_mem _ (List.mem_append_left _ h)
    · rcases owned_set h with q | q
      · exact List.mem_cons_of_mem _ (List.mem_append_right _ q)
      · cases q; exact List.mem_cons_self
  have g2 : Gr (hide H (O ++ owned σ ρ)) (hide H1 (a :: (O ++ owned σ ρ))) := fun b o e => by
    obtain ⟨nb, e'⟩ := hide_some e
    have ne : b ≠ a := ne_of_none e' hn
    rw [hide_out (by simp only [List.mem_cons, not_or]; exact ⟨ne, nb⟩)]
    exact g b o e'
  refine ⟨s.same.trans g, fun b hb => ?_, owned_nd s.nd (fun b e => by
    cases e
    intro z
    rcases owned_set z with q | q
    · exact nO q
    · cases q), s.old, ?_⟩
  · rcases owned_set hb with q | q
    · exact s.new b q
    · cases q; exact n0
  · have base : SlotsR K (hide H1 (a :: (O ++ owned σ ρ))) H1 σ ρ := s.slots.mono g2 fun b _ o e => g b o e
    exact (base.set (i := i) (x := some (.ref a)) (y := some (.own d)) (show SlotR K _ H1 (some (.ref a)) (some (.own d)) from ⟨a, rfl, r⟩)).mono (hide_less sub) fun _ _ _ e => e
/-- an own object is changed -/
theorem hide_upd {H : Hp} {O : List Addr} {a : Addr} {o : HO} (h : a ∈ O) : hide (upd H a o) O = hide H O := by
  funext b
  by_cases q : b ∈ O
  · rw [hide_in q, hide_in q]
  · rw [hide_out q, hide_out q, upd_ne fun e => q (by rw [e]; exact h)]
theorem owned_mem {i : Nat} {a : Addr} {d : PyData} (h1 : σ[i]? = some (some (.ref a))) (h2 : ρ[i]? = some (some (.own d))) : a ∈ owned σ ρ := by
  induction σ generalizing ρ i with
  | nil => simp at h1
  | cons u σ ih =>
    cases ρ with
    | nil => simp at h2
    | cons w ρ =>
      unfold owned
      cases i with
      | zero =>
        simp at h1 h2
        subst h1
        subst h2
        exact List.mem_cons_self
      | succ i =>
        have q := ih (ρ := ρ) (i := i) (by simpa using h1) (by simpa using h2)
        split
        · exact List.mem_cons_of_mem _ q
        · exact q
theorem owned_same {i : Nat} {a : Addr} {d d' : PyData} (h1 : σ[i]? = some (some (.ref a))) (h2 : ρ[i]? = some (some (.own d))) : owned σ (ρ.set i (some (.own d'))) = owned σ ρ := by
  induction σ generalizing ρ i with
  | nil => simp at h1
  | cons u σ ih =>
    cases ρ with
    | nil => simp at h2
    | cons w ρ =>
      cases i with
      | zero =>
        simp at h1 h2
        subst h1
        subst h2
        rfl
      | succ i =>
        rw [List.set_cons_succ]
        unfold owned
        rw [ih (ρ := ρ) (i := i) (by simpa using h1) (by simpa using h2)]
/-- the slots but one -/
theorem SlotsR.change {G : Hp} {H' : Hp} (h : SlotsR K G H σ ρ) (nd : (owned σ ρ).Nodup) {i : Nat} {a : Addr} {d d' : PyData} (h1 : σ[i]? = some (some (.ref a))) (h2 : ρ[i]? = some (some (.own d)))
    (e : ∀ b o, b ≠ a → H b = some o → H' b = some o) (r : OwnR K G H' a d') : SlotsR K G H' σ (ρ.set i (some (.own d'))) := by
  induction h generalizing i with
  | nil => exact .nil
  | @cons x y σ ρ k1 k2 ih =>
    cases i with
    | zero =>
      simp at h1 h2
      subst h1
      subst h2
      have nd' : a ∉ owned σ ρ ∧ (owned σ ρ).Nodup := List.nodup_cons.mp nd
      exact .cons ⟨a, rfl, r⟩ (k2.mono (Gr.refl _) fun b hb o q => e b o (fun z => nd'.1 (by rw [← z]; exact hb)) q)
    | succ i =>
      have h1' : σ[i]? = some (some (.ref a)) := by simpa using h1
      have h2' : ρ[i]? = some (some (.own d)) := by simpa using h2
      have ma := owned_mem h1' h2'
      have nd2 : (owned σ ρ).Nodup := by
        unfold owned at nd
        split at nd
        · exact (List.nodup_cons.mp nd).2
        · exact nd
      refine .cons ?_ (ih nd2 h1' h2')
      cases y with
      | none => trivial
      | some sv =>
        cases sv with
        | val d => exact k1
        | own d2 =>
          obtain ⟨b, e1, r1⟩ := k1
          subst e1
          refine ⟨b, rfl, r1.mono (Gr.refl _) fun o q => e b o (fun z => ?_) q⟩
          have nd3 : (b :: owned σ ρ).Nodup := nd
          exact (List.nodup_cons.mp nd3).1 (by rw [z]; exact ma)
theorem SR.change (s : SR K O H0 H σ ρ) {i : Nat} {a : Addr} {d d' : PyData} {o : HO} (h1 : σ[i]? = some (some (.ref a))) (h2 : ρ[i]? = some (some (.own d))) (r : OwnR K (hide H (O ++ owned σ ρ)) (upd H a o) a d') :
    SR K O H0 (upd H a o) σ (ρ.set i (some (.own d'))) := by
  have ma := owned_mem h1 h2
  have eo := owned_same (d' := d') h1 h2
  refine ⟨fun b u e => ?_, by rw [eo]; exact s.new, by rw [eo]; exact s.nd, s.old, ?_⟩
  · rw [upd_ne fun z => by rw [z, s.new a ma] at e; cases e]
    exact s.same b u e
  · rw [eo, hide_upd (List.mem_append_right _ ma)]
    exact s.slots.change s.nd h1 h2 (fun b u n e => by rw [upd_ne n]; exact e) r
/-- an own object becomes data -/
def frz (i : Nat) (ρ : En) : En := match ρ[i]? with
  | some (some (.own d)) => ρ.set i (some (.val d))
  | _ => ρ
theorem set_self {σ : L2.St} {i : Nat} {x : Option V} (h : σ[i]? = some x) : σ.set i x = σ := by
  apply List.ext_getElem?
  intro j
  by_cases e : i = j
  · subst e
    have hl : i < σ.length := (List.getElem?_eq_some_iff.mp h).1
    rw [List.getElem?_set_self hl, h]
  · rw [List.getElem?_set_ne e]
theorem owned_not {i : Nat} {a : Addr} {d d' : PyData} (nd : (owned σ ρ).Nodup) (h1 : σ[i]? = some (some (.ref a))) (h2 : ρ[i]? = some (some (.own d))) : a ∉ owned σ (ρ.set i (some (.val d'))) := by
  induction σ generalizing ρ i with
  | nil => simp at h1
  | cons u σ ih =>
    cases ρ with
    | nil => simp at h2
    | cons w ρ =>
      cases i with
      | zero =>
        simp at h1 h2
        subst h1
        subst h2
        exact (List.nodup_cons.mp nd).1
      | succ i =>
        rw [List.set_cons_succ]
        have h1' : σ[i]? = some (some (.ref a)) := by simpa using h1
        have h2' : ρ[i]? = some (some (.own d)) := by simpa using h2
        have nd2 : (owned σ ρ).Nodup := by
          unfold owned at nd
          split at nd
          · exact (List.nodup_cons.mp nd).2
          · exact nd
        have q := ih nd2 h1' h2'
        unfold owned
        split
        · rename_i b hb
          intro z
          rcases List.mem_cons.mp z with e | e
          · subst e
            unfold owned at nd
            rw [hb] at nd
            exact (List.nodup_cons.mp nd).1 (owned_mem h1' h2')
          · exact q e
        · exact q
theorem SR.frz (s : SR K O H0 H σ ρ) (i : Nat) : SR K O H0 H σ (frz i ρ) := by
  unfold DL.frz
  split
  · rename_i d e
    obtain ⟨x, e1, a, e2, r⟩ := s.slots.get e
    subst e2
    have sub : ∀ b ∈ owned σ (ρ.set i (some (.val d))), b ∈ owned σ ρ := by
      have := owned_set_sub (σ := σ) (ρ := ρ) (i := i) (x := some (.ref a)) (y := some (.val d)) rfl
      rw [set_self e1] at this
      exact this
    have nd' : (owned σ (ρ.set i (some (.val d)))).Nodup := by
      have := owned_nd (σ := σ) (ρ := ρ) (i := i) (x := some (.ref a)) (y := some (.val d)) s.nd (fun a e => by cases e)
      rw [set_self e1] at this
      exact this
    have g : Gr (hide H (O ++ owned σ ρ)) (hide H (O ++ owned σ (ρ.set i (some (.val d))))) := hide_less fun b hb => by
      rcases List.mem_append.mp hb with h | h
      · exact List.mem_append_left _ h
      · exact List.mem_append_right _ (sub b h)
    have ma := owned_mem e1 e
    have naO : a ∉ O := fun z => s.old a z (s.new a ma)
    have nn : a ∉ O ++ owned σ (ρ.set i (some (.val d))) := fun z => by
      rcases List.mem_append.mp z with h | h
      · exact naO h
      · exact owned_not s.nd e1 e h
    have rp : Rp K (hide H (O ++ owned σ (ρ.set i (some (.val d))))) (.ref a) d := by
      rcases r with ⟨xs, ds, rfl, h2, h3, h4⟩ | ⟨xs, ds, rfl, h2, h4⟩ | ⟨xs, ds, rfl, h2, h4⟩
      · exact .lst (.inl (by rw [hide_out nn]; exact h2)) h3 (h4.mono g)
      · exact .dK (.inl (by rw [hide_out nn]; exact h2)) (h4.mono g)
      · exact .dT (.inl (by rw [hide_out nn]; exact h2)) (h4.mono g)
    refine ⟨s.same, fun b hb => s.new b (sub b hb), nd', s.old, ?_⟩
    have q := (s.slots.mono g fun _ _ _ e => e).set (i := i) (x := some (.ref a)) (y := some (.val d)) (show SlotR K _ H (some (.ref a)) (some (.val d)) from ⟨_, rfl, rp⟩)
    rw [set_self e1] at q
    exact q
  · exact s
end
end DL

namespace DL
open PySem PySem.Spec PyProof.Rows L2

section
variable {X : Cx} {W : WX} {a b c e : Expr} {fa fb fc f : En → Rs PyData} {pos : Pos} {st : Stmt} {rest : List Stmt} {g g2 : En → SRes}
/-! ### blocks -/
def sNil : En → SRes := fun ρ => .nx ρ
def sSeq (g1 g2 : En → SRes) : En → SRes := fun ρ => sThen (g1 ρ) g2
theorem dss_nil : DSs X W [] sNil := PSs.imp pss_nil fun D σ H ⟨ρ, O, H0, s, q⟩ => q σ H s
theorem SK.seq {K : PySem.W.Frag} {mg : Str → Option Value} {W : WX} {O : List Addr} {H0 : Hp} {D : Ends} {r : SRes} {k : En → SRes} (h : SK K mg W O H0 D (sThen r k)) : SK K mg W O H0 { D with nx := tS K mg W k D } r := by
  cases r with
  | nx ρ => exact fun σ H s => ⟨ρ, O, H0, s, h⟩
  | ret d => exact h
  | brk ρ => exact h
  | ct ρ => exact h
  | ex e ρ => exact h
  | bad => exact h
theorem dss_cons (h1 : DS X W st g) (h2 : DSs X W rest g2) : DSs X W (st :: rest) (sSeq g g2) :=
  PSs.imp (pss_cons h1 h2) fun D σ H ⟨ρ, O, H0, s, q⟩ => ⟨ρ, O, H0, s, q.seq⟩
theorem dss_one (h1 : DS X W st g) : DSs X W [st] g := pss_one h1
def sFrz (i : Nat) (g : En → SRes) : En → SRes := fun ρ => g (frz i ρ)
theorem dss_frz (i : Nat) {sts : List Stmt} (h : DSs X W sts g) : DSs X W sts (sFrz i g) := PSs.imp h fun D σ H ⟨ρ, O, H0, s, q⟩ => ⟨frz i ρ, O, H0, s.frz i, q⟩
theorem ds_frz (i : Nat) (h : DS X W st g) : DS X W st (sFrz i g) := PS.imp h fun D σ H ⟨ρ, O, H0, s, q⟩ => ⟨frz i ρ, O, H0, s.frz i, q⟩
def sBrk : En → SRes := fun ρ => .brk ρ
def sCt : En → SRes := fun ρ => .ct ρ
theorem ds_pass : DS X W (.Pass pos) sNil := PS.imp ps_pass fun D σ H ⟨ρ, O, H0, s, q⟩ => q σ H s
theorem ds_break : DS X W (.Break pos) sBrk := PS.imp ps_break fun D σ H ⟨ρ, O, H0, s, q⟩ => q σ H s
theorem ds_continue : DS X W (.Continue pos) sCt := PS.imp ps_continue fun D σ H ⟨ρ, O, H0, s, q⟩ => q σ H s
def sNever : En → SRes := fun _ => .bad
theorem ds_never : DS X W st sNever := PS.imp ps_never fun D σ H ⟨ρ, O, H0, s, q⟩ => q
theorem dss_never {sts : List Stmt} : DSs X W sts sNever := PSs.imp pss_never fun D σ H ⟨ρ, O, H0, s, q⟩ => q
/-! ### return, expressions, stores -/
def sRet (f : En → Rs PyData) : En → SRes := fun ρ => eS ρ (f ρ) .ret
theorem RpH {K : PySem.W.Frag} {O : List Addr} {σ : L2.St} {ρ : En} {H : Hp} {v : V} {d : PyData} (h : Rp K (hide H (O ++ owned σ ρ)) v d) : Rp K (hide H O) v d := h.mono (hide_less fun a ha => List.mem_append_left _ ha)
theorem ds_ret (h : DE X W e f) : DS X W (.Return (some e) pos) (sRet f) := PS.imp (ps_ret h) fun D σ H ⟨ρ, O, H0, s, q⟩ => ⟨ρ, O, H0, s, SK.expr s q fun d H1 v s1 r1 q1 => q1 v H1 s1.same (RpH r1)⟩
def sRetN : En → SRes := fun _ => .ret .none
theorem ds_retN : DS X W (.Return none pos) sRetN := PS.imp ps_retN fun D σ H ⟨ρ, O, H0, s, q⟩ => q .non H s.same .non
def sDrop (f : En → Rs PyData) : En → SRes := fun ρ => eS ρ (f ρ) fun _ => .nx ρ
theorem ds_expr (h : DE X W e f) (hs : swapsWith e none pos.line X.env = pure false := by rfl) : DS X W (.Expr e pos) (sDrop f) := PS.imp (ps_expr h hs) fun D σ H ⟨ρ, O, H0, s, q⟩ => ⟨ρ, O, H0, s, SK.expr s q fun d H1 v s1 r1 q1 => q1 σ H1 s1⟩
def sSet (i : Nat) (f : En → Rs PyData) : En → SRes := fun ρ => eS ρ (f ρ) fun d => .nx (ρ.set i (some (.val d)))
theorem ds_set (i : Nat) {x : Str} {pos' : Pos} (hN : X.N.Nodup) (he : DE X W e f) (hi : X.N[i]? = some x := by rfl) (hx : Loc X.env.scope x := by first | exact .inl rfl | exact .inr rfl) (hs : swapsWith e (some (.Name x pos')) pos.line X.env = pure false := by rfl) (hf : X.fn x = true ∨ X.env.scope.names.lookup x = some .local := by exact .inl rfl) :
    DS X W (.Assign [.Name x pos'] e pos) (sSet i f) := PS.imp (ps_set hN hi hx he hs hf) fun D σ H ⟨ρ, O, H0, s, q⟩ => ⟨ρ, O, H0, s, SK.expr s q fun d H1 v s1 r1 q1 => q1 _ H1 (s1.setV r1)⟩
def sSetO (i : Nat) (f : En → Rs PyData) : En → SRes := fun ρ => eS ρ (f ρ) fun d => .nx (ρ.set i (some (.own d)))
theorem ds_setO (i : Nat) {x : Str} {pos' : Pos} (hN : X.N.Nodup) (he : OE X W e f) (hi : X.N[i]? = some x := by rfl) (hx : Loc X.env.scope x := by first | exact .inl rfl | exact .inr rfl) (hs : swapsWith e (some (.Name x pos')) pos.line X.env = pure false := by rfl) (hf : X.fn x = true ∨ X.env.scope.names.lookup x = some .local := by exact .inl rfl) :
    DS X W (.Assign [.Name x pos'] e pos) (sSetO i f) := PS.imp (ps_set hN hi hx he hs hf) fun D σ H ⟨ρ, O, H0, s, q⟩ => ⟨ρ, O, H0, s, SK.exprO s q fun d H1 a g s1 hn r1 q1 => q1 _ H1 (s.setO g hn r1)⟩
/-! ### if -/
def sIf (t : En → Rs Bool) (g1 g2 : En → SRes) : En → SRes := fun ρ => eS ρ (t ρ) fun c => if c then g1 ρ else g2 ρ
theorem ds_if {t : En → Rs Bool} {A B : List Stmt} {ga gb : En → SRes} (hc : DT X W c t) (ha : DSs X W A ga) (hb : DSs X W B gb) : DS X W (.If c A B pos) (sIf t ga gb) :=
  PS.imp (ps_if hc ha hb) fun D σ H ⟨ρ, O, H0, s, q⟩ => ⟨ρ, O, H0, s, SK.exprT s q fun k H1 s1 q1 => by
    cases k with
    | true => exact ⟨ρ, O, H0, s1, q1⟩
    | false => exact ⟨ρ, O, H0, s1, q1⟩⟩
/-! ### while, by fuel -/
def whileS (t : En → Rs Bool) (body : En → SRes) : Nat → En → SRes
  | 0, _ => .bad
  | n + 1, ρ => eS ρ (t ρ) fun c => if c then (match body ρ with
      | .nx ρ' => whileS t body n ρ'
      | .ct ρ' => whileS t body n ρ'
      | .brk ρ' => .nx ρ'
      | r => r) else .nx ρ
def sWhile (fuel : En → Nat) (t : En → Rs Bool) (body : En → SRes) : En → SRes := fun ρ => whileS t body (fuel ρ) ρ
theorem ds_while (fuel : En → Nat) {t : En → Rs Bool} {B : List Stmt} {gb : En → SRes} (hp : PassesOwn (model X.prog X.w) X.A X.env X.xe) (hc : DT X W c t) (hb : DSs X W B gb) : DS X W (.While c B [] pos) (sWhile fuel t gb) :=
  PS.imp (ps_while hp hc hb) fun D σ H ⟨ρ, O, H0, s, q⟩ => by
    refine ⟨fun m σ H => ∃ ρ, SR X.K O H0 H σ ρ ∧ SK X.K X.mg W O H0 D (whileS t gb m ρ), ⟨fuel ρ, ρ, s, q⟩, ?_⟩
    rintro m σ1 H1 ⟨ρ1, s1, q1⟩
    cases m with
    | zero => exact q1.elim
    | succ m =>
      refine ⟨ρ1, O, H0, s1, SK.exprT s1 q1 fun k H2 s2 q2 => ?_⟩
      cases k with
      | false => exact q2 σ1 H2 s2
      | true =>
        refine ⟨fun σ' H' => ∃ ρ', SR X.K O H0 H' σ' ρ' ∧ SK X.K X.mg W O H0 D (whileS t gb m ρ'), fun σ' H' h => ⟨m, Nat.lt_succ_self m, h⟩, ρ1, O, H0, s2, ?_⟩
        rw [if_pos rfl] at q2
        cases e : gb ρ1 with
        | nx ρ' => rw [e] at q2; exact fun σ' H' s' => ⟨ρ', s', q2⟩
        | ct ρ' => rw [e] at q2; exact fun σ' H' s' => ⟨ρ', s', q2⟩
        | brk ρ' => rw [e] at q2; exact q2
        | ret d => rw [e] at q2; exact q2
        | ex x ρ' => rw [e] at q2; exact q2
        | bad => rw [e] at q2; exact q2
/-! ### targets -/
/-- what a target does to the slots -/
abbrev TgD := PyData → En → Rs En
/-- σ' is σ but at is -/
def But (is : List Nat) (σ σ' : L2.St) : Prop := σ'.length = σ.length ∧ ∀ j, j ∉ is → σ'[j]? = σ[j]?
theorem But.refl (is : List Nat) (σ : L2.St) : But is σ σ := ⟨rfl, fun _ _ => rfl⟩
theorem But.set (i : Nat) (σ : L2.St) (v : Option V) : But [i] σ (σ.set i v) := ⟨by simp, fun j hj => by rw [List.getElem?_set_ne (by intro e; apply hj; simp [e])]⟩
theorem But.trans {i : Nat} {is : List Nat} {σ σ1 σ2 : L2.St} (a : But [i] σ σ1) (b : But is σ1 σ2) : But (i :: is) σ σ2 :=
  ⟨b.1.trans a.1, fun j hj => (b.2 j fun z => hj (List.mem_cons_of_mem _ z)).trans (a.2 j fun z => hj (by simp at z; simp [z]))⟩
def tG (K : PySem.W.Frag) (is : List Nat) (τ : TgD) : TG := fun v σ H Q => ∃ ρ O H0 d, SR K O H0 H σ ρ ∧ Rp K (hide H (O ++ owned σ ρ)) v d ∧ (match τ d ρ with
  | .ok ρ' => ∀ σ', SR K O H0 H σ' ρ' → But is σ σ' → Q σ' H
  | _ => False)
abbrev DG (X : Cx) (tg : Expr) (is : List Nat) (τ : TgD) : Prop := PG X tg (tG X.K is τ)
theorem PG.imp {X : Cx} {e : Expr} {t t' : TG} (h : PG X e t) (i : ∀ v σ H Q, t' v σ H Q → t v σ H Q) : PG X e t' := ⟨fun pins s σ H v u Q I r q => h.run pins s σ H v u Q I r (i v σ H Q q)⟩
def τName (i : Nat) : TgD := fun d ρ => .ok (ρ.set i (some (.val d)))
theorem dg_name (i : Nat) {x : Str} (hN : X.N.Nodup) (hi : X.N[i]? = some x := by rfl) (hx : Loc X.env.scope x := by first | exact .inl rfl | exact .inr rfl) (hf : X.fn x = true ∨ X.env.scope.names.lookup x = some .local := by first | exact .inl rfl | exact .inr rfl) : DG X (.Name x pos) [i] (τName i) :=
  PG.imp (pg_name hN hi hx hf) fun v σ H Q ⟨ρ, O, H0, d, s, r, q⟩ => q _ (s.setV r) (But.set i σ _)
abbrev TgDs := List PyData → En → Rs En
def tGs (K : PySem.W.Frag) (is : List Nat) (τ : TgDs) : TGs := fun vs σ H Q => ∃ ρ O H0 ds, SR K O H0 H σ ρ ∧ RpAll K (hide H (O ++ owned σ ρ)) vs ds ∧ (match τ ds ρ with
  | .ok ρ' => ∀ σ', SR K O H0 H σ' ρ' → But is σ σ' → Q σ' H
  | _ => False)
theorem PGs.imp {X : Cx} {e : List Expr} {t t' : TGs} (h : PGs X e t) (i : ∀ v σ H Q, t' v σ H Q → t v σ H Q) : PGs X e t' := ⟨fun pins s σ H v u Q I r q => h.run pins s σ H v u Q I r (i v σ H Q q)⟩
/-- names, one for each item -/
def τNames : List Nat → TgDs
  | [], [], ρ => .ok ρ
  | i :: is, d :: ds, ρ => τNames is ds (ρ.set i (some (.val d)))
  | _, _, _ => .bad
theorem dgs_nil : PGs X [] (tGs X.K [] (τNames [])) := PGs.imp pgs_nil fun vs σ H Q ⟨ρ, O, H0, ds, s, r, q⟩ => by
  cases ds with
  | nil =>
    cases r
    exact ⟨rfl, q σ s (But.refl _ _)⟩
  | cons d ds => exact q.elim
theorem dgs_cons (i : Nat) {is : List Nat} {x : Str} {p : Pos} {es : List Expr} (hN : X.N.Nodup) (h2 : PGs X es (tGs X.K is (τNames is))) (hi : X.N[i]? = some x := by rfl) (hx : Loc X.env.scope x := by first | exact .inl rfl | exact .inr rfl) (hf : X.fn x = true ∨ X.env.scope.names.lookup x = some .local := by first | exact .inl rfl | exact .inr rfl)
    (hs : (assignEach (.Name x p :: es) X.env).map (·.2) = assign (.Name x p) X.env :: (assignEach es X.env).map (·.2) := by rfl) : PGs X (.Name x p :: es) (tGs X.K (i :: is) (τNames (i :: is))) :=
  PGs.imp (pgs_cons (pg_name hN hi hx hf) h2 hs) fun vs σ H Q ⟨ρ, O, H0, ds, s, r, q⟩ => by
    cases ds with
    | nil => exact q.elim
    | cons d ds =>
      cases r with
      | @cons v vs _ _ r1 r2 =>
        have s' := s.setV (i := i) r1
        refine ⟨v, vs, rfl, _, O, H0, ds, s', r2.mono (hide_less fun a ha => ?_), ?_⟩
        · rcases List.mem_append.mp ha with h | h
          · exact List.mem_append_left _ h
          · exact List.mem_append_right _ (owned_set_sub (i := i) (x := some v) (y := some (.val d)) (by cases v <;> rfl) a h)
        · have q' : (match τNames is ds (ρ.set i (some (.val d))) with
            | .ok ρ' => ∀ σ', SR X.K O H0 H σ' ρ' → But (i :: is) σ σ' → Q σ' H
            | _ => False) := q
          split
          · rename_i ρ' e
            rw [e] at q'
            exact fun σ' s2 b => q' σ' s2 ((But.set i σ _).trans b)
          · rename_i hn
            split at q'
            · rename_i ρ' e
              exact hn _ e
            · exact q'
def τTup (is : List Nat) : TgD := fun d ρ => match d with
  | .tuple ds => if ds.length = is.length then τNames is ds ρ else .bad
  | _ => .bad
theorem dg_tup {es : List Expr} {is : List Nat} {k : Nat} (hc : X.calm = true) (h : PGs X es (tGs X.K is (τNames is))) (hn : (assignEach es X.env).length = is.length := by rfl) (hst : (assignEach es X.env).findIdx? (·.1) = none := by rfl) : DG X (.Tuple es k pos) is (τTup is) :=
  PG.imp (pg_tup hc h hn hst) fun v σ H Q ⟨ρ, O, H0, d, s, r, q⟩ => by
    unfold τTup at q
    cases d with
    | tuple ds =>
      cases r with
      | tup hs hl ra =>
        dsimp only at q
        split at q
        · rename_i ρ' e
          split at e
          · rename_i hl2
            exact ⟨_, _, rfl, Gr.seqT hide_sub hs, by rw [ra.length]; exact hl2, ρ, O, H0, ds, s, ra, by rw [e]; exact q⟩
          · cases e
        · exact q.elim
    | _ => exact q.elim
def sAsg (f : En → Rs PyData) (τ : TgD) : En → SRes := fun ρ => eS ρ (f ρ) fun d => match τ d ρ with
  | .ok ρ' => .nx ρ'
  | _ => .bad
theorem ds_asg {tg : Expr} {is : List Nat} {τ : TgD} (he : DE X W e f) (hg : DG X tg is τ) (hs : swapsWithSole [tg] e pos.line X.env = pure false := by rfl) (hw : swappedStores [tg] e X.env = pure none := by rfl)
    (h1 : (assignEach [tg] X.env).map (·.2) = [assign tg X.env] := by rfl) : DS X W (.Assign [tg] e pos) (sAsg f τ) :=
  PS.imp (ps_asg he hg hs hw h1) fun D σ H ⟨ρ, O, H0, s, q⟩ => ⟨ρ, O, H0, s, SK.expr s q fun d H1 v s1 r1 q1 => ⟨ρ, O, H0, d, s1, r1, by
    cases e : τ d ρ with
    | ok ρ' => rw [e] at q1; exact fun σ' s' _ => q1 σ' H1 s'
    | ex x => rw [e] at q1; exact q1
    | bad => rw [e] at q1; exact q1⟩⟩

/-! ### what is walked -/
/-- while the heap keeps G, the iterator gives values that stand for ds over P -/
def Wk (K : PySem.W.Frag) (G P : Hp) (J : It) (ds : List PyData) : Prop := ∀ H1, Gr G H1 → ∀ i, (∀ d, ds[i]? = some d → J.go i H1 ∧ ∀ x H2, J.yld i H1 x H2 → H2 = H1 ∧ Rp K P x d) ∧ (ds.length ≤ i → J.stop i H1)
theorem Wk.mono {K : PySem.W.Frag} {G G' P P' : Hp} {J : It} {ds : List PyData} (h : Wk K G P J ds) (g : Gr G G') (p : Gr P P') : Wk K G' P' J ds := fun H1 g1 i => ⟨fun d e => ⟨((h H1 (g.trans g1) i).1 d e).1, fun x H2 y => ⟨(((h H1 (g.trans g1) i).1 d e).2 x H2 y).1, ((((h H1 (g.trans g1) i).1 d e).2 x H2 y).2).mono p⟩⟩, (h H1 (g.trans g1) i).2⟩
def RKI (K : PySem.W.Frag) (mg : Str → Option Value) (W : WX) (b : Bool) (O : List Addr) (σ : L2.St) (H : Hp) (R : It → Hp → Prop) : Rs (List PyData) → Prop
  | .ok ds => ∀ J H', Gr H H' → ds.length ≤ 4611686018427387904 → Wk K (if b then H' else hide H' O) (hide H' O) J ds → R J H'
  | .ex e => ∀ H' c dd, Gr H H' → ExR K mg (hide H' O) c dd e → W c dd σ H'
  | .bad => False
/-- b: an own object may be walked (in a comprehension) -/
def tI (K : PySem.W.Frag) (mg : Str → Option Value) (W : WX) (b : Bool) (f : En → Rs (List PyData)) : TI := fun σ H R => ∃ ρ O H0, SR K O H0 H σ ρ ∧ RKI K mg W b (O ++ owned σ ρ) σ H R (f ρ)
abbrev DI (X : Cx) (W : WX) (b : Bool) (tg e : Expr) (f : En → Rs (List PyData)) : Prop := PI X tg e (tI X.K X.mg W b f)
theorem PI.imp {X : Cx} {tg e : Expr} {t t' : TI} (h : PI X tg e t) (i : ∀ σ H R, t' σ H R → t σ H R) : PI X tg e t' := ⟨fun pins s σ H R I q => h.run pins s σ H R I (i σ H R q)⟩
def oItems : PyData → Rs (List PyData)
  | .list ds => .ok ds
  | .tuple ds => .ok ds
  | .dict [(.none, .list ds)] => .ok ds
  | _ => .bad
def oItemsL : PyData → Rs (List PyData)
  | .list ds => .ok ds
  | .dict [(.none, .list ds)] => .ok ds
  | _ => .bad
def oItemsT : PyData → Rs (List PyData)
  | .tuple ds => .ok ds
  | _ => .bad
def iOf (op : PyData → Rs (List PyData)) (f : En → Rs PyData) : En → Rs (List PyData) := fun ρ => (f ρ).bind op
theorem wk_list {K : PySem.W.Frag} {G P : Hp} {a : Addr} {xs : List V} {ds : List PyData} (hl : SqL K G a xs) (r : RpAll K P xs ds) (inj : ∀ H1, Gr G H1 → ∀ ys, SqL K H1 a ys → True) : Wk K G P (Itl K a) ds := fun H1 g i => by
  have hl1 : SqL K H1 a xs := g.seq hl
  refine ⟨fun d e => ?_, fun h => ⟨xs, hl1, by rw [r.length]; exact h⟩⟩
  obtain ⟨x, e1, rx⟩ := r.get e
  exact ⟨⟨xs, x, hl1, e1⟩, fun y H2 ⟨e2, h2⟩ => ⟨e2, by
    have := h2 xs hl1
    rw [e1] at this
    cases this
    exact rx⟩⟩
theorem wk_tup {K : PySem.W.Frag} {G P : Hp} {a : Addr} {xs : List V} {ds : List PyData} (hl : SqT K G a xs) (r : RpAll K P xs ds) : Wk K G P (Itt K a) ds := fun H1 g i => by
  have hl1 : SqT K H1 a xs := Gr.seqT g hl
  refine ⟨fun d e => ?_, fun h => ⟨xs, hl1, by rw [r.length]; exact h⟩⟩
  obtain ⟨x, e1, rx⟩ := r.get e
  exact ⟨⟨xs, x, hl1, e1⟩, fun y H2 ⟨e2, h2⟩ => ⟨e2, by
    have := h2 xs hl1
    rw [e1] at this
    cases this
    exact rx⟩⟩
theorem RK.ofI {K : PySem.W.Frag} {mg : Str → Option Value} {W : WX} {bb : Bool} {O : List Addr} {σ : L2.St} {H : Hp} {R : It → Hp → Prop} {Q' : VK} {r : Rs PyData} {k : PyData → Rs (List PyData)} (h : RKI K mg W bb O σ H R (r.bind k))
    (hk : ∀ d H1 v, Gr H H1 → Rp K (hide H1 O) v d → RKI K mg W bb O σ H1 R (k d) → Q' v H1) : RK K mg W O σ H Q' r := by
  cases r with
  | ok d =>
    intro H' v g rp
    refine hk d H' v g rp ?_
    have h' : RKI K mg W bb O σ H R (k d) := h
    cases e : k d with
    | ok ds => rw [e] at h'; exact fun J H2 g2 => h' J H2 (g.trans g2)
    | ex x => rw [e] at h'; exact fun H2 c dd g2 => h' H2 c dd (g.trans g2)
    | bad => rw [e] at h'; exact h'
  | ex e => exact h
  | bad => exact h
theorem RKB.ofI {K : PySem.W.Frag} {mg : Str → Option Value} {W : WX} {bb : Bool} {O : List Addr} {σ : L2.St} {H : Hp} {R : It → Hp → Prop} {Q' : VK} {r : Rs PyData} {k : PyData → Rs (List PyData)} (h : RKI K mg W bb O σ H R (r.bind k))
    (hk : ∀ d H1 v, Gr H H1 → RpB K O H1 v d → RKI K mg W bb O σ H1 R (k d) → Q' v H1) : RKB K mg W O σ H Q' r := by
  cases r with
  | ok d =>
    intro H' v g rp
    refine hk d H' v g rp ?_
    have h' : RKI K mg W bb O σ H R (k d) := h
    cases e : k d with
    | ok ds => rw [e] at h'; exact fun J H2 g2 => h' J H2 (g.trans g2)
    | ex x => rw [e] at h'; exact fun H2 c dd g2 => h' H2 c dd (g.trans g2)
    | bad => rw [e] at h'; exact h'
  | ex e => exact h
  | bad => exact h
theorem mx62 {n : Nat} (h : n ≤ mx) : n ≤ 4611686018427387904 := Nat.le_trans h (by decide)
/-- a list of data -/
theorem di_list {tg : Expr} (h : DE X W e f) : DI X W false tg e (iOf oItemsL f) :=
  PI.imp (pi_list h) fun σ H R ⟨ρ, O, H0, s, q⟩ => ⟨ρ, O, H0, s, RK.ofI q fun d H1 v g r1 q1 => by
    unfold oItemsL at q1
    split at q1
    · cases r1 with
      | lst hl hz ra => exact ⟨_, rfl, ⟨_, .inl (Gr.rd hide_sub hl)⟩, q1 _ H1 (Gr.refl _) (by rw [← ra.length]; exact mx62 hz) (wk_list (.inl hl) ra fun _ _ _ _ => trivial)⟩
    · obtain ⟨a, is, rfl, rfl, hx, lx⟩ := RpB.scr (O := []) (H := hide H1 (O ++ owned σ ρ)) (.inl (by rw [hide_nil]; exact r1))
      exact ⟨_, rfl, ⟨_, hide_sub.seq hx⟩, q1 _ H1 (Gr.refl _) (by rw [List.length_map]; exact mx62 lx) (wk_list hx (rpAll_ints is) fun _ _ _ _ => trivial)⟩
    · exact q1.elim⟩
theorem di_tup {tg : Expr} (h : DE X W e f) (bb : Bool) : DI X W bb tg e (iOf oItemsT f) :=
  PI.imp (pi_tup h) fun σ H R ⟨ρ, O, H0, s, q⟩ => ⟨ρ, O, H0, s, RK.ofI q fun d H1 v g r1 q1 => by
    unfold oItemsT at q1
    split at q1
    · cases r1 with
      | tup hl hz ra => exact ⟨_, rfl, ⟨_, Gr.seqT hide_sub hl⟩, q1 _ H1 (Gr.refl _) (by rw [← ra.length]; exact mx62 hz) ((wk_tup hl ra).mono (by cases bb; exact Gr.refl _; exact hide_sub) (Gr.refl _))⟩
    · exact q1.elim⟩
/-- a list, an own one too, that nothing changes meanwhile -/
theorem di_listB {tg : Expr} (h : BE X W e f) : DI X W true tg e (iOf (fun d => match d with | .list ds => .ok ds | _ => .bad) f) :=
  PI.imp (pi_list h) fun σ H R ⟨ρ, O, H0, s, q⟩ => ⟨ρ, O, H0, s, RKB.ofI q fun d H1 v g r1 q1 => by
    cases d with
    | list ds =>
      obtain ⟨a, xs, rfl, hl, hz, ra⟩ := r1.list
      exact ⟨_, rfl, ⟨_, .inl hl⟩, q1 _ H1 (Gr.refl _) (by rw [← ra.length]; exact mx62 hz) (wk_list (.inl hl) ra fun _ _ _ _ => trivial)⟩
    | _ => exact q1.elim⟩
/-- a text's signs -/
def oSigns : PyData → Rs (List PyData)
  | .str z => if z.length ≤ mx then .ok (z.cps.toList.map fun c => .str ⟨#[c]⟩) else .bad
  | _ => .bad
theorem di_str {tg : Expr} (h : BE X W e f) (bb : Bool) : DI X W bb tg e (iOf oSigns f) :=
  PI.imp (pi_str h) fun σ H R ⟨ρ, O, H0, s, q⟩ => ⟨ρ, O, H0, s, RKB.ofI q fun d H1 v g r1 q1 => by
    unfold oSigns at q1
    split at q1
    · rename_i z
      cases r1.str
      split at q1
      · rename_i hz
        refine ⟨z, rfl, q1 _ H1 (Gr.refl _) (by rw [List.length_map, Array.length_toList]; exact mx62 hz) fun H2 g2 i => ⟨fun d e => ?_, fun h => ?_⟩⟩
        · rw [List.getElem?_map] at e
          cases e2 : z.cps.toList[i]? with
          | none => rw [e2] at e; cases e
          | some c =>
            rw [e2] at e
            cases e
            have e3 : z.cps[i]? = some c := by rw [← Array.getElem?_toList]; exact e2
            refine ⟨(Array.getElem?_eq_some_iff.mp e3).1, fun x H3 ⟨e4, c', e5, e6⟩ => ⟨e4, ?_⟩⟩
            rw [e3] at e5
            cases e5
            subst e6
            exact .str _
        · rw [List.length_map, Array.length_toList] at h
          exact h
      · exact q1.elim
    · exact q1.elim⟩
/-- range(n), range(a, b) -/
def rngD (i j : Int) : Rs (List PyData) := if decide (-4611686018427387904 ≤ i) && decide (i < 4611686018427387904) && decide (-4611686018427387904 ≤ j) && decide (j < 4611686018427387904) && decide ((j - i).toNat ≤ 4611686018427387904) then .ok ((List.range (j - i).toNat).map fun (k : Nat) => .int (i + (k : Int))) else .bad
def iRange1 (f : En → Rs PyData) : En → Rs (List PyData) := fun ρ => (f ρ).bind fun d => match d with
  | .int n => rngD 0 n
  | _ => .bad
def iRange2 (f g : En → Rs PyData) : En → Rs (List PyData) := fun ρ => (f ρ).bind fun d => (g ρ).bind fun e => match d, e with
  | .int m, .int n => rngD m n
  | _, _ => .bad
theorem wk_range {K : PySem.W.Frag} {G P : Hp} (lo : Int) (n : Nat) : Wk K G P (Itr lo n) ((List.range n).map fun (k : Nat) => .int (lo + (k : Int))) := fun H1 g i => by
  refine ⟨fun d e => ?_, fun h => ?_⟩
  · rw [List.getElem?_map] at e
    by_cases hi : i < n
    · rw [List.getElem?_range hi] at e
      cases e
      exact ⟨hi, fun x H2 ⟨e1, e2⟩ => ⟨e1, by rw [e2]; exact .int _⟩⟩
    · rw [List.getElem?_eq_none (by rw [List.length_range]; omega)] at e
      cases e
  · rw [List.length_map, List.length_range] at h
    exact h
theorem rngD_ok {i j : Int} {K : PySem.W.Frag} {mg : Str → Option Value} {bb : Bool} {O : List Addr} {σ : L2.St} {H : Hp} {R : It → Hp → Prop} (q : RKI K mg W bb O σ H R (rngD i j)) : (-(2 ^ 62) ≤ i ∧ i < 2 ^ 62 ∧ -(2 ^ 62) ≤ j ∧ j < 2 ^ 62) ∧ R (Itr i (j - i).toNat) H := by
  unfold rngD at q
  split at q
  · rename_i h
    simp only [Bool.and_eq_true, decide_eq_true_eq] at h
    exact ⟨by omega, q _ H (Gr.refl _) (by rw [List.length_map, List.length_range]; omega) (wk_range i _)⟩
  · exact q.elim
theorem di_range1 {tg : Expr} {p : Pos} (bb : Bool) (ha : BE X W a fa) (hm : X.mg "range" = none) (hg : Gl X "range" := by rfl) (hs : starEach [a] X.env = [(false, eval a X.env)] := by rfl) : DI X W bb tg (.Call (.Name "range" p) [a] [] pos) (iRange1 fa) :=
  PI.imp (pi_range1 hg hm (pa_cons ha pa_nil (by rw [hs]; rfl)) hs) fun σ H R ⟨ρ, O, H0, s, q⟩ => ⟨ρ, O, H0, s, RKB.ofI q fun d H1 v g r1 q1 => by
    cases d with
    | int n =>
      cases r1.int
      obtain ⟨h, q2⟩ := rngD_ok q1
      exact ⟨n, rfl, h.2.2.1, h.2.2.2, by simpa using q2⟩
    | _ => exact q1.elim⟩
theorem di_range2 {tg : Expr} {p : Pos} (bb : Bool) (ha : BE X W a fa) (hb : BE X W b fb) (hm : X.mg "range" = none) (hg : Gl X "range" := by rfl) (hs : starEach [a, b] X.env = [(false, eval a X.env), (false, eval b X.env)] := by rfl) (hs2 : starEach [b] X.env = [(false, eval b X.env)] := by rfl) :
    DI X W bb tg (.Call (.Name "range" p) [a, b] [] pos) (iRange2 fa fb) :=
  PI.imp (pi_range2 hg hm (pa_cons ha (pa_cons hb pa_nil (by rw [hs2]; rfl)) (by rw [hs, hs2])) hs hs2) fun σ H R ⟨ρ, O, H0, s, q⟩ => ⟨ρ, O, H0, s, RKB.ofI q fun d H1 v g r1 q1 => ⟨ρ, O, H0, s.grow g, RKB.ofI q1 fun e H2 u g2 r2 q2 => by
    cases d with
    | int m =>
      cases e with
      | int n =>
        cases r1.int
        cases r2.int
        obtain ⟨h, q3⟩ := rngD_ok q2
        exact ⟨m, n, rfl, h, q3⟩
      | _ => exact q2.elim
    | _ => exact q2.elim⟩⟩
/-! ### for -/
def forS (τ : TgD) (body : En → SRes) : List PyData → En → SRes
  | [], ρ => .nx ρ
  | d :: ds, ρ => match τ d ρ with
    | .ok ρ1 => (match body ρ1 with
      | .nx ρ' => forS τ body ds ρ'
      | .ct ρ' => forS τ body ds ρ'
      | .brk ρ' => .nx ρ'
      | r => r)
    | _ => .bad
def sFor (fi : En → Rs (List PyData)) (τ : TgD) (body : En → SRes) : En → SRes := fun ρ => eS ρ (fi ρ) fun ds => forS τ body ds ρ
theorem SK.weak {K : PySem.W.Frag} {mg : Str → Option Value} {W : WX} {O : List Addr} {H0 H1 : Hp} {D : Ends} {r : SRes} (g : Gr H0 H1) (old : ∀ a ∈ O, H0 a ≠ none) (h : SK K mg W O H0 D r) : SK K mg W O H1 D r := by
  cases r with
  | nx ρ => exact fun σ H s => h σ H (s.weak g old)
  | ret d => exact fun v H g' => h v H (g.trans g')
  | brk ρ => exact fun σ H s => h σ H (s.weak g old)
  | ct ρ => exact fun σ H s => h σ H (s.weak g old)
  | ex e ρ => exact fun c dd σ H s => h c dd σ H (s.weak g old)
  | bad => exact h
theorem hide_app {H : Hp} {O P : List Addr} : hide (hide H P) O = hide H (O ++ P) := by
  funext a
  by_cases h1 : a ∈ O
  · rw [hide_in h1, hide_in (List.mem_append_left _ h1)]
  · rw [hide_out h1]
    by_cases h2 : a ∈ P
    · rw [hide_in h2, hide_in (List.mem_append_right _ h2)]
    · rw [hide_out h2, hide_out fun z => (List.mem_append.mp z).elim h1 h2]
theorem ds_for {tg iter : Expr} {B : List Stmt} {fi : En → Rs (List PyData)} {is : List Nat} {τ : TgD} {gb : En → SRes} (hp : PassesOwn (model X.prog X.w) X.A X.env X.xe) (hc : X.calm = true) (hi : DI X W false tg iter fi) (hg : DG X tg is τ) (hb : DSs X W B gb)
    (hs : ∀ x, foldedSetIterable iter X.env x = pure x := by intro _; rfl) : DS X W (.For tg iter B [] pos) (sFor fi τ gb) :=
  PS.imp (ps_for hp hc hi hg hb hs) fun D σ H ⟨ρ, O, H0, s, q⟩ => by
    refine ⟨ρ, O, H0, s, ?_⟩
    unfold sFor at q
    cases e : fi ρ with
    | ex x => rw [e] at q; exact fun H' c dd g x => q c dd σ H' (s.grow g) x
    | bad => rw [e] at q; exact q
    | ok ds =>
      rw [e] at q
      intro J H1 g _ wk
      have s1 := s.grow g
      -- the ground of the loop
      obtain ⟨B0, hB0⟩ : ∃ B0, B0 = hide H1 (owned σ ρ) := ⟨_, rfl⟩
      have sB : SR X.K O B0 H1 σ ρ := by rw [hB0]; exact s1.rebase
      have g0 : Gr H0 B0 := by rw [hB0]; exact s1.base_sub
      have wk' : Wk X.K (hide H1 (O ++ owned σ ρ)) (hide B0 O) J ds := by rw [hB0, hide_app]; exact wk
      refine ⟨fun i m σ' H' => m = ds.length - i ∧ i ≤ ds.length ∧ ∃ ρ', SR X.K O B0 H' σ' ρ' ∧ SK X.K X.mg W O B0 D (forS τ gb (ds.drop i) ρ'), ⟨ds.length, by simp, Nat.zero_le _, ρ, sB, SK.weak g0 s.old q⟩, ?_⟩
      rintro i m σ2 H2 ⟨rfl, hi2, ρ2, s2, q2⟩
      have gG : Gr (hide H1 (O ++ owned σ ρ)) H2 := fun a o ea => by
        obtain ⟨na, ea'⟩ := hide_some ea
        refine s2.same a o ?_
        rw [hB0, hide_out fun z => na (List.mem_append_right _ z)]
        exact ea'
      by_cases hlt : i < ds.length
      · have ed : ds[i]? = some ds[i] := List.getElem?_eq_getElem hlt
        have edrop : ds.drop i = ds[i] :: ds.drop (i + 1) := by rw [List.drop_eq_getElem_cons hlt]
        obtain ⟨go, yl⟩ := (wk' H2 gG i).1 _ ed
        rw [edrop] at q2
        refine .inr ⟨go, fun σ' H' => ∃ ρ', SR X.K O B0 H' σ' ρ' ∧ SK X.K X.mg W O B0 D (forS τ gb (ds.drop (i + 1)) ρ'), fun σ' H' h => ⟨ds.length - (i + 1), by omega, rfl, hlt, h⟩, fun x H3 y => ?_⟩
        obtain ⟨rfl, rx⟩ := yl x H3 y
        refine ⟨ρ2, O, B0, ds[i], s2, rx.mono fun a o ea => ?_, ?_⟩
        · obtain ⟨na, ea'⟩ := hide_some ea
          have n2 : a ∉ owned σ2 ρ2 := fun z => by rw [s2.new a z] at ea'; cases ea'
          rw [hide_out fun z => (List.mem_append.mp z).elim na n2]
          exact s2.same a o ea'
        · unfold forS at q2
          cases et : τ ds[i] ρ2 with
          | ex x => rw [et] at q2; exact q2
          | bad => rw [et] at q2; exact q2
          | ok ρ3 =>
            rw [et] at q2
            intro σ3 s3 _
            refine ⟨ρ3, O, B0, s3, ?_⟩
            dsimp only at q2
            cases eb : gb ρ3 with
            | nx ρ' => rw [eb] at q2; exact fun σ' H' s' => ⟨ρ', s', q2⟩
            | ct ρ' => rw [eb] at q2; exact fun σ' H' s' => ⟨ρ', s', q2⟩
            | brk ρ' => rw [eb] at q2; exact q2
            | ret d => rw [eb] at q2; exact q2
            | ex x ρ' => rw [eb] at q2; exact q2
            | bad => rw [eb] at q2; exact q2
      · have ei : i = ds.length := by omega
        subst ei
        rw [List.drop_length] at q2
        exact .inl ⟨(wk' H2 gG _).2 (Nat.le_refl _), q2 σ2 H2 s2⟩
end
end DL

namespace DL
open PySem PySem.Spec PyProof.Rows L2

/-! ### functions -/
def RKF (K : PySem.W.Frag) (mg : Str → Option Value) (O : List Addr) (H : Hp) (Q : VK) (E : XK) : Rs PyData → Prop
  | .ok d => ∀ H' v, Gr H H' → Rp K (hide H' O) v d → Q v H'
  | .ex e => ∀ H' c dd, Gr H H' → ExR K mg (hide H' O) c dd e → E c dd H'
  | .bad => False
/-- what a def promises that denotes g -/
def spD (K : PySem.W.Frag) (mg : Str → Option Value) (g : List PyData → Rs PyData) : Sp := fun vs H Q E => ∃ O ds, (∀ a ∈ O, H a ≠ none) ∧ RpAll K (hide H O) vs ds ∧ RKF K mg O H Q E (g ds)
/-- the def of this name denotes g, by k calls at most one in another -/
def Fn (P : Program) (w : World) (K : PySem.W.Frag) (mg : Str → Option Value) (base : Heap) (k : Nat) (x : Str) (g : List PyData → Rs PyData) : Prop :=
  ∃ f fd ps, FnOk P w K mg base (L2.CX P w) k f fd ps (spD K mg g) ∧ mg x = some (.ref f) ∧ PySem.W.keepIn K (.ref f) = true ∧ Binds K fd ps []
theorem Fn.mono {P : Program} {w : World} {K : PySem.W.Frag} {mg : Str → Option Value} {base : Heap} {j k : Nat} {x : Str} {g : List PyData → Rs PyData} (F : Fn P w K mg base j x g) (h : j ≤ k) : Fn P w K mg base k x g :=
  let ⟨f, fd, ps, F, r⟩ := F
  ⟨f, fd, ps, F.mono h, r⟩
section
variable {X : Cx} {W : WX} {a b c e : Expr} {fa fb fc f : En → Rs PyData} {pos p : Pos} {st : Stmt} {rest : List Stmt} {x : Str} {es : List Expr} {k : Nat} {g : List PyData → Rs PyData}
def dCall (g : List PyData → Rs PyData) (f : En → Rs (List PyData)) : En → Rs PyData := fun ρ => (f ρ).bind g
theorem RK.toF {K : PySem.W.Frag} {mg : Str → Option Value} {O : List Addr} {σ : L2.St} {H : Hp} {Q : VK} {r : Rs PyData} (h : RK K mg W O σ H Q r) : RKF K mg O H Q (WE W σ) r := by
  cases r with
  | ok d => exact h
  | ex e => exact h
  | bad => exact h
theorem de_call {f : En → Rs (List PyData)} (F : Fn X.prog X.w X.K X.mg X.base k x g) (hr : Room k X.A) (tk : Takes X W) (ha : DA X W (a :: es) f) (hg : Gl X x := by rfl) (hdb : (x == ("__debug__" : Str)) = false := by decide)
    (he : starEach (a :: es) X.env = (false, eval a X.env) :: starEach es X.env := by rfl) (hpl : (backTo pos (starEach es X.env)).any (·.1) = false := by rfl) : DE X W (.Call (.Name x p) (a :: es) [] pos) (dCall g f) := by
  obtain ⟨fn, fd, ps, F, hm, hk, hb⟩ := F
  exact PE.imp (pe_callS F hr hg hm hk hb (fun σ => passAt tk σ) ha hdb he hpl) fun σ H Q ⟨ρ, O, H0, s, q⟩ => ⟨ρ, O, H0, s, RKA.of q fun ds H1 vs g1 r1 q1 => ⟨O ++ owned σ ρ, ds, (s.grow g1).there, r1, q1.toF⟩⟩

/-! ### a call with own lists among the arguments: what comes back holds no list -/
mutual
def flatD : PyData → Bool
  | .list _ => false
  | .dict _ => false
  | .tuple ds => flatDs ds
  | _ => true
def flatDs : List PyData → Bool
  | [] => true
  | d :: ds => flatD d && flatDs ds
end
/-- what is hidden are lists and dicts -/
def Lsts (H : Hp) (O : List Addr) : Prop := ∀ a ∈ O, (∃ xs, H a = some (.lst xs)) ∨ (∃ kvs, H a = some (.dK kvs)) ∨ ∃ kvs, H a = some (.dT kvs)
mutual
theorem Rp.flat {K : PySem.W.Frag} {H : Hp} {O : List Addr} (hl : Lsts H O) : ∀ {d : PyData} {v : V}, flatD d = true → Rp K H v d → Rp K (hide H O) v d
  | .none, _, _, h => by cases h; exact .non
  | .bool _, _, _, h => by cases h; exact .bl _
  | .int _, _, _, h => by cases h; exact .int _
  | .str _, _, _, h => by cases h; exact .str _
  | .list ds, _, p, h => by simp [flatD] at p
  | .dict ds, _, p, h => by simp [flatD] at p
  | .tuple ds, _, p, h => by
    cases h with
    | @tup a xs _ s l r =>
      refine .tup ?_ l (RpAll.flat hl (by simpa [flatD] using p) r)
      rcases s with (s | ⟨o, s⟩) | s
      · left; left
        rw [hide_out fun z => by rcases hl a z with ⟨xs, q⟩ | ⟨kvs, q⟩ | ⟨kvs, q⟩ <;> (rw [s] at q; cases q)]
        exact s
      · left; right
        refine ⟨o, ?_⟩
        rw [hide_out fun z => by rcases hl a z with ⟨xs, q⟩ | ⟨kvs, q⟩ | ⟨kvs, q⟩ <;> (rw [s] at q; cases q)]
        exact s
      · exact .inr s
theorem RpAll.flat {K : PySem.W.Frag} {H : Hp} {O : List Addr} (hl : Lsts H O) : ∀ {ds : List PyData} {vs : List V}, flatDs ds = true → RpAll K H vs ds → RpAll K (hide H O) vs ds
  | [], _, _, h => by cases h; exact .nil
  | d :: ds, _, p, h => by
    cases h with
    | cons r t =>
      have p' : flatD d = true ∧ flatDs ds = true := by simpa [flatDs] using p
      exact .cons (Rp.flat hl p'.1 r) (RpAll.flat hl p'.2 t)
end
theorem OwnR.lsts {K : PySem.W.Frag} {G H : Hp} {a : Addr} {d : PyData} (h : OwnR K G H a d) : (∃ xs, H a = some (.lst xs)) ∨ (∃ kvs, H a = some (.dK kvs)) ∨ ∃ kvs, H a = some (.dT kvs) := by
  rcases h with ⟨xs, ds, h1, h2, h3⟩ | ⟨xs, ds, h1, h2, h3⟩ | ⟨xs, ds, h1, h2, h3⟩
  · exact .inl ⟨_, h2⟩
  · exact .inr (.inl ⟨_, h2⟩)
  · exact .inr (.inr ⟨_, h2⟩)
theorem SlotsR.lsts {K : PySem.W.Frag} {G H : Hp} {σ : L2.St} {ρ : En} (h : SlotsR K G H σ ρ) : Lsts H (owned σ ρ) := by
  induction h with
  | nil => intro a ha; simp [owned] at ha
  | @cons x y σ ρ h1 h2 ih =>
    intro a ha
    unfold owned at ha
    split at ha
    · rename_i b hb
      rcases List.mem_cons.mp ha with q | q
      · subst q
        unfold own1 at hb
        split at hb
        · cases hb
          obtain ⟨a', e1, r⟩ := h1
          cases e1
          exact r.lsts
        · cases hb
      · exact ih a q
    · exact ih a ha
def RKAB (K : PySem.W.Frag) (mg : Str → Option Value) (W : WX) (O : List Addr) (σ : L2.St) (H : Hp) (Q : List V → Hp → Prop) : Rs (List PyData) → Prop
  | .ok d => ∀ H' v, Gr H H' → RpAll K (hide H' O) v d → Q v H'
  | .ex e => ∀ H' c dd, Gr H H' → ExR K mg (hide H' O) c dd e → W c dd σ H'
  | .bad => False
/-- the same with the own objects as data: O is what the caller hides -/
def tAB (K : PySem.W.Frag) (mg : Str → Option Value) (W : WX) (f : En → Rs (List PyData)) : TA := fun σ H Q => ∃ ρ O H0, SR K O H0 H σ ρ ∧ (match f ρ with
  | .ok d => ∀ H' v, Gr H H' → RpAll K (hide H' O) v d → Q v H'
  | .ex e => ∀ H' c dd, Gr H H' → ExR K mg (hide H' (O ++ owned σ ρ)) c dd e → W c dd σ H'
  | .bad => False)
abbrev BA (X : Cx) (W : WX) (es : List Expr) (f : En → Rs (List PyData)) : Prop := PA X es (tAB X.K X.mg W f)
theorem ba_nil : BA X W [] aNil := PA.imp pa_nil fun σ H Q ⟨ρ, O, H0, s, q⟩ => q H [] (Gr.refl H) .nil
theorem RpB.rpO {K : PySem.W.Frag} {O : List Addr} {H0 H : Hp} {σ : L2.St} {ρ : En} {v : V} {d : PyData} (s : SR K O H0 H σ ρ) (h : RpB K (O ++ owned σ ρ) H v d) (hv : ∀ a, v = .ref a → a ∈ O → Rp K (hide H (O ++ owned σ ρ)) v d) : Rp K (hide H O) v d := by
  have g : Gr (hide H (O ++ owned σ ρ)) (hide H O) := hide_less fun a ha => List.mem_append_left _ ha
  rcases h with h | ⟨a, rfl, h⟩
  · exact h.mono g
  · by_cases n : a ∈ O
    · exact (hv a rfl n).mono g
    · have e : hide H O a = H a := hide_out n
      rcases h with ⟨xs, ds, rfl, h2, h3, h4⟩ | ⟨xs, ds, rfl, h2, h4⟩ | ⟨xs, ds, rfl, h2, h4⟩
      · exact .lst (.inl (e.trans h2)) h3 (h4.mono g)
      · exact .dK (.inl (e.trans h2)) (h4.mono g)
      · exact .dT (.inl (e.trans h2)) (h4.mono g)
/-- an own name as an argument -/
theorem ba_own (i : Nat) {y : Str} {p' : Pos} {g : En → Rs (List PyData)} (hr : BA X W es g) (hN : X.N[i]? = some y := by rfl) (hv : Vis X.env.scope y := by first | exact Or.inl rfl | exact Or.inr (Or.inl rfl) | exact Or.inr (Or.inr rfl)) (hd : (y == ("__debug__" : Str)) = false := by decide)
    (hcd : (y == ("__classdict__" : Str)) = false := by decide) (hs : starEach (.Name y p' :: es) X.env = (false, eval (.Name y p') X.env) :: starEach es X.env := by rfl) : BA X W (.Name y p' :: es) (aCons (bVar i) g) :=
  PA.imp (pa_cons (pe_var hN hv hd hcd) hr hs) fun σ H Q ⟨ρ, O, H0, s, q⟩ => by
    unfold aCons bVar at q
    have go : ∀ (v : V) (d : PyData), Rp X.K (hide H O) v d → (match (Rs.ok d).bind fun d => (g ρ).bind fun ds => Rs.ok (d :: ds) with
        | .ok d => ∀ H' v, Gr H H' → RpAll X.K (hide H' O) v d → Q v H'
        | .ex e => ∀ H' c dd, Gr H H' → ExR X.K X.mg (hide H' (O ++ owned σ ρ)) c dd e → W c dd σ H'
        | .bad => False) → tAB X.K X.mg W g σ H fun xs H2 => Q (v :: xs) H2 := fun v d r q => ⟨ρ, O, H0, s, by
      cases e : g ρ with
      | ok ds =>
        rw [e] at q
        exact fun H' vs g1 r1 => q H' (v :: vs) g1 (.cons (r.mono (hide_same _ g1)) r1)
      | ex x => rw [e] at q; exact q
      | bad => rw [e] at q; exact q⟩
    cases e : ρ[i]? with
    | none => rw [e] at q; exact q.elim
    | some sv =>
      cases sv with
      | none => rw [e] at q; exact q.elim
      | some sv =>
        cases sv with
        | val d =>
          rw [e] at q
          obtain ⟨x, e1, v, e2, rp⟩ := s.slots.get e
          subst e2
          exact ⟨v, e1, go v d (RpH rp) q⟩
        | own d =>
          rw [e] at q
          obtain ⟨x, e1, a, e2, rp⟩ := s.slots.get e
          subst e2
          have ma := owned_mem e1 e
          have naO : a ∉ O := fun z => s.old a z (s.new a ma)
          have g' : Gr (hide H (O ++ owned σ ρ)) (hide H O) := hide_less fun a ha => List.mem_append_left _ ha
          have ee : hide H O a = H a := hide_out naO
          refine ⟨.ref a, e1, go (.ref a) d ?_ q⟩
          rcases rp with ⟨xs, ds, rfl, h2, h3, h4⟩ | ⟨xs, ds, rfl, h2, h4⟩ | ⟨xs, ds, rfl, h2, h4⟩
          · exact .lst (.inl (ee.trans h2)) h3 (h4.mono g')
          · exact .dK (.inl (ee.trans h2)) (h4.mono g')
          · exact .dT (.inl (ee.trans h2)) (h4.mono g')
theorem ba_cons {g : En → Rs (List PyData)} (ha : DE X W a fa) (hr : BA X W es g) (hs : starEach (a :: es) X.env = (false, eval a X.env) :: starEach es X.env := by rfl) : BA X W (a :: es) (aCons fa g) :=
  PA.imp (pa_cons ha hr hs) fun σ H Q ⟨ρ, O, H0, s, q⟩ => ⟨ρ, O, H0, s, by
    unfold aCons at q
    cases e : fa ρ with
    | ok d =>
      rw [e] at q
      intro H1 v g1 r1
      refine ⟨ρ, O, H0, s.grow g1, ?_⟩
      cases e2 : g ρ with
      | ok ds =>
        rw [bind_ok, e2] at q
        exact fun H' vs g2 r2 => q H' (v :: vs) (g1.trans g2) (.cons ((RpH r1).mono (hide_same _ g2)) r2)
      | ex x =>
        rw [bind_ok, e2] at q
        exact fun H' c dd g2 r2 => q H' c dd (g1.trans g2) r2
      | bad =>
        rw [bind_ok, e2] at q
        exact q
    | ex x => rw [e] at q; exact q
    | bad => rw [e] at q; exact q⟩
/-- only what holds no list comes back -/
def outF : Rs PyData → Rs PyData
  | .ok d => if flatD d then .ok d else .bad
  | .ex e => if e.fs.all fun p => flatD p.2 then .ex e else .bad
  | .bad => .bad
def dCallB (g : List PyData → Rs PyData) (f : En → Rs (List PyData)) : En → Rs PyData := fun ρ => (f ρ).bind fun ds => outF (g ds)
theorem Lsts.grow {H H' : Hp} {O : List Addr} (g : Gr H H') (h : Lsts H O) : Lsts H' O := fun a ha => by
  rcases h a ha with ⟨xs, q⟩ | ⟨xs, q⟩ | ⟨xs, q⟩
  · exact .inl ⟨xs, g _ _ q⟩
  · exact .inr (.inl ⟨xs, g _ _ q⟩)
  · exact .inr (.inr ⟨xs, g _ _ q⟩)
theorem RpFs.flat {K : PySem.W.Frag} {H : Hp} {O : List Addr} (hl : Lsts H O) : ∀ {fs : List (Str × V)} {ds : List (PyData × PyData)}, RpFs K H fs ds → (ds.all fun p => flatD p.2) = true → RpFs K (hide H O) fs ds
  | _, _, .nil, _ => .nil
  | _, _, .cons r t, p => by
    rw [List.all_cons, Bool.and_eq_true] at p
    exact .cons (r.flat hl p.1) (RpFs.flat hl t p.2)
theorem de_callB {f : En → Rs (List PyData)} (F : Fn X.prog X.w X.K X.mg X.base k x g) (hr : Room k X.A) (tk : Takes X W) (ha : BA X W (a :: es) f) (hg : Gl X x := by rfl) (hdb : (x == ("__debug__" : Str)) = false := by decide)
    (he : starEach (a :: es) X.env = (false, eval a X.env) :: starEach es X.env := by rfl) (hpl : (backTo pos (starEach es X.env)).any (·.1) = false := by rfl) : DE X W (.Call (.Name x p) (a :: es) [] pos) (dCallB g f) := by
  obtain ⟨fn, fd, ps, F, hm, hk, hb⟩ := F
  refine PE.imp (pe_callS F hr hg hm hk hb (fun σ => passAt tk σ) ha hdb he hpl) fun σ H Q ⟨ρ, O, H0, s, q⟩ => ⟨ρ, O, H0, s, ?_⟩
  unfold dCallB at q
  cases e : f ρ with
  | ex x => rw [e] at q; exact q
  | bad => rw [e] at q; exact q
  | ok ds =>
    rw [e, bind_ok] at q
    intro H1 vs g1 r1
    have s1 := s.grow g1
    have ll := s1.slots.lsts
    refine ⟨O, ds, fun a ha => s1.there a (List.mem_append_left _ ha), r1, ?_⟩
    have hh : ∀ {H' : Hp}, hide (hide H' O) (owned σ ρ) = hide H' (O ++ owned σ ρ) := fun {H'} => by
      rw [hide_app]
      funext a
      unfold hide
      simp only [List.mem_append]
      congr 1
      rw [Or.comm]
    have lO : ∀ {H' : Hp}, Gr H1 H' → Lsts (hide H' O) (owned σ ρ) := fun {H'} g' a ha => by
      have naO : a ∉ O := fun z => s.old a z (s.new a ha)
      rw [hide_out naO]
      exact ll.grow g' a ha
    cases er : g ds with
    | ok d =>
      rw [er] at q
      unfold outF at q
      dsimp only at q
      split at q
      · rename_i fl
        exact fun H' v g' r' => q H' v (g1.trans g') (by rw [← hh]; exact r'.flat (lO g') fl)
      · exact q.elim
    | ex x =>
      rw [er] at q
      unfold outF at q
      dsimp only at q
      split at q
      · rename_i fl
        rintro H' c dd g' ⟨C, h1, h2, ⟨d, fs, h3, h4, h5⟩ | h3⟩
        · refine q H' c dd (g1.trans g') ⟨C, h1, h2, .inl ⟨d, fs, h3, ?_, by rw [← hh]; exact h5.flat (lO g') fl⟩⟩
          rw [← hh, hide_out fun z => by rcases lO g' d z with ⟨xs, w⟩ | ⟨xs, w⟩ | ⟨xs, w⟩ <;> (rw [h4] at w; cases w)]
          exact h4
        · exact q H' c dd (g1.trans g') ⟨C, h1, h2, .inr h3⟩
      · exact q.elim
    | bad =>
      rw [er] at q
      exact q

/-! ### own lists: append, x[k] = e -/
def sApp (i : Nat) (f : En → Rs PyData) : En → SRes := fun ρ => match ρ[i]? with
  | some (some (.own (.list ds))) => eS ρ (f ρ) fun d => if ds.length < mx then .nx (ρ.set i (some (.own (.list (ds ++ [d]))))) else .bad
  | _ => .bad
theorem own_list {K : PySem.W.Frag} {G H : Hp} {a : Addr} {ds : List PyData} (h : OwnR K G H a (.list ds)) : ∃ xs, H a = some (.lst xs) ∧ xs.length ≤ mx ∧ RpAll K G xs ds := by
  rcases h with ⟨xs, es, e, h2, h3, h4⟩ | ⟨xs, es, e, h2, h4⟩ | ⟨xs, es, e, h2, h4⟩
  · cases e; exact ⟨xs, h2, h3, h4⟩
  · cases e
  · cases e
theorem ds_app (i : Nat) {y : Str} {p1 p2 : Pos} {pos2 : Pos} (he : DE X W e f) (hN : X.N[i]? = some y := by rfl) (hv : Vis X.env.scope y := by first | exact Or.inl rfl | exact Or.inr (Or.inl rfl) | exact Or.inr (Or.inr rfl)) (hd : (y == ("__debug__" : Str)) = false := by decide)
    (hcd : (y == ("__classdict__" : Str)) = false := by decide) (hbase : attributeBase (.Name y p1) "append" X.env (eval (.Name y p1) X.env) = eval (.Name y p1) X.env := by rfl)
    (hfew : ((backTo pos (starEach (e :: []) X.env)).all (fun x => !x.1) && (backToKw pos (keywordEach [] X.env)).all (fun x => x.1.isSome)
      && decide ((e :: []).length + ([] : List Keyword).length + (if ([] : List Keyword).isEmpty then 0 else 1) < 30)) = true := by rfl)
    (hline : (p2.endLine == pos.line) = true := by rfl) (hs : starEach (e :: []) X.env = (false, eval e X.env) :: starEach [] X.env := by rfl) (hplain : (backTo pos (starEach [] X.env)).any (·.1) = false := by rfl)
    (hsw : swapsWith (.Call (.Attribute (.Name y p1) "append" p2) [e] [] pos) none pos2.line X.env = pure false := by rfl) :
    DS X W (.Expr (.Call (.Attribute (.Name y p1) "append" p2) [e] [] pos) pos2) (sApp i f) := by
  have h1 : PS X (.Expr (.Call (.Attribute (.Name y p1) "append" p2) [e] [] pos) pos2) (tDrop (tBM X.K "list" rAppend (tVar i) (tCons (tD X.K X.mg W f) tNil))) :=
    ps_expr (pe_bm PySem.F.plainAttrs_list PySem.F.slot_list_append PySem.F.type_list_append mt_append (pe_var hN hv hd hcd) (pa_cons he pa_nil hs) hbase hfew hline hs hplain) hsw
  exact
  PS.imp h1 fun D σ H ⟨ρ, O, H0, s, q⟩ => by
    unfold sApp at q
    split at q
    · rename_i ds ei
      obtain ⟨x, e1, a, e2, rp⟩ := s.slots.get ei
      subst e2
      obtain ⟨xs, hx, hl, rx⟩ := own_list rp
      refine ⟨.ref a, e1, .inl ⟨rfl, _, .inl (.inl hx)⟩, ρ, O, H0, s, SK.expr s q fun d H1 v s1 r1 q1 => ?_⟩
      obtain ⟨x, e1', a', e2', rp1⟩ := s1.slots.get ei
      rw [e1] at e1'
      cases e1'
      cases e2'
      obtain ⟨xs1, hx1, hl1, rx1⟩ := own_list rp1
      split at q1
      · rename_i hlt
        have hlt' : xs1.length < mx := by rw [rx1.length]; exact hlt
        refine ⟨a, xs1, v, rfl, rfl, hx1, by rw [← mx_line]; exact hlt', q1 σ _ (s1.change e1 ei (.inl ⟨_, _, rfl, upd_same, ?_, rx1.append (.cons r1 .nil)⟩))⟩
        rw [List.length_append]
        exact hlt'
      · exact q1.elim
    · exact q.elim
def sSetIx (i : Nat) (fk fe : En → Rs PyData) : En → SRes := fun ρ => match ρ[i]? with
  | some (some (.own (.list ds))) => eS ρ (fe ρ) fun d => eS ρ (fk ρ) fun k => match k with
    | .int k => (match ixN ds.length k with
      | some j => .nx (ρ.set i (some (.own (.list (ds.set j d)))))
      | none => .bad)
    | _ => .bad
  | _ => .bad

/-! ### list comprehensions -/
def WF : WX := fun _ _ _ _ => False
def wipeE (ρ : En) : List Nat → En
  | [] => ρ
  | v :: vs => (wipeE ρ vs).set v none
def lcL (τ : TgD) (tt : En → Rs Bool) (te : En → Rs PyData) : List PyData → En → Rs (List PyData)
  | [], _ => .ok []
  | d :: ds, ρ => match τ d ρ with
    | .ok ρ1 => (match tt ρ1 with
      | .ok true => (match te ρ1 with
        | .ok y => (lcL τ tt te ds ρ).bind fun r => .ok (y :: r)
        | _ => .bad)
      | .ok false => lcL τ tt te ds ρ
      | _ => .bad)
    | _ => .bad
/-- none of these slots holds an own object -/
def noOwn (ρ : En) (vs : List Nat) : Bool := vs.all fun v => match ρ[v]? with
  | some (some (.own _)) => false
  | _ => true
def lcD (vs : List Nat) (fi : En → Rs (List PyData)) (τ : TgD) (tt : En → Rs Bool) (te : En → Rs PyData) : En → Rs PyData := fun ρ => (fi ρ).bind fun ds =>
  if ds.length ≤ mx && noOwn ρ vs then (lcL τ tt te ds (wipeE ρ vs)).bind fun r => .ok (.list r) else .bad
theorem lcL_noex (τ : TgD) (tt : En → Rs Bool) (te : En → Rs PyData) : ∀ (ds : List PyData) (ρ : En) (e : Exn), lcL τ tt te ds ρ ≠ .ex e
  | [], _, _ => fun z => by cases z
  | d :: ds, ρ, e => by
    have ih := lcL_noex τ tt te ds ρ e
    unfold lcL
    split
    · split
      · split
        · intro z
          cases q : lcL τ tt te ds ρ with
          | ok r => rw [q] at z; cases z
          | ex x => rw [q] at z; cases z; exact ih q
          | bad => rw [q] at z; cases z
        · exact fun z => by cases z
      · exact ih
      · exact fun z => by cases z
    · exact fun z => by cases z
theorem lcL_len (τ : TgD) (tt : En → Rs Bool) (te : En → Rs PyData) : ∀ (ds : List PyData) (ρ : En) (r : List PyData), lcL τ tt te ds ρ = .ok r → r.length ≤ ds.length
  | [], _, _, h => by cases h; exact Nat.le_refl _
  | d :: ds, ρ, r, h => by
    unfold lcL at h
    split at h
    · split at h
      · split at h
        · cases q : lcL τ tt te ds ρ with
          | ok r' =>
            rw [q] at h
            cases h
            exact Nat.succ_le_succ (lcL_len τ tt te ds ρ r' q)
          | ex x => rw [q] at h; cases h
          | bad => rw [q] at h; cases h
        · cases h
      · exact Nat.le_succ_of_le (lcL_len τ tt te ds ρ r h)
      · cases h
    · cases h
/-- a target changes the slots is alone -/
def TgOk (is : List Nat) (τ : TgD) : Prop := ∀ d ρ ρ', τ d ρ = .ok ρ' → ∀ j, j ∉ is → ρ'[j]? = ρ[j]?
theorem tok_name (i : Nat) : TgOk [i] (τName i) := fun d ρ ρ' h j hj => by
  cases h
  rw [List.getElem?_set_ne (by intro e; apply hj; simp [e])]
theorem tok_names : ∀ (is : List Nat) (ds : List PyData) (ρ ρ' : En), τNames is ds ρ = .ok ρ' → ∀ j, j ∉ is → ρ'[j]? = ρ[j]?
  | [], [], _, _, h, _, _ => by cases h; rfl
  | [], _ :: _, _, _, h, _, _ => by cases h
  | _ :: _, [], _, _, h, _, _ => by cases h
  | i :: is, d :: ds, ρ, ρ', h, j, hj => by
    have := tok_names is ds _ ρ' h j fun z => hj (List.mem_cons_of_mem _ z)
    rw [this, List.getElem?_set_ne (by intro e; apply hj; simp [e])]
theorem tok_tup (is : List Nat) : TgOk is (τTup is) := fun d ρ ρ' h j hj => by
  unfold τTup at h
  split at h
  · split at h
    · exact tok_names is _ ρ ρ' h j hj
    · cases h
  · cases h
theorem wipe_get (σ : L2.St) : ∀ (vs : List Nat) (j : Nat), (wipe σ vs)[j]? = if j ∈ vs then (σ[j]?).map fun _ => none else σ[j]?
  | [], j => by simp [wipe]
  | v :: vs, j => by
    unfold wipe
    by_cases e : v = j
    · subst e
      rw [if_pos List.mem_cons_self]
      by_cases hl : v < (wipe σ vs).length
      · rw [List.getElem?_set_self hl]
        rw [wipe_length] at hl
        rw [List.getElem?_eq_getElem hl]
        rfl
      · rw [List.getElem?_eq_none (by simpa using hl)]
        rw [wipe_length] at hl
        rw [List.getElem?_eq_none (by omega)]
        rfl
    · rw [List.getElem?_set_ne e, wipe_get σ vs j]
      have : j ∈ v :: vs ↔ j ∈ vs := by simp [Ne.symm e]
      simp only [this]
theorem wipeE_get (ρ : En) : ∀ (vs : List Nat) (j : Nat), (wipeE ρ vs)[j]? = if j ∈ vs then (ρ[j]?).map fun _ => none else ρ[j]?
  | [], j => by simp [wipeE]
  | v :: vs, j => by
    unfold wipeE
    have hlen : ∀ vs : List Nat, (wipeE ρ vs).length = ρ.length := fun vs => by
      induction vs with
      | nil => rfl
      | cons v vs ih => unfold wipeE; rw [List.length_set, ih]
    by_cases e : v = j
    · subst e
      rw [if_pos List.mem_cons_self]
      by_cases hl : v < (wipeE ρ vs).length
      · rw [List.getElem?_set_self hl]
        rw [hlen] at hl
        rw [List.getElem?_eq_getElem hl]
        rfl
      · rw [List.getElem?_eq_none (by simpa using hl)]
        rw [hlen] at hl
        rw [List.getElem?_eq_none (by omega)]
        rfl
    · rw [List.getElem?_set_ne e, wipeE_get ρ vs j]
      have : j ∈ v :: vs ↔ j ∈ vs := by simp [Ne.symm e]
      simp only [this]
theorem SR.wipe {K : PySem.W.Frag} {O : List Addr} {H0 H : Hp} {σ : L2.St} {ρ : En} (s : SR K O H0 H σ ρ) : ∀ vs : List Nat, SR K O H0 H (L2.wipe σ vs) (wipeE ρ vs)
  | [] => s
  | v :: vs => (SR.wipe s vs).setN
theorem mem_owned {σ : L2.St} {ρ : En} {a : Addr} : a ∈ owned σ ρ ↔ ∃ (j : Nat) (d : PyData), σ[j]? = some (some (V.ref a)) ∧ ρ[j]? = some (some (SV.own d)) := by
  constructor
  · intro h
    induction σ generalizing ρ with
    | nil => simp [owned] at h
    | cons u σ ih =>
      cases ρ with
      | nil => simp [owned] at h
      | cons w ρ =>
        unfold owned at h
        split at h
        · rename_i b hb
          rcases List.mem_cons.mp h with e | e
          · subst e
            unfold own1 at hb
            split at hb
            · cases hb
              exact ⟨0, _, rfl, rfl⟩
            · cases hb
          · obtain ⟨j, d, h1, h2⟩ := ih e
            exact ⟨j + 1, d, by simpa using h1, by simpa using h2⟩
        · obtain ⟨j, d, h1, h2⟩ := ih h
          exact ⟨j + 1, d, by simpa using h1, by simpa using h2⟩
  · rintro ⟨j, d, h1, h2⟩
    exact owned_mem h1 h2
/-- within a block whose new list stands at D -/
theorem SR.block {K : PySem.W.Frag} {O : List Addr} {H0 H1 H' : Hp} {σ : L2.St} {ρ : En} {D : Addr} (s : SR K O H0 H1 σ ρ) (g : Gr H1 H') (hD : H1 D = none) (hD' : H' D ≠ none) : SR K (D :: O) (hide H' (owned σ ρ)) H' σ ρ := by
  have nD := s.fresh hD
  refine ⟨hide_sub, fun a h => hide_in h, s.nd, fun a h => ?_, s.slots.mono (fun b o e => ?_) fun a _ o e => g a o e⟩
  · rcases List.mem_cons.mp h with e | h
    · subst e
      rw [hide_out fun z => nD (List.mem_append_right _ z)]
      exact hD'
    · have n : a ∉ owned σ ρ := fun z => s.old a h (s.new a z)
      rw [hide_out n]
      exact (s.grow g).there a (List.mem_append_left _ h)
  · obtain ⟨nb, e'⟩ := hide_some e
    have ne : b ≠ D := ne_of_none e' hD
    rw [hide_out (by rw [List.cons_append, List.mem_cons, not_or]; exact ⟨ne, nb⟩)]
    exact g b o e'
theorem lc_go {K : PySem.W.Frag} {mg : Str → Option Value} {vs is : List Nat} {fi : En → Rs (List PyData)} {τ : TgD} {tt : En → Rs Bool} {te : En → Rs PyData} (hvs : ∀ j ∈ is, j ∈ vs) (hτ : TgOk is τ) {σ : L2.St} {H : Hp} {Q : VK}
    (q : tO K mg W (lcD vs fi τ tt te) σ H Q) : tLc (tI K mg W true fi) (tG K is τ) (tT K mg WF tt) (tD K mg WF te) vs σ H Q := by
  obtain ⟨ρ, O, H0, s, q⟩ := q
  refine ⟨ρ, O, H0, s, ?_⟩
  unfold lcD at q
  cases efi : fi ρ with
  | ex x => rw [efi] at q; exact q
  | bad => rw [efi] at q; exact q
  | ok ds =>
    rw [efi, bind_ok] at q
    intro J H1 g _ wk D hD
    have hchk : (decide (ds.length ≤ mx) && noOwn ρ vs) = true := by
      cases z : (decide (ds.length ≤ mx) && noOwn ρ vs) with
      | true => rfl
      | false =>
        rw [z, if_neg Bool.false_ne_true] at q
        exact q.elim
    rw [if_pos hchk] at q
    simp only [Bool.and_eq_true, decide_eq_true_eq] at hchk
    obtain ⟨hmx, hno⟩ := hchk
    cases el : lcL τ tt te ds (wipeE ρ vs) with
    | ex x => exact absurd el (lcL_noex τ tt te ds _ x)
    | bad => rw [el] at q; exact q.elim
    | ok r =>
      rw [el, bind_ok] at q
      have s1 := s.grow g
      have sw : SR K O H0 H1 (L2.wipe σ vs) (wipeE ρ vs) := s1.wipe vs
      -- the own objects are the same within the block
      have ow : ∀ a, a ∈ owned (L2.wipe σ vs) (wipeE ρ vs) → a ∈ owned σ ρ := fun a ha => by
        obtain ⟨j, d, h1, h2⟩ := mem_owned.mp ha
        rw [wipe_get] at h1
        rw [wipeE_get] at h2
        by_cases hj : j ∈ vs
        · rw [if_pos hj] at h1
          cases z : σ[j]? with
          | none => rw [z] at h1; cases h1
          | some u => rw [z] at h1; cases h1
        · rw [if_neg hj] at h1 h2
          exact mem_owned.mpr ⟨j, d, h1, h2⟩
      have keep : ∀ {σ' : L2.St} {ρ' : En} {d : PyData}, τ d (wipeE ρ vs) = .ok ρ' → But is (L2.wipe σ vs) σ' → ∀ a, a ∈ owned σ ρ → a ∈ owned σ' ρ' := fun {σ' ρ' d} et b a ha => by
        obtain ⟨j, d', h1, h2⟩ := mem_owned.mp ha
        have hj : j ∉ vs := fun z => by
          unfold noOwn at hno
          have := List.all_eq_true.mp hno j z
          rw [h2] at this
          cases this
        have hji : j ∉ is := fun z => hj (hvs j z)
        refine mem_owned.mpr ⟨j, d', ?_, ?_⟩
        · rw [b.2 j hji, wipe_get, if_neg hj, h1]
        · rw [hτ d _ ρ' et j hji, wipeE_get, if_neg hj, h2]
      let T : List Addr := D :: (O ++ owned σ ρ)
      let Pv : Nat → Hp → Prop := fun i H' => ∃ acc accD rest, H' D = some (.lst acc) ∧ RpAll K (hide H' T) acc accD ∧ acc.length ≤ i ∧ Gr H1 H' ∧ lcL τ tt te (ds.drop i) (wipeE ρ vs) = .ok rest ∧ accD ++ rest = r
      refine ⟨fun i m H' => m = ds.length - i ∧ i ≤ ds.length ∧ Pv i H', ⟨ds.length, by simp, Nat.zero_le _, [], [], r, upd_same, .nil, Nat.le_refl _, same_upd hD, el, rfl⟩, ?_⟩
      rintro i m H2 ⟨rfl, hi2, acc, accD, rest, hacc, racc, lacc, g2, erest, esum⟩
      by_cases hlt : i < ds.length
      · have ed : ds[i]? = some ds[i] := List.getElem?_eq_getElem hlt
        have edrop : ds.drop i = ds[i] :: ds.drop (i + 1) := by rw [List.drop_eq_getElem_cons hlt]
        obtain ⟨go, yl⟩ := (wk H2 g2 i).1 _ ed
        refine .inr ⟨go, Pv (i + 1), fun H' h => ⟨ds.length - (i + 1), by omega, rfl, hlt, h⟩, fun x H3 y => ?_⟩
        obtain ⟨rfl, rx⟩ := yl x H3 y
        have sb : SR K (D :: O) (hide H3 (owned (L2.wipe σ vs) (wipeE ρ vs))) H3 (L2.wipe σ vs) (wipeE ρ vs) := sw.block g2 hD (by rw [hacc]; exact fun z => by cases z)
        refine ⟨wipeE ρ vs, D :: O, _, ds[i], sb, rx.mono fun b o e => ?_, ?_⟩
        · obtain ⟨nb, e'⟩ := hide_some e
          have ne : b ≠ D := ne_of_none e' hD
          rw [hide_out (by
            rw [List.cons_append, List.mem_cons, not_or]
            exact ⟨ne, fun z => nb ((List.mem_append.mp z).elim (List.mem_append_left _) fun w => List.mem_append_right _ (ow b w))⟩)]
          exact g2 b o e'
        · rw [edrop] at erest
          unfold lcL at erest
          cases et : τ ds[i] (wipeE ρ vs) with
          | ex x => rw [et] at erest; cases erest
          | bad => rw [et] at erest; cases erest
          | ok ρ1 =>
            rw [et] at erest
            dsimp only at erest
            intro σ1 sr1 but
            refine ⟨?_, ρ1, D :: O, _, sr1, ?_⟩
            · apply List.ext_getElem?
              intro j
              rw [wipe_get, wipe_get]
              by_cases hj : j ∈ vs
              · rw [if_pos hj, if_pos hj]
                have hl : σ1.length = σ.length := by rw [but.1, wipe_length]
                by_cases hjl : j < σ.length
                · rw [List.getElem?_eq_getElem hjl, List.getElem?_eq_getElem (by omega)]
                  rfl
                · rw [List.getElem?_eq_none (by omega), List.getElem?_eq_none (by omega)]
              · rw [if_neg hj, if_neg hj, but.2 j fun z => hj (hvs j z), wipe_get, if_neg hj]
            · cases ett : tt ρ1 with
              | ex x => rw [ett] at erest; cases erest
              | bad => rw [ett] at erest; cases erest
              | ok bb =>
                rw [ett] at erest
                intro H4 g4
                cases bb with
                | false =>
                  rw [if_neg Bool.false_ne_true]
                  dsimp only at erest
                  exact ⟨acc, accD, rest, g4 _ _ hacc, racc.mono (hide_same _ g4), by omega, g2.trans g4, erest, esum⟩
                | true =>
                  rw [if_pos rfl]
                  dsimp only at erest
                  refine ⟨ρ1, D :: O, _, sr1.grow g4, ?_⟩
                  cases ete : te ρ1 with
                  | ex x => rw [ete] at erest; cases erest
                  | bad => rw [ete] at erest; cases erest
                  | ok yd =>
                    rw [ete] at erest
                    dsimp only at erest
                    intro H5 v g5 rv
                    cases erl : lcL τ tt te (ds.drop (i + 1)) (wipeE ρ vs) with
                    | ex x => rw [erl] at erest; cases erest
                    | bad => rw [erl] at erest; cases erest
                    | ok rest' =>
                      rw [erl] at erest
                      have e2 : rest = yd :: rest' := by
                        have := erest
                        simp only [bind_ok, Rs.ok.injEq] at this
                        exact this.symm
                      subst e2
                      have g45 := g4.trans g5
                      have hT : D ∈ T := List.mem_cons_self
                      have rvT : Rp K (hide H5 T) v yd := rv.mono (hide_less fun a ha => ?_)
                      refine ⟨acc, g45 _ _ hacc, by rw [← mx_line]; omega, acc ++ [v], accD ++ [yd], rest', upd_same, ?_, by rw [List.length_append]; exact Nat.succ_le_succ lacc, ?_, erl, by rw [List.append_assoc]; exact esum⟩
                      · rw [hide_upd hT]
                        exact (racc.mono (hide_same _ g45)).append (.cons rvT .nil)
                      · intro b o e
                        rw [upd_ne (ne_of_none e hD)]
                        exact g45 b o (g2 b o e)
                      · rcases List.mem_cons.mp ha with e | h
                        · subst e; exact List.mem_append_left _ List.mem_cons_self
                        · rcases List.mem_append.mp h with h | h
                          · exact List.mem_append_left _ (List.mem_cons_of_mem _ h)
                          · exact List.mem_append_right _ (keep et but a h)
      · have ei : i = ds.length := by omega
        subst ei
        rw [List.drop_length] at erest
        cases erest
        rw [List.append_nil] at esum
        subst esum
        exact .inl ⟨(wk H2 g2 _).2 (Nat.le_refl _), q H2 D (g.trans g2) (by
          cases z : H D with
          | none => rfl
          | some o => rw [g D o z] at hD; cases hD) (.inl ⟨acc, accD, rfl, hacc, by omega, racc⟩)⟩
end
end DL

namespace DL
open PySem PySem.Spec PyProof.Rows L2

section
variable {X : Cx} {W : WX} {a b c e : Expr} {fa fb fc f : En → Rs PyData} {pos p : Pos} {st : Stmt} {rest : List Stmt} {x : Str} {es : List Expr} {k : Nat} {g : List PyData → Rs PyData}
abbrev DTs (X : Cx) (W : WX) (ifs : List Expr) (t : En → Rs Bool) : Prop := PTs X ifs (tT X.K X.mg W t)
def tY : En → Rs Bool := fun _ => .ok true
theorem dts_nil : DTs X W [] tY := ⟨fun pins s σ H Q I ⟨ρ, O, H0, sr, q⟩ => pts_nil.run pins s σ H Q I (q H (Gr.refl H))⟩
theorem dts_one {t : En → Rs Bool} (h : DT X W c t) : DTs X W [c] t := pts_one h
section
variable {elt tg iter : Expr} {ifs : List Expr} {scope : Scope} {is : List Nat} {fi : En → Rs (List PyData)} {τ : TgD} {tt : En → Rs Bool} {te : En → Rs PyData}
theorem oe_lc (own : List (Str × Nat)) (hc : X.calm = true) (hN : X.N.Nodup) (hi : DI X W true tg iter fi) (ok : BlkOk X.N X.env.scope scope own)
    (hg : ∀ (s : Shared) (H : Hp) (C : Addr) (cl : List (Str × Addr)) (fp : List Addr), DG (X.blk s H scope (compEnvC scope cl C X.env) fp) tg is τ) (hτ : TgOk is τ)
    (ht : ∀ (s : Shared) (H : Hp) (C : Addr) (cl : List (Str × Addr)) (fp : List Addr), DTs (X.blk s H scope (compEnvC scope cl C X.env) fp) WF ifs tt)
    (he : ∀ (s : Shared) (H : Hp) (C : Addr) (cl : List (Str × Addr)) (fp : List Addr), DE (X.blk s H scope (compEnvC scope cl C X.env) fp) WF elt te) (hvs : ∀ j ∈ is, j ∈ own.map (·.2) := by decide) (hs : ∀ x, foldedSetIterable iter X.env x = pure x := by intro _; rfl) :
    OE X W (.ListComp elt [⟨tg, iter, ifs, 0⟩] scope pos) (lcD (own.map (·.2)) fi τ tt te) :=
  PE.imp (pe_lc hc hN hi ok hg ht he hs) fun σ H Q q => lc_go hvs hτ q
theorem ds_setLc (i : Nat) {y : Str} {py spos : Pos} (own : List (Str × Nat)) (hc : X.calm = true) (hN : X.N.Nodup) (hi : DI X W true tg iter fi) (ok : BlkOk X.N X.env.scope scope own)
    (hg : ∀ (s : Shared) (H : Hp) (C : Addr) (cl : List (Str × Addr)) (fp : List Addr), DG (X.blk s H scope (compEnvC scope cl C X.env) fp) tg is τ) (hτ : TgOk is τ)
    (ht : ∀ (s : Shared) (H : Hp) (C : Addr) (cl : List (Str × Addr)) (fp : List Addr), DTs (X.blk s H scope (compEnvC scope cl C X.env) fp) WF ifs tt)
    (he : ∀ (s : Shared) (H : Hp) (C : Addr) (cl : List (Str × Addr)) (fp : List Addr), DE (X.blk s H scope (compEnvC scope cl C X.env) fp) WF elt te)
    (hsw : swapsWith (.ListComp elt [⟨tg, iter, ifs, 0⟩] scope pos) (some (.Name y py)) spos.line X.env = pure true)
    (hy : X.N[i]? = some y := by rfl) (hyl : X.env.scope.names.lookup y = some .local := by rfl) (hvs : ∀ j ∈ is, j ∈ own.map (·.2) := by decide) (hs : ∀ x, foldedSetIterable iter X.env x = pure x := by intro _; rfl) :
    DS X W (.Assign [.Name y py] (.ListComp elt [⟨tg, iter, ifs, 0⟩] scope pos) spos) (sSetO i (lcD (own.map (·.2)) fi τ tt te)) :=
  PS.imp (ps_setLc hc hN hy hyl hsw hi ok hg ht he hs) fun D σ H ⟨ρ, O, H0, s, q⟩ => lc_go hvs hτ ⟨ρ, O, H0, s, SK.exprO s q fun d H1 a g s1 hn r1 q1 => q1 _ H1 (s.setO g hn r1)⟩
end

/-! ### further new lists -/
theorem RKO.grow {K : PySem.W.Frag} {mg : Str → Option Value} {O : List Addr} {σ : L2.St} {H H1 : Hp} {Q : VK} {r : Rs PyData} (g : Gr H H1) (h : RKO K mg W O σ H Q r) : RKO K mg W O σ H1 Q r := by
  cases r with
  | ok d => exact fun H2 a g2 hn => h H2 a (g.trans g2) (by
      cases z : H a with
      | none => rfl
      | some o => rw [g a o z] at hn; cases hn)
  | ex e => exact fun H' c dd g' => h H' c dd (g.trans g')
  | bad => exact h
theorem RKB.ofO {K : PySem.W.Frag} {mg : Str → Option Value} {O : List Addr} {σ : L2.St} {H : Hp} {Q Q' : VK} {r : Rs PyData} {k : PyData → Rs PyData} (h : RKO K mg W O σ H Q (r.bind k))
    (hk : ∀ d H1 v, Gr H H1 → RpB K O H1 v d → RKO K mg W O σ H1 Q (k d) → Q' v H1) : RKB K mg W O σ H Q' r := by
  cases r with
  | ok d => exact fun H' v g rp => hk d H' v g rp (RKO.grow g h)
  | ex e => exact h
  | bad => exact h
/-- list(x) -/
theorem oe_list (ha : BE X W a fa) (hm : X.mg "list" = none) (hg : Gl X "list" := by rfl)
    (he : starEach (a :: []) X.env = (false, eval a X.env) :: starEach [] X.env := by rfl) (hpl : (backTo pos (starEach [] X.env)).any (·.1) = false := by rfl) : OE X W (.Call (.Name "list" p) [a] [] pos) (b1 oList fa) :=
  PE.imp (pe_callTy call_list_of hg hm (by decide +kernel) (pa_cons ha pa_nil he) (by decide) (by decide) he hpl) fun σ H Q ⟨ρ, O, H0, s, q⟩ => ⟨ρ, O, H0, s, RKB.ofO q fun d H1 v g1 r1 q1 => by
    unfold oList at q1
    split at q1
    · obtain ⟨p, xs, rfl, hx, lx, rX⟩ := r1.list
      exact ⟨p, xs, rfl, .inl (.inl hx), fun l hl => q1.newL hl lx rX⟩
    · obtain ⟨p, xs, rfl, hx, lx, rX⟩ := r1.tuple
      exact ⟨p, xs, rfl, .inr hx, fun l hl => q1.newL hl lx rX⟩
    · exact q1.elim⟩
/-- list + list -/
def oAddL : PyData → PyData → Rs PyData
  | .list i, .list j => if i.length + j.length ≤ mx then .ok (.list (i ++ j)) else .bad
  | _, _ => .bad
def oMulL : PyData → PyData → Rs PyData
  | .list i, .int k => if decide (-4611686018427387904 ≤ k) && decide (k < 4611686018427387904) && decide (i.length * k.toNat ≤ mx) then .ok (.list (List.replicate k.toNat i).flatten) else .bad
  | _, _ => .bad
theorem oe_cat (ha : BE X W a fa) (hb : BE X W b fb) : OE X W (.BinOp a .Add b pos) (b2 oAddL fa fb) :=
  PE.imp (pe_op op_catR ha hb) fun σ H Q ⟨ρ, O, H0, s, q⟩ => ⟨ρ, O, H0, s, RKB.ofO q fun d H1 v g1 r1 q1 => ⟨ρ, O, H0, s.grow g1, RKB.ofO q1 fun e H2 u g2 r2 q2 => by
    unfold oAddL at q2
    split at q2
    · rename_i i j
      obtain ⟨p, xs, rfl, hx, lx, rX⟩ := r1.list
      obtain ⟨p', ys, rfl, hy, ly, rY⟩ := r2.list
      split at q2
      · rename_i hz
        have hz' : xs.length + ys.length ≤ mx := by rw [rX.length, rY.length]; exact hz
        exact ⟨p, p', xs, ys, rfl, rfl, Gr.rd g2 hx, hy, by rw [← mx_line]; exact hz', fun u hu => q2.newL hu (by rw [List.length_append]; exact hz') ((rX.mono (hide_same _ g2)).append rY)⟩
      · exact q2.elim
    · exact q2.elim⟩⟩
/-- list * int -/
theorem oe_rep (ha : BE X W a fa) (hb : BE X W b fb) : OE X W (.BinOp a .Mult b pos) (b2 oMulL fa fb) :=
  PE.imp (pe_op op_repR ha hb) fun σ H Q ⟨ρ, O, H0, s, q⟩ => ⟨ρ, O, H0, s, RKB.ofO q fun d H1 v g1 r1 q1 => ⟨ρ, O, H0, s.grow g1, RKB.ofO q1 fun e H2 u g2 r2 q2 => by
    unfold oMulL at q2
    split at q2
    · rename_i i k
      obtain ⟨p, xs, rfl, hx, lx, rX⟩ := r1.list
      cases r2.int
      split at q2
      · rename_i hc
        simp only [Bool.and_eq_true, decide_eq_true_eq] at hc
        obtain ⟨⟨h1, h2⟩, h3⟩ := hc
        refine ⟨p, k, xs, rfl, rfl, Gr.rd g2 hx, by omega, by omega, by rw [← mx_line, rX.length]; exact h3, fun u hu => q2.newL hu ?_ ((rX.mono (hide_same _ g2)).rep _)⟩
        rw [PyProof.Rows.lm_len_rep_flat, Nat.mul_comm, rX.length]
        exact h3
      · exact q2.elim
    · exact q2.elim⟩⟩

/-! ### slices -/
def PoD (K : PySem.W.Frag) (mg : Str → Option Value) (W : WX) (f : En → Rs (Option Int)) : TO := fun σ H Q => ∃ ρ O H0, SR K O H0 H σ ρ ∧ RKT K mg W (O ++ owned σ ρ) σ H Q (f ρ)
abbrev DO (X : Cx) (W : WX) (e : Option Expr) (f : En → Rs (Option Int)) : Prop := PO X e (PoD X.K X.mg W f)
theorem PO.imp {X : Cx} {e : Option Expr} {t t' : TO} (h : PO X e t) (i : ∀ σ H Q, t' σ H Q → t σ H Q) : PO X e t' := ⟨fun pins s σ H Q I q => h.run pins s σ H Q I (i σ H Q q)⟩
def pNo : En → Rs (Option Int) := fun _ => .ok none
def pSo (f : En → Rs PyData) : En → Rs (Option Int) := fun ρ => (f ρ).bind fun d => match d with
  | .int i => .ok (some i)
  | _ => .bad
theorem do_none : DO X W none pNo := PO.imp po_none fun σ H Q ⟨ρ, O, H0, s, q⟩ => q H (Gr.refl H)
theorem do_some (h : BE X W a fa) : DO X W (some a) (pSo fa) := PO.imp (po_some h) fun σ H Q ⟨ρ, O, H0, s, q⟩ => ⟨ρ, O, H0, s, RKB.ofT q fun d H1 v g r q1 => by
  cases d with
  | int i =>
    cases r.int
    exact ⟨i, rfl, q1 H1 (Gr.refl _)⟩
  | _ => exact q1.elim⟩
/-- xs[lo:hi] of data -/
def cutD {α : Type} (xs : List α) (lo hi : Option Int) : List α := (xs.drop (HT.sIx xs.length 0 lo)).take (HT.sIx xs.length xs.length hi - HT.sIx xs.length 0 lo)
theorem RpAll.cut {K : PySem.W.Frag} {H : Hp} {xs : List V} {ds : List PyData} (h : RpAll K H xs ds) (lo hi : Option Int) : RpAll K H (cutV xs lo hi) (cutD ds lo hi) := by
  unfold cutV cutD
  rw [h.length]
  exact (h.drop _).take _
def oCut (lo hi : Option Int) : PyData → Rs PyData
  | .list xs => .ok (.list (cutD xs lo hi))
  | .tuple xs => .ok (.tuple (cutD xs lo hi))
  | .str z => if z.length ≤ mx then .ok (.str (cutS z lo hi)) else .bad
  | _ => .bad
def dCut (f : En → Rs PyData) (flo fhi : En → Rs (Option Int)) : En → Rs PyData := fun ρ => (f ρ).bind fun d => (flo ρ).bind fun lo => (fhi ρ).bind fun hi => oCut lo hi d
def rSlR : V → Option Int → Option Int → Hp → VK → Prop := fun x lo hi H Q => ∃ a xs, x = .ref a ∧ Rd H a (.lst xs) ∧ ∀ p, H p = none → Q (.ref p) (upd H p (.lst (cutV xs lo hi)))
theorem sl_listR : SlR X rSlR := by
  intro pins s σ H x y v u lo hi sl Q I rx hs pl pu ⟨a, xs, e, hx, q⟩
  exact sl_list pins s σ H x y v u lo hi sl Q I rx hs pl pu ⟨a, xs, e, .inl hx, q⟩
theorem RKT.of2 {K : PySem.W.Frag} {mg : Str → Option Value} {O : List Addr} {σ : L2.St} {H : Hp} {Q : VK} {α : Type} {r : Rs α} {Q' : α → Hp → Prop} {k : α → Rs PyData} (h : RKO K mg W O σ H Q (r.bind k)) (hk : ∀ d H1, Gr H H1 → RKO K mg W O σ H1 Q (k d) → Q' d H1) : RKT K mg W O σ H Q' r := by
  cases r with
  | ok d => exact fun H' g => hk d H' g (RKO.grow g h)
  | ex e => exact h
  | bad => exact h
theorem cutV_mx {xs : List V} (h : xs.length ≤ mx) (lo hi : Option Int) : (cutV xs lo hi).length ≤ mx := Nat.le_trans (cutV_length xs lo hi) h
theorem cutV_all {xs : List V} {lo hi : Option Int} (h : HT.sIx xs.length 0 lo = 0 ∧ HT.sIx xs.length xs.length hi = xs.length) : cutV xs lo hi = xs := by
  unfold cutV
  rw [h.1, h.2, List.drop_zero, Nat.sub_zero, List.take_length]
theorem cutD_all {α : Type} {xs : List α} {lo hi : Option Int} (h : HT.sIx xs.length 0 lo = 0 ∧ HT.sIx xs.length xs.length hi = xs.length) : cutD xs lo hi = xs := by
  unfold cutD
  rw [h.1, h.2, List.drop_zero, Nat.sub_zero, List.take_length]
/-- a tuple's or a list's slice -/
theorem de_cut {lo hi : Option Expr} {flo fhi : En → Rs (Option Int)} {p2 : Pos} (ha : BE X W a fa) (hl : DO X W lo flo) (hh : DO X W hi fhi) : DE X W (.Subscript a (.Slice lo hi none p2) pos) (dCut fa flo fhi) :=
  PE.imp (pe_slice ((sl_listR.or sl_tupA).or sl_str) ha hl hh) fun σ H Q ⟨ρ, O, H0, s, q⟩ => ⟨ρ, O, H0, s, RKB.of q fun d H1 v g1 r1 q1 => ⟨ρ, O, H0, s.grow g1, RKT.of q1 fun l H2 g2 q2 => ⟨ρ, O, H0, (s.grow g1).grow g2, RKT.of q2 fun u H3 g3 q3 => by
    have r3 := (r1.grow g2).grow g3
    have th := (((s.grow g1).grow g2).grow g3).there
    unfold oCut at q3
    split at q3
    · obtain ⟨p, xs, rfl, hx, lx, rX⟩ := r3.list
      exact .inl (.inl ⟨p, xs, rfl, hx, fun q hq => q3.newL th hq (cutV_mx lx _ _) (rX.cut _ _)⟩)
    · have tX := r3.tupleRp
      obtain ⟨p, xs, rfl, hx, lx, rX⟩ := r3.tuple
      refine .inl (.inr ⟨p, xs, rfl, hx, fun h => ?_, fun h q hq => q3.newT th hq (cutV_mx lx _ _) (rX.cut _ _)⟩)
      rw [rX.length] at h
      rw [cutD_all h] at q3
      exact q3.here tX
    · rename_i z
      cases r3.str
      split at q3
      · rename_i hz
        exact .inr ⟨z, rfl, by rw [← mx_line]; exact hz, q3.here (.str _)⟩
      · exact q3.elim
    · exact q3.elim⟩⟩⟩
def oCutL (lo hi : Option Int) : PyData → Rs PyData
  | .list xs => .ok (.list (cutD xs lo hi))
  | _ => .bad
def dCutL (f : En → Rs PyData) (flo fhi : En → Rs (Option Int)) : En → Rs PyData := fun ρ => (f ρ).bind fun d => (flo ρ).bind fun lo => (fhi ρ).bind fun hi => oCutL lo hi d
theorem oe_cut {lo hi : Option Expr} {flo fhi : En → Rs (Option Int)} {p2 : Pos} (ha : BE X W a fa) (hl : DO X W lo flo) (hh : DO X W hi fhi) : OE X W (.Subscript a (.Slice lo hi none p2) pos) (dCutL fa flo fhi) :=
  PE.imp (pe_slice sl_listR ha hl hh) fun σ H Q ⟨ρ, O, H0, s, q⟩ => ⟨ρ, O, H0, s, RKB.ofO q fun d H1 v g1 r1 q1 => ⟨ρ, O, H0, s.grow g1, RKT.of2 q1 fun l H2 g2 q2 => ⟨ρ, O, H0, (s.grow g1).grow g2, RKT.of2 q2 fun u H3 g3 q3 => by
    have r3 := (r1.grow g2).grow g3
    unfold oCutL at q3
    split at q3
    · obtain ⟨p, xs, rfl, hx, lx, rX⟩ := r3.list
      exact ⟨p, xs, rfl, hx, fun q hq => q3.newL hq (cutV_mx lx _ _) (rX.cut _ _)⟩
    · exact q3.elim⟩⟩⟩

/-! ### range(a, b, c) -/
def rng3 (m n c : Int) : Rs (List PyData) := if decide (c ≠ 0) && decide (c.natAbs < 1073741824) && Builtin.Range.small m n c && decide (Builtin.Range.rangeSize m n c = ((Builtin.Range.rangeSize m n c).toNat : Int)) && decide ((Builtin.Range.rangeSize m n c).toNat ≤ 4611686018427387904) then
  .ok ((List.range (Builtin.Range.rangeSize m n c).toNat).map fun (k : Nat) => .int (m + (k : Int) * c)) else .bad
def iRange3 (f g h : En → Rs PyData) : En → Rs (List PyData) := fun ρ => (f ρ).bind fun d => (g ρ).bind fun e => (h ρ).bind fun k => match d, e, k with
  | .int m, .int n, .int c => rng3 m n c
  | _, _, _ => .bad
theorem wk_rangeC {K : PySem.W.Frag} {G P : Hp} (lo c : Int) (n : Nat) : Wk K G P (Itc lo c n) ((List.range n).map fun (k : Nat) => .int (lo + (k : Int) * c)) := fun H1 g i => by
  refine ⟨fun d e => ?_, fun h => ?_⟩
  · rw [List.getElem?_map] at e
    by_cases hi : i < n
    · rw [List.getElem?_range hi] at e
      cases e
      exact ⟨hi, fun x H2 ⟨e1, e2⟩ => ⟨e1, by rw [e2]; exact .int _⟩⟩
    · rw [List.getElem?_eq_none (by rw [List.length_range]; omega)] at e
      cases e
  · rw [List.length_map, List.length_range] at h
    exact h
theorem di_range3 {tg : Expr} (bb : Bool) (ha : BE X W a fa) (hb : BE X W b fb) (hcc : BE X W c fc) (hm : X.mg "range" = none) (hg : Gl X "range" := by rfl)
    (hs : starEach [a, b, c] X.env = (false, eval a X.env) :: starEach [b, c] X.env := by rfl) (hs2 : starEach [b, c] X.env = (false, eval b X.env) :: starEach [c] X.env := by rfl) (hs3 : starEach [c] X.env = (false, eval c X.env) :: starEach [] X.env := by rfl) (hpl : (backTo pos (starEach [b, c] X.env)).any (·.1) = false := by rfl) :
    DI X W bb tg (.Call (.Name "range" p) [a, b, c] [] pos) (iRange3 fa fb fc) :=
  PI.imp (pi_range3 hg hm (pa_cons ha (pa_cons hb (pa_cons hcc pa_nil hs3) hs2) hs) hs hpl) fun σ H R ⟨ρ, O, H0, s, q⟩ => ⟨ρ, O, H0, s, RKB.ofI q fun d H1 v g r1 q1 => ⟨ρ, O, H0, s.grow g, RKB.ofI q1 fun e H2 u g2 r2 q2 => ⟨ρ, O, H0, (s.grow g).grow g2, RKB.ofI q2 fun k H3 w g3 r3 q3 => by
    cases d with
    | int m =>
      cases e with
      | int n =>
        cases k with
        | int cc =>
          cases r1.int
          cases r2.int
          cases r3.int
          dsimp only at q3
          unfold rng3 at q3
          split at q3
          · rename_i h
            simp only [Bool.and_eq_true, decide_eq_true_eq] at h
            exact ⟨m, n, cc, _, rfl, ⟨h.1.1.1.1, h.1.1.1.2, h.1.1.2, h.1.2⟩, q3 _ H3 (Gr.refl _) (by rw [List.length_map, List.length_range]; exact h.2) (wk_rangeC m cc _)⟩
          · exact q3.elim
        | _ => exact q3.elim
      | _ => exact q3.elim
    | _ => exact q3.elim⟩⟩⟩

/-! ### a def denotes its body's function -/
def outS : SRes → Rs PyData
  | .ret d => .ok d
  | .nx _ => .ok .none
  | .ex e _ => .ex e
  | _ => .bad
def runF (n m : Nat) (body : En → SRes) (ds : List PyData) : Rs PyData := if ds.length = m then outS (body (ds.map (fun d => some (.val d)) ++ List.replicate (n - m) none)) else .bad
theorem slots_start {K : PySem.W.Frag} {G H : Hp} : ∀ {vs : List V} {ds : List PyData} (j : Nat), RpAll K G vs ds → SlotsR K G H (vs.map some ++ List.replicate j none) (ds.map (fun d => some (.val d)) ++ List.replicate j none)
  | _, _, 0, .nil => .nil
  | _, _, j + 1, .nil => .cons trivial (slots_start (vs := []) (ds := []) j .nil)
  | _, _, j, .cons r t => .cons ⟨_, rfl, r⟩ (slots_start j t)
theorem owned_start : ∀ (vs : List V) (ds : List PyData) (j : Nat), owned (vs.map some ++ List.replicate j none) (ds.map (fun d => some (SV.val d)) ++ List.replicate j none) = []
  | [], [], 0 => rfl
  | [], [], j + 1 => owned_start [] [] j
  | [], d :: ds, 0 => rfl
  | [], d :: ds, j + 1 => by
    show owned (none :: List.replicate j none) (some (SV.val d) :: _) = []
    unfold owned own1
    have := owned_none (ds.map (fun d => some (SV.val d)) ++ List.replicate (j + 1) none) j
    exact this
  | v :: vs, [], 0 => by cases vs <;> rfl
  | v :: vs, [], j + 1 => by
    show owned (some v :: _) (none :: _) = []
    unfold owned
    have e : own1 (some v) (none : Option SV) = none := by cases v <;> rfl
    rw [e]
    exact owned_noneR (vs.map some ++ List.replicate (j + 1) none) j
  | v :: vs, d :: ds, j => by
    show owned (some v :: _) (some (SV.val d) :: _) = []
    unfold owned
    have e : own1 (some v) (some (SV.val d)) = none := by cases v <;> rfl
    rw [e]
    exact owned_start vs ds j
where
  owned_none : ∀ (ρ : En) (j : Nat), owned (List.replicate j none) ρ = []
    | _, 0 => by unfold owned; rfl
    | [], j + 1 => by rw [List.replicate_succ]; unfold owned; rfl
    | y :: ρ, j + 1 => by rw [List.replicate_succ]; unfold owned own1; exact owned_none ρ j
  owned_noneR : ∀ (σ : L2.St) (j : Nat), owned σ (List.replicate j none) = []
    | [], j => by unfold owned; rfl
    | u :: σ, 0 => by unfold owned; rfl
    | u :: σ, j + 1 => by
      rw [List.replicate_succ]
      unfold owned
      have e : own1 u (none : Option SV) = none := by cases u with | none => rfl | some v => cases v <;> rfl
      rw [e]
      exact owned_noneR σ j
end
section
variable {P : Program} {w : World} {K : PySem.W.Frag} {mg : Str → Option Value} {base : Heap}
theorem fnok_mk {name : Str} {st : Stmt} {f : Addr} {fd : FuncData} {N ps : List Str} {k : Nat} {body : En → SRes} (F : Fun K name name st f fd) (S : FnScope N ps (defScope st))
    (hb : ∀ (cdv : Value) (A : Around) (outer : List Env) (s : Shared) (H : Hp) (E : XK), Room k (A.deeper (envOfC name (defScope st) s.heap.objs.size f cdv)) →
      Takes (cxOf (L2.CX P w) P w K mg base N name (defScope st) f cdv A outer s H E) (fun c d _ H => E c d H) → PassesOwn (model P w) (A.deeper (envOfC name (defScope st) s.heap.objs.size f cdv)) (envOfC name (defScope st) s.heap.objs.size f cdv) (cxOf (L2.CX P w) P w K mg base N name (defScope st) f cdv A outer s H E).xe →
      DSs (cxOf (L2.CX P w) P w K mg base N name (defScope st) f cdv A outer s H E) (fun c d _ H => E c d H) (defBody st) body) : FnOk P w K mg base (L2.CX P w) (k + 1) f fd ps (spD K mg (runF N.length ps.length body)) := by
  have hpl : ps.length ≤ N.length := by
    have := congrArg List.length S.pre
    rw [List.length_take] at this
    omega
  refine F.okX S (fun vs H Q E h => ?_) (fun cdv A outer s H vs Q E hr h => ⟨_, hb cdv A outer s H E hr (takes_of rfl rfl rfl rfl) PassesOwn.leaving, ?_⟩)
  · obtain ⟨O, ds, th, r, q⟩ := h
    rw [r.length]
    unfold runF at q
    split at q
    · assumption
    · exact q.elim
  · obtain ⟨O, ds, th, r, q⟩ := h
    unfold runF at q
    split at q
    · rename_i hl
      have el : vs.length = ps.length := by rw [r.length]; exact hl
      refine ⟨ds.map (fun d => some (.val d)) ++ List.replicate (N.length - ps.length) none, O, H, ⟨Gr.refl H, fun a h => ?_, ?_, th, ?_⟩, ?_⟩
      · unfold L2.start at h
        rw [el, owned_start] at h
        cases h
      · unfold L2.start
        rw [el, owned_start]
        exact List.nodup_nil
      · unfold L2.start
        rw [el, owned_start, List.append_nil]
        exact slots_start _ r
      · cases eb : body (ds.map (fun d => some (.val d)) ++ List.replicate (N.length - ps.length) none) with
        | ret d => rw [eb] at q; exact fun v H' g r' => q H' v g r'
        | nx ρ => rw [eb] at q; exact fun σ' H' s' => q H' .non s'.same .non
        | brk ρ => rw [eb] at q; exact q.elim
        | ct ρ => rw [eb] at q; exact q.elim
        | ex e ρ => rw [eb] at q; exact fun c dd σ' H' s' x => q H' c dd s'.same (x.mono (hide_less fun a ha => List.mem_append_left _ ha))
        | bad => rw [eb] at q; exact q.elim
    · exact q.elim
theorem fn_mk {name : Str} {st : Stmt} {f : Addr} {fd : FuncData} {N ps : List Str} {k : Nat} {body : En → SRes} (F : Fun K name name st f fd) (S : FnScope N ps (defScope st)) (bn : Binds K fd ps []) (hm : mg name = some (.ref f))
    (hb : ∀ (cdv : Value) (A : Around) (outer : List Env) (s : Shared) (H : Hp) (E : XK), Room k (A.deeper (envOfC name (defScope st) s.heap.objs.size f cdv)) →
      Takes (cxOf (L2.CX P w) P w K mg base N name (defScope st) f cdv A outer s H E) (fun c d _ H => E c d H) → PassesOwn (model P w) (A.deeper (envOfC name (defScope st) s.heap.objs.size f cdv)) (envOfC name (defScope st) s.heap.objs.size f cdv) (cxOf (L2.CX P w) P w K mg base N name (defScope st) f cdv A outer s H E).xe →
      DSs (cxOf (L2.CX P w) P w K mg base N name (defScope st) f cdv A outer s H E) (fun c d _ H => E c d H) (defBody st) body) : Fn P w K mg base (k + 1) name (runF N.length ps.length body) :=
  ⟨f, fd, ps, fnok_mk F S hb, hm, F.kp, bn⟩
/-- nothing is promised -/
theorem fn_zero {name : Str} {f : Addr} {fd : FuncData} {ps : List Str} {k : Nat} (kp : PySem.W.keepIn K (.ref f) = true) (bn : Binds K fd ps []) (hm : mg name = some (.ref f)) : Fn P w K mg base k name fun _ => .bad :=
  ⟨f, fd, ps, ⟨fun vs H Q E h => by obtain ⟨O, ds, th, r, q⟩ := h; exact q.elim, fun A outer s H args us vs Q E hr he hb hv h => by obtain ⟨O, ds, th, r, q⟩ := h; exact q.elim⟩, hm, kp, bn⟩

/-! ### the law's end -/
/-- what the law promises: True, for every script of at most 63 ints -/
def spL (K : PySem.W.Frag) : Sp := fun vs H Q _ => ∃ (a : Addr) (ns : List Int), vs = [.ref a] ∧ SqL K H a (ns.map V.int) ∧ ns.length ≤ 63 ∧ ∀ H', Q (.bl true) H'
/-- the script as data -/
abbrev scr (ns : List Int) : PyData := .dict [(.none, .list (ns.map PyData.int))]
theorem law_end {P : Program} {w : World} {K : PySem.W.Frag} {mg : Str → Option Value} {fa : Addr} {k : Nat} {g : List PyData → Rs PyData}
    (h : ∃ fd : FuncData, (∀ (s : Shared) (v : Value), BindsTo s fd ⟨[v], []⟩ [("script", v)]) ∧ ∀ base : Heap, K.In base → base.Ns mainGlobals mg → FnOk P w K mg base (L2.CX P w) k fa fd ["script"] (spD K mg g))
    (t : ∀ ns : List Int, ns.length ≤ 63 → g [scr ns] = .ok (.bool true)) :
    ∃ fd : FuncData, (∀ (s : Shared) (v : Value), BindsTo s fd ⟨[v], []⟩ [("script", v)]) ∧ ∀ base : Heap, K.In base → base.Ns mainGlobals mg → FnOk P w K mg base (L2.CX P w) k fa fd ["script"] (spL K) := by
  obtain ⟨fd, hb, hF⟩ := h
  refine ⟨fd, hb, fun base kb nb => (hF base kb nb).imp fun vs H Q E ⟨a, ns, e, hs, hl, q⟩ => ?_⟩
  subst e
  refine ⟨[], [scr ns], fun a h => (by cases h), .cons (.scr (by rw [hide_nil]; exact hs) (Nat.le_trans hl (by decide))) .nil, ?_⟩
  rw [t ns hl]
  intro H' v g' r
  cases r
  exact q H'
theorem cx_no {P : Program} {w : World} {outer : List Env} {H : Hp} {s : Shared} {e : Value} {s' : Shared} (h : L2.CX P w outer H s (fun _ _ _ => False) e s') : False := by
  obtain ⟨_, _, _, _, _, _, _, _, _, _, _, _, z⟩ := h
  exact z
end
end DL

namespace DL
open PySem PySem.Spec PyProof.Rows L2

section
variable {X : Cx} {W : WX} {a b c e : Expr} {fa fb fc f : En → Rs PyData} {pos p : Pos} {st : Stmt} {rest : List Stmt} {x : Str} {es : List Expr} {k : Nat} {g : List PyData → Rs PyData}
/-! ### x in c, for a list, a tuple, a text -/
def inOk (xs : List PyData) (d : PyData) : Bool := PyData.plainAll xs && d.plain && decide (min (PyData.depthAll xs) d.depth ≤ 60)
/-- one sign in a text -/
def signIn (z t : Str) : Bool := !(Builtin.Str.occurrences t z 0 t.length 1).isEmpty
def oIn : PyData → PyData → Rs PyData
  | d, .list xs => if inOk xs d then .ok (.bool (xs.any fun y => PyData.eqv y d)) else .bad
  | d, .tuple xs => if inOk xs d then .ok (.bool (xs.any fun y => PyData.eqv y d)) else .bad
  | .str z, .str t => .ok (.bool (signIn z t))
  | _, _ => .bad
def oNotIn : PyData → PyData → Rs PyData
  | d, .list xs => if inOk xs d then .ok (.bool (!xs.any fun y => PyData.eqv y d)) else .bad
  | d, .tuple xs => if inOk xs d then .ok (.bool (!xs.any fun y => PyData.eqv y d)) else .bad
  | .str z, .str t => .ok (.bool (!signIn z t))
  | _, _ => .bad
theorem inOk_of {xs : List PyData} {d : PyData} (h : inOk xs d = true) : PyData.plainAll xs = true ∧ d.plain = true ∧ min (PyData.depthAll xs) d.depth ≤ 60 := by
  unfold inOk at h
  simp only [Bool.and_eq_true, decide_eq_true_eq] at h
  exact ⟨h.1.1, h.1.2, h.2⟩
def rInP (K : PySem.W.Frag) (neg : Bool) : R2 := fun x y H Q => (∃ d xs, Dp K H x d ∧ (Dp K H y (.list xs) ∨ Dp K H y (.tuple xs)) ∧ inOk xs d = true ∧ Q (.bl (if neg then !(xs.any fun y => PyData.eqv y d) else xs.any fun y => PyData.eqv y d)) H) ∨
  (∃ i j, x = .str i ∧ y = .str j ∧ Q (.bl (if neg then !signIn i j else signIn i j)) H)
theorem op_inP (hu : X.A.units + 64 < cLine) : OpR X (compareOp .In) (rInP X.K false) := by
  intro pins s σ H x y v u Q I rx ry h
  rcases h with ⟨d, xs, hd, hx, ho, q⟩ | h
  · obtain ⟨h1, h2, h3⟩ := inOk_of ho
    obtain ⟨as, r1⟩ := Dp.reads I d x v hd rx
    rcases hx with hx | hx
    · obtain ⟨bs, r2⟩ := Dp.reads I _ y u hx ry
      exact SeqAt.in_list_data r2 r1 h1 h2 (by omega) ⟨.bl _, H, I, rfl, q⟩
    · obtain ⟨bs, r2⟩ := Dp.reads I _ y u hx ry
      exact SeqAt.in_tuple_data r2 r1 h1 h2 (by omega) ⟨.bl _, H, I, rfl, q⟩
  · exact op_in_str pins s σ H x y v u Q I rx ry h
theorem op_notInP (hu : X.A.units + 64 < cLine) : OpR X (compareOp .NotIn) (rInP X.K true) := by
  intro pins s σ H x y v u Q I rx ry h
  rcases h with ⟨d, xs, hd, hx, ho, q⟩ | h
  · obtain ⟨h1, h2, h3⟩ := inOk_of ho
    obtain ⟨as, r1⟩ := Dp.reads I d x v hd rx
    rcases hx with hx | hx
    · obtain ⟨bs, r2⟩ := Dp.reads I _ y u hx ry
      exact SeqAt.notIn_list_data r2 r1 h1 h2 (by omega) ⟨.bl _, H, I, rfl, q⟩
    · obtain ⟨bs, r2⟩ := Dp.reads I _ y u hx ry
      exact SeqAt.notIn_tuple_data r2 r1 h1 h2 (by omega) ⟨.bl _, H, I, rfl, q⟩
  · exact op_notin_str pins s σ H x y v u Q I rx ry h
theorem ok_in : Ok2 X (rInP X.K false) oIn := by
  intro W O σ H Q x y d e th rx ry q
  unfold oIn at q
  split at q
  · rename_i xs
    split at q
    · rename_i h
      obtain ⟨h1, h2, h3⟩ := inOk_of h
      exact .inl ⟨d, xs, rx.dp h2, .inl (ry.dp (by simpa [PyData.plain] using h1)), h, q.here (.bl _)⟩
    · exact q.elim
  · rename_i xs
    split at q
    · rename_i h
      obtain ⟨h1, h2, h3⟩ := inOk_of h
      exact .inl ⟨d, xs, rx.dp h2, .inr (ry.dp (by simpa [PyData.plain] using h1)), h, q.here (.bl _)⟩
    · exact q.elim
  · exact .inr ⟨_, _, rx.str, ry.str, q.here (.bl _)⟩
  · exact q.elim
theorem ok_notin : Ok2 X (rInP X.K true) oNotIn := by
  intro W O σ H Q x y d e th rx ry q
  unfold oNotIn at q
  split at q
  · rename_i xs
    split at q
    · rename_i h
      obtain ⟨h1, h2, h3⟩ := inOk_of h
      exact .inl ⟨d, xs, rx.dp h2, .inl (ry.dp (by simpa [PyData.plain] using h1)), h, q.here (.bl _)⟩
    · exact q.elim
  · rename_i xs
    split at q
    · rename_i h
      obtain ⟨h1, h2, h3⟩ := inOk_of h
      exact .inl ⟨d, xs, rx.dp h2, .inr (ry.dp (by simpa [PyData.plain] using h1)), h, q.here (.bl _)⟩
    · exact q.elim
  · exact .inr ⟨_, _, rx.str, ry.str, q.here (.bl _)⟩
  · exact q.elim

/-! ### a list, a tuple, a text, walked -/
def iAnyV (K : PySem.W.Frag) (tl : TE) : TI := fun σ H R => tl σ H fun x H1 => (∃ a, x = .ref a ∧ (∃ xs, SqL K H1 a xs) ∧ R (Itl K a) H1) ∨ (∃ a, x = .ref a ∧ (∃ xs, SqT K H1 a xs) ∧ R (Itt K a) H1) ∨ (∃ z, x = .str z ∧ R (Its z) H1)
theorem pi_any {tg l : Expr} {tl : TE} (hl : PE X l tl) : PI X tg l (iAnyV X.K tl) := by
  refine ⟨fun pins s σ H R I h => ?_⟩
  refine thn (hl.run pins s σ H _ I h) fun v s1 ⟨x, H1, I1, r1, q1⟩ => ?_
  rcases q1 with ⟨a, e, ⟨xs, hq⟩, q⟩ | ⟨a, e, ⟨xs, hq⟩, q⟩ | ⟨z, ex, q⟩
  · subst e
    cases r1
    obtain ⟨its, rv, p, hz⟩ := I1.list hq
    refine wpAny_pyIter_list p.isList ?_
    refine ⟨s1.heap.objs.size, [s1.heap.objs.size], _, _, H1, rfl, I1.kept (t' := s1.toks) fun b o e => Heap.get?_push_of_some _ e, turn_list a _, ⟨_, Heap.get?_push_size _ rfl, rfl, rfl⟩, fun b hb => ?_, q⟩
    have e : b = s1.heap.objs.size := by simpa using hb
    subst e
    exact I1.fpOk (Nat.le_refl _) (I1.hok.fresh (Nat.le_refl _))
  · subst e
    cases r1
    obtain ⟨its, rv, p, hz⟩ := I1.tuple hq
    refine wpAny_pyIter_tuple (show s1.heap.IsTuple a its.toArray from p) ?_
    refine ⟨s1.heap.objs.size, [s1.heap.objs.size], _, _, H1, rfl, I1.kept (t' := s1.toks) fun b o e => Heap.get?_push_of_some _ e, turn_tuple a _, ⟨_, Heap.get?_push_size _ rfl, rfl, rfl⟩, fun b hb => ?_, q⟩
    have e : b = s1.heap.objs.size := by simpa using hb
    subst e
    exact I1.fpOk (Nat.le_refl _) (I1.hok.fresh (Nat.le_refl _))
  · subst ex
    obtain ⟨t, rfl⟩ := r1
    cases ha : z.cps.all (· < 128)
    · exact wpAny_pyIter_wide ha (pi_one (tk := s1.toks) I1 _ (turn_str _ z t "str_iterator" (.inr rfl)) ⟨_, Heap.get?_push_size _ rfl, rfl, rfl⟩ q)
    · exact wpAny_pyIter_ascii ha (pi_one (tk := s1.toks) I1 _ (turn_str _ z t "str_ascii_iterator" (.inl rfl)) ⟨_, Heap.get?_push_size _ rfl, rfl, rfl⟩ q)
/-- what a walk over data gives -/
def oAny : PyData → Rs (List PyData)
  | .list ds => .ok ds
  | .tuple ds => .ok ds
  | .dict [(.none, .list ds)] => .ok ds
  | .str z => if z.length ≤ mx then .ok (z.cps.toList.map fun c => .str ⟨#[c]⟩) else .bad
  | _ => .bad
theorem wk_str {K : PySem.W.Frag} {G P : Hp} (z : Str) : Wk K G P (Its z) (z.cps.toList.map fun c => .str ⟨#[c]⟩) := fun H2 g2 i => by
  refine ⟨fun d e => ?_, fun h => ?_⟩
  · rw [List.getElem?_map] at e
    cases e2 : z.cps.toList[i]? with
    | none => rw [e2] at e; cases e
    | some c =>
      rw [e2] at e
      cases e
      have e3 : z.cps[i]? = some c := by rw [← Array.getElem?_toList]; exact e2
      refine ⟨(Array.getElem?_eq_some_iff.mp e3).1, fun x H3 ⟨e4, c', e5, e6⟩ => ⟨e4, ?_⟩⟩
      rw [e3] at e5
      cases e5
      subst e6
      exact .str _
  · rw [List.length_map, Array.length_toList] at h
    exact h
theorem di_any {tg : Expr} (h : DE X W e f) : DI X W false tg e (iOf oAny f) :=
  PI.imp (pi_any h) fun σ H R ⟨ρ, O, H0, s, q⟩ => ⟨ρ, O, H0, s, RK.ofI q fun d H1 v g r1 q1 => by
    unfold oAny at q1
    split at q1
    · cases r1 with
      | lst hl hz ra => exact .inl ⟨_, rfl, ⟨_, .inl (Gr.rd hide_sub hl)⟩, q1 _ H1 (Gr.refl _) (by rw [← ra.length]; exact mx62 hz) (wk_list (.inl hl) ra fun _ _ _ _ => trivial)⟩
    · cases r1 with
      | tup hl hz ra => exact .inr (.inl ⟨_, rfl, ⟨_, Gr.seqT hide_sub hl⟩, q1 _ H1 (Gr.refl _) (by rw [← ra.length]; exact mx62 hz) (wk_tup hl ra)⟩)
    · obtain ⟨a, is, rfl, rfl, hx, lx⟩ := RpB.scr (O := []) (H := hide H1 (O ++ owned σ ρ)) (.inl (by rw [hide_nil]; exact r1))
      exact .inl ⟨_, rfl, ⟨_, hide_sub.seq hx⟩, q1 _ H1 (Gr.refl _) (by rw [List.length_map]; exact mx62 lx) (wk_list hx (rpAll_ints is) fun _ _ _ _ => trivial)⟩
    · cases r1
      split at q1
      · rename_i z hz
        exact .inr (.inr ⟨z, rfl, q1 _ H1 (Gr.refl _) (by rw [List.length_map, Array.length_toList]; exact mx62 hz) (wk_str z)⟩)
      · exact q1.elim
    · exact q1.elim⟩
theorem di_anyB {tg : Expr} (h : BE X W e f) : DI X W true tg e (iOf oAny f) :=
  PI.imp (pi_any h) fun σ H R ⟨ρ, O, H0, s, q⟩ => ⟨ρ, O, H0, s, RKB.ofI q fun d H1 v g r1 q1 => by
    unfold oAny at q1
    split at q1
    · obtain ⟨a, xs, rfl, hl, hz, ra⟩ := r1.list
      exact .inl ⟨_, rfl, ⟨_, .inl hl⟩, q1 _ H1 (Gr.refl _) (by rw [← ra.length]; exact mx62 hz) (wk_list (.inl hl) ra fun _ _ _ _ => trivial)⟩
    · obtain ⟨a, xs, rfl, hl, hz, ra⟩ := r1.tuple
      exact .inr (.inl ⟨_, rfl, ⟨_, hl⟩, q1 _ H1 (Gr.refl _) (by rw [← ra.length]; exact mx62 hz) (wk_tup hl ra)⟩)
    · obtain ⟨a, is, rfl, rfl, hx, lx⟩ := r1.scr
      exact .inl ⟨_, rfl, ⟨_, hx⟩, q1 _ H1 (Gr.refl _) (by rw [List.length_map]; exact mx62 lx) (wk_list hx (rpAll_ints is) fun _ _ _ _ => trivial)⟩
    · cases r1.str
      split at q1
      · rename_i z hz
        exact .inr (.inr ⟨z, rfl, q1 _ H1 (Gr.refl _) (by rw [List.length_map, Array.length_toList]; exact mx62 hz) (wk_str z)⟩)
      · exact q1.elim
    · exact q1.elim⟩
end
/-! ### builtins by name -/
theorem bt_len : bootBuiltins "len" = some (.builtin "len") := by decide +kernel
theorem bt_int : bootBuiltins "int" = some (.type "int") := by decide +kernel
theorem bt_bool : bootBuiltins "bool" = some (.type "bool") := by decide +kernel
theorem bt_str : bootBuiltins "str" = some (.type "str") := by decide +kernel
theorem bt_tuple : bootBuiltins "tuple" = some (.type "tuple") := by decide +kernel
theorem bt_list : bootBuiltins "list" = some (.type "list") := by decide +kernel
theorem bt_min : bootBuiltins "min" = some (.builtin "min") := by decide +kernel
theorem bt_max : bootBuiltins "max" = some (.builtin "max") := by decide +kernel
theorem bt_sum : bootBuiltins "sum" = some (.builtin "sum") := by decide +kernel
theorem bt_sorted : bootBuiltins "sorted" = some (.builtin "sorted") := by decide +kernel
theorem bt_isinstance : bootBuiltins "isinstance" = some (.builtin "isinstance") := by decide +kernel
end DL

/-! DL10: texts. -/
namespace DL
open PySem PySem.Spec PyProof.Rows L2
def strsOf : List PyData → Option (List Str)
  | [] => some []
  | .str x :: ds => (strsOf ds).map (x :: ·)
  | _ => none
theorem strsOf_map (ys : List Str) : strsOf (ys.map .str) = some ys := by
  induction ys with
  | nil => rfl
  | cons y ys ih => rw [List.map_cons, strsOf, ih] <;> rfl
theorem strsOf_eq : ∀ {ds : List PyData} {ys : List Str}, strsOf ds = some ys → ds = ys.map .str
  | [], ys, h => by cases h; rfl
  | d :: ds, ys, h => by
    cases d with
    | str x =>
      rw [strsOf] at h
      cases e : strsOf ds with
      | none => rw [e] at h; cases h
      | some zs =>
        rw [e] at h
        cases h
        rw [strsOf_eq e]
        rfl
    | _ => cases h
def oJoin : PyData → PyData → Rs PyData
  | .str a, .list ds => match strsOf ds with
    | some ys => if (ys.map (·.length)).sum + ys.length * a.length ≤ mx then .ok (.str (Txt.join a ys)) else .bad
    | none => .bad
  | .str a, .tuple ds => match strsOf ds with
    | some ys => if (ys.map (·.length)).sum + ys.length * a.length ≤ mx then .ok (.str (Txt.join a ys)) else .bad
    | none => .bad
  | _, _ => .bad
/-- a method of a text: what is no text is not covered -/
def strM (op : PyData → PyData → Rs PyData) (fo fe : En → Rs PyData) : En → Rs PyData := fun ρ => (fo ρ).bind fun d => match d with
  | .str a => (fe ρ).bind fun e => op (.str a) e
  | _ => .bad
section
variable {X : Cx} {W : WX} {o e : Expr} {fo fe : En → Rs PyData} {apos pos : Pos}
theorem de_join (ho : BE X W o fo) (he : BE X W e fe) (hs : starEach [e] X.env = [(false, eval e X.env)] := by rfl) (hbase : attributeBase o "join" X.env (eval o X.env) = eval o X.env := by rfl) (hline : (apos.endLine == pos.line) = true := by rfl) :
    DE X W (.Call (.Attribute o "join" apos) [e] [] pos) (strM oJoin fo fe) :=
  PE.imp (pe_join ho he hs hbase hline) fun σ H Q ⟨ρ, O, H0, s, q⟩ => ⟨ρ, O, H0, s, RKB.of q fun d H1 v g1 r1 q1 => by
    cases d with
    | str a =>
      cases r1.str
      refine ⟨⟨a, rfl⟩, ρ, O, H0, s.grow g1, RKB.of q1 fun e H2 u g2 r2 q2 => ?_⟩
      unfold oJoin at q2
      split at q2
      · rename_i a' ds heq
        cases heq
        obtain ⟨p, xs, rfl, hx, lx, rX⟩ := r2.list
        split at q2
        · rename_i ys hy
          rw [strsOf_eq hy] at rX
          split at q2
          · rename_i hz
            have ex := rX.strs
            subst ex
            exact ⟨a, p, ys, rfl, rfl, .inl (.inl hx), hz, q2.here (.str _)⟩
          · exact q2.elim
        · exact q2.elim
      · rename_i a' ds heq
        cases heq
        obtain ⟨p, xs, rfl, hx, lx, rX⟩ := r2.tuple
        split at q2
        · rename_i ys hy
          rw [strsOf_eq hy] at rX
          split at q2
          · rename_i hz
            have ex := rX.strs
            subst ex
            exact ⟨a, p, ys, rfl, rfl, .inr hx, hz, q2.here (.str _)⟩
          · exact q2.elim
        · exact q2.elim
      · exact q2.elim
    | _ => exact q1.elim⟩
end
end DL

/-! DE1: an own exception's __init__ that says super().__init__('..') and then keeps its fields. -/
namespace DL
open PySem PySem.Spec PyProof.Rows L2 PySem.W
/-- what the written part says of such an __init__ -/
structure InitK (P : Program) (K : PySem.W.Frag) (mg : Str → Option Value) (C : Addr) (F : NdefX.NF) (fI cc : Addr) (fd : FuncData) : Prop where
  fn : ∃ oc od osl, K.lookup fI = some ⟨oc, od, .func fd, osl⟩
  fdq : ∃ dV kV doc pm an ct, fd = PySem.W.fnX F.name F.qual F.params F.body F.scope F.cl dV kV doc pm an (.ref F.c) ct
  cl : F.cl = [(("__class__" : Str), cc)]
  code : PySem.W.codeIn K (.ref F.c) F.qual = true
  file : ∃ c d vs sl file tf, K.lookup F.c = some ⟨c, d, .fields vs, sl⟩ ∧ vs[2]? = some (.str file tf) ∧ ((P.main.file : Str) == file) = true
  cell : ∃ c d sl, K.lookup cc = some ⟨c, d, .cell (some (.ref C)), sl⟩
  sup : mg "super" = none
  top : (P.main.scope.names.lookup ("super" : Str)).isSome = false
  noc : PySem.W.nsIn K cStatics "thirdparty.any" = some none
  above : PySem.W.ks_superIn K C C "__init__" = some (some (.builtin "ValueError.__init__"))
  sub : PySem.W.mroIn K C (.ref C) = some true
  ve : PySem.W.subIn K (.ref C) (.type "ValueError") = some true
section
open PySem.W
variable {prog : Program} {w : World} {M : Model} {A : Around} {E : Value → Shared → Prop} {h : Heap} {g : Array GenState} {d : Drawn} {t : Nat} {os : OsState} {s : Shared}
/-- the built-in __init__, bound, called -/
theorem call_mw {C t0 u x : Addr} {nm q : Str} {N : Addr} {bs bm : List Value} {hdct : Bool} {sn : List Str} {sub : List Value} {ab : Bool} {col : Option Bool} {dd : Option Addr} {k0 k1 k2 k3 k5 : Option Value} {rest : List Value} {Q : Value → Shared → Prop}
    (hC : h.get? C = some (excClassObj nm q C N bs bm hdct sn sub ab col dd k0 k1 k2 k3 k5 "ValueError.__new__")) (hu : h.get? u = some (kxs_mw "ValueError.__init__" x)) (he : h.get? x = some (PySem.HandSPX.excO C t0)) (hz : rest.length ≤ sizeLine)
    (fin : ∀ h' t1, (∀ b o, b ≠ x → h.get? b = some o → h'.get? b = some o) → h'.get? x = some (PySem.HandSPX.excO C t1) → Q .none ⟨h', g, d, t, os⟩) :
    wpAny (model prog w) A (call (.ref u) rest) Q E ⟨h, g, d, t, os⟩ := by
  refine wpAny_call (codeAny_of_tree ?_)
  show wpAny _ A.in1 (callAny (.ref u) ⟨rest, []⟩) _ _ _
  simp only [callAny]
  refine wpAny_bind (wpAny_load hu ?_)
  simp only [kxs_mw, show (Value.type "method-wrapper" == Value.type "method" || Value.type "method-wrapper" == Value.type "builtin_function_or_method" || Value.type "method-wrapper" == Value.type "method-wrapper") = true by decide, if_true]
  refine KFB.if_so (by decide) ?_
  refine wpAny_bind (check_bound_init F.excBase_ValueError.toExcCallFacts hC he rfl ?_)
  refine wpAny_bind (wpAny_pure (wpAny_pure ?_))
  refine ⟨plainId_quiet F.excBase_ValueError.init.plain _, codeAny_builtin F.excBase_ValueError.initEntry ?_⟩
  exact exc_init_tree (cls := .ref C) (t0 := t0) (dv := none) (c2 := .none) (c3 := .none) (b4 := .bool false) he hz fun h' k hx _ => fin h' _ k hx
end
section
variable {P : Program} {w : World} {K : PySem.W.Frag} {mg : Str → Option Value} {base : Heap} {N ps : List Str} {F : NdefX.NF} {fI C cc : Addr} {k j : Nat} {sp : Sp} {p0 p1 p2 p3 p4 p5 : Pos} {m : Str} {rest : List Stmt} {CX : CXT}
theorem fn_init {fd : FuncData} (T : OexC K C) (I0 : InitK P K mg C F fI cc fd) (hbd : F.body = .Expr (.Call (.Attribute (.Call (.Name "super" p0) [] [] p1) "__init__" p2) [.Constant (.str m) j p3] [] p4) p5 :: rest)
    (S : NdefX.NScope N ps ["__class__"] F.scope) (hsc : F.scope.names.lookup ("super" : Str) = some .globalImplicit) (hp : ∃ ar, (F.params.posonlyargs ++ F.params.args).head? = some ar ∧ ps[0]? = some ar.arg)
    (len : ∀ vs H Q E, sp vs H Q E → vs.length = ps.length) (self : ∀ vs H Q E, sp vs H Q E → ∃ a ws, vs = .ref a :: ws ∧ H a = some (exo a C none))
    (hbody : ∀ (A : Around) (outer : List Env) (s : Shared) (H : Hp) (vs : List V) (Q : VK) (E : XK), Room k (A.deeper (NdefX.envF F fI s.heap.objs.size)) → sp vs H Q E →
      ∃ t, PSs (NdefX.ncx CX P w K mg base N F fI A outer s H E) rest t ∧ t { nx := fun _ H' => Q .non H', rt := Q } (NdefX.startF N vs [none]) H)
    (he : ∀ env : Env, ∃ pl : Sem Bool, eval (.Call (.Attribute (.Call (.Name "super" p0) [] [] p1) "__init__" p2) [.Constant (.str m) j p3] [] p4) env = (do
      let ov ← attributeBase (.Call (.Name "super" p0) [] [] p1) "__init__" env (eval (.Call (.Name "super" p0) [] [] p1) env)
      standAt p2.atName
      let (f, first) ← holding [ov] (getMethod ov "__init__" pl)
      callWith p4 f first (backTo p4 (starEach [.Constant (.str m) j p3] env)) []))
    (hsw : ∀ env : Env, swapsWith (.Call (.Attribute (.Call (.Name "super" p0) [] [] p1) "__init__" p2) [.Constant (.str m) j p3] [] p4) none p5.line env = pure false) :
    FnOk P w K mg base CX (k + 1) fI fd ps sp := by
  refine ⟨len, fun A outer s H args us vs Q E hr e0 hb r hsp => ?_⟩
  have hl := len _ _ _ _ hsp
  obtain ⟨oc, od, osl, lk⟩ := I0.fn
  obtain ⟨dV, kV, doc, pm, an, ct, rfl⟩ := I0.fdq
  have KX : K.In s.heap := e0.mod.kin.keeps fun b o e => (e0.bs b o e).1
  have lim : s.heap.NoLimit := e0.mod.nolimit.keeps fun b o e => (e0.bs b o e).1
  obtain ⟨a, ws, rfl, ha⟩ := self _ _ _ _ hsp
  obtain ⟨nm, q, Nc, bs, bm, sn, sub, ab, col, dd, k0, k1, k2, k3, k5, hC, hbm⟩ := T.cls
  obtain ⟨cc1, cd1, sl1, lkc⟩ := I0.cell
  refine ks_codeAny_call_defAt (body := F.body) (binds := ps.zip us) hr.depth (KX _ _ lk) rfl lim (PySem.W.codeRec_of KX I0.code) rfl hb S.nocell (fun y hy => S.par y.1 (List.of_mem_zip hy).1) (fun h₁ hns kp => ?_) S.co S.gen S.kind
  have hCA : NdefX.CellsAt F.cl ["__class__"] [none] s.heap H := by
    rw [I0.cl]
    refine ⟨rfl, fun y c e => ?_, fun x y c e1 e2 => ?_, fun i y e => ?_⟩
    · have hc : c = cc := by
        simp only [List.lookup] at e
        split at e
        · exact (Option.some.inj e).symm
        · cases e
      subst hc
      have b1 := e0.mod.kin _ _ lkc
      exact ⟨(e0.bs _ _ b1).2, some (.ref C), _, KX _ _ lkc, rfl⟩
    · have hx : x = "__class__" := by
        simp only [List.lookup] at e1
        split at e1
        · rename_i h1; exact beq_iff_eq.mp h1
        · cases e1
      have hy : y = "__class__" := by
        simp only [List.lookup] at e2
        split at e2
        · rename_i h1; exact beq_iff_eq.mp h1
        · cases e2
      rw [hx, hy]
    · cases i with
      | zero =>
        simp at e
        subst e
        exact ⟨cc, by simp [List.lookup], fun v z => by simp at z⟩
      | succ i => simp at e
  have I : Inv (NdefX.ncx CX P w K mg base N F fI A outer s H E) [] (NdefX.startF N (.ref a :: ws) [none]) H { s with heap := h₁, toks := s.toks + (ps.zip us).length } := NdefX.inv_startN S hr.hd e0 hl r hCA hns kp
  obtain ⟨t, ht, hq⟩ := hbody A outer s H (.ref a :: ws) Q E (hr.deeper _) hsp
  have fin : ∀ {s' : Shared} {σ' : L2.St} {H' : Hp} {v : V} {u : Value}, Inv (NdefX.ncx CX P w K mg base N F fI A outer s H E) [] σ' H' s' → L2.RelV v u → Q v H' → CE outer P w H s Q u s' :=
    fun {s' σ' H' v u} J rv q => ⟨v, H', J.os, J.bare, J.base, J.hok, rv, q⟩
  -- the rest
  have go : ∀ s1, Inv (NdefX.ncx CX P w K mg base N F fI A outer s H E) [] (NdefX.startF N (.ref a :: ws) [none]) H s1 →
      wpAny (model P w) (A.deeper (NdefX.envF F fI s.heap.objs.size)) (execs rest (NdefX.envF F fI s.heap.objs.size)) (fun f s' => CR CX outer P w H s Q E (.ok (.ret (match f with | .ret v => v | _ => .none))) s')
        (fun e s' => wpAny (model P w) (A.deeper (NdefX.envF F fI s.heap.objs.size)) (leaving (NdefX.envF F fI s.heap.objs.size) e) (fun _ s'' => CR CX outer P w H s Q E (.error e) s'') (fun e' s'' => CR CX outer P w H s Q E (.error e') s'') s') s1 := fun s1 J => by
    refine wpAny_mono (ht.run [] s1 _ H _ J hq) (fun fl s' hs => ?_) fun e s' hs => hs
    cases fl with
    | ret u =>
      obtain ⟨v, σ', H', J, rv, q⟩ := hs
      exact fin J rv q
    | next =>
      obtain ⟨σ', H', J, q⟩ := hs
      exact fin (v := V.non) (u := Value.none) J rfl q
    | brk =>
      obtain ⟨_, _, _, q⟩ := hs
      exact False.elim q
    | cont =>
      obtain ⟨_, _, _, q⟩ := hs
      exact False.elim q
  rw [hbd] at lk ⊢
  obtain ⟨pl, hev⟩ := he (NdefX.envF F fI s.heap.objs.size)

  have KX1 : K.In h₁ := KX.keeps kp
  have hC1 := KX1 _ _ hC
  obtain ⟨t1, hx1⟩ := exo_at I.hok ha
  obtain ⟨ar, har, hps⟩ := hp
  obtain ⟨ccl, cdd, vsc, csl, file, tf, lkf, hvs, hfile⟩ := I0.file
  have hus0 : ∃ u0 ur, us = u0 :: ur ∧ u0 = .ref a := by
    cases r with
    | cons r0 r1 => exact ⟨_, _, rfl, r0⟩
  obtain ⟨u0, ur, rfl, rfl⟩ := hus0
  have hself : (ps.zip (Value.ref a :: ur)).reverse.lookup ar.arg = some (.ref a) := by
    have ndP : ps.Nodup := by
      have q := S.nd.sublist (List.take_sublist (ps.length + (["__class__"] : List Str).length) N)
      rw [S.pre] at q
      exact (List.nodup_append.mp q).1
    exact NdefX.zip_look ndP hps rfl
  have hka : F.scope.names.lookup ar.arg = some .local := S.par _ (List.mem_of_getElem? hps)
  have hkc : F.scope.names.lookup ("__class__" : Str) = some .free := S.frk _ (List.mem_singleton.mpr rfl)
  have hboot : bootBuiltins "super" = some (.type "super") := by decide +kernel
  have hcl : clsIn K C = some { name := nm, bases := bs, mro := .ref C :: bm, ns := Nc, qualname := q, hasDict := true, slotNames := sn, subclasses := sub, abstract := ab, collection := col, hasDel := false } := by unfold clsIn; rw [hC] <;> rfl
  refine ks_wpAt_execs_cons (ks_wpAt_Expr_any (ks_wpAt_MethodCall (pl := pl) (ks_wpAt_super_base (f := fI) (cc := F.c) hsc hkc (by decide) rfl (KX1 _ _ lk) rfl har rfl (KX1 _ _ lkf) rfl hvs hfile I0.top ?_) hev) (by unfold interactive; show (F.scope.kind == _ && _) = false; rw [S.kind]; rfl) (hsw _))
  obtain ⟨mb, hb1, hb2⟩ := e0.mod.blt
  have kb : ∀ b o, base.get? b = some o → h₁.get? b = some o := fun b o e => kp b o (e0.bs b o e).1
  refine ks_loadName_global S.kind hsc (Calls.loadGlobal_builtin (e0.mod.glob.keeps kb) I0.sup (hb1.keeps kb) ((hb2 _ (by decide)).trans hboot) ⟨rfl, ?_⟩)
  refine wpAny_loadName_free S.kind hkc (by show F.cl.lookup _ = _; rw [I0.cl]; rfl) ⟨_, KX1 _ _ lkc, rfl⟩ ?_
  refine wpAny_loadName_local S.kind hka hns hself ?_
  refine ks_wpAny_isType_cls hC1 rfl ⟨rfl, ?_⟩
  refine ks_wpAny_call_super hC1 rfl hx1 rfl (fun c e => by cases e) (looks_mroIn KX1 I0.sub) (fun h2 eso k2 => ?_)
  -- __init__ of what stands above
  have KX2 : K.In h2 := KX1.keeps k2
  have hx2 := k2 _ _ hx1
  have IA : InstAt h2 a { cls := .ref C, dict := none, data := .fields #[.ref t1, .none, .none, .none, .bool false, .none] } C none := ⟨hx2, rfl, rfl, trivial⟩
  have hI : Looks (model P w) h2 (isInstance (.ref a) (.type "ValueError")) true := IA.type.andThen (looks_subIn KX2 I0.ve)
  have habove := I0.above
  unfold ks_superIn at habove
  rw [hcl] at habove
  refine kxs_getMethod kxs_ValueError eso (looks_opaque KX2 I0.noc) (l₀ := _) (fun A Q E s k q => wpAny_bind ((looks_clsIn KX2 hcl) A _ E s k (wpAny_pure q))) rfl KX2 habove hI (ks_ne KX2 IA hcl) (by decide) ?_
  have hu3 : (h2.push (kxs_mw "ValueError.__init__" a)).get? h2.objs.size = some (kxs_mw "ValueError.__init__" a) := Heap.get?_push_at rfl rfl
  refine kxs_callWith (i := "ValueError.__init__") (x := a) rfl ?_
  refine Calls.evalArgs_plain (Calls.spliced_cons (Calls.Constant_str (k := j) (pos := p3) (Calls.spliced_nil ⟨hu3, ?_⟩)))
  have KX3 : K.In (h2.push (kxs_mw "ValueError.__init__" a)) := KX2.keeps fun b o e => Heap.get?_push_of_some _ e
  refine call_mw (KX3 _ _ hC) hu3 (Heap.get?_push_of_some _ hx2) (by rw [sizeLine_eq]; simp) (fun h4 t4 k4 hx4 => ?_)
  refine wpAt_of_wpAny (go _ ?_)
  have J := I.write (t' := 0) (h' := h4) (x := a) (e := a) (o := exo a C none) (by rw [ha]; exact True.intro) (.inl rfl) (fun b o hb e => k4 b o hb (Heap.get?_push_of_some _ (k2 _ _ e))) ⟨_, hx4⟩ (exo_ok hx4)
  have eu : upd H a (exo a C none) = H := by
    funext b
    by_cases hb : b = a
    · rw [hb, upd_same, ha]
    · rw [upd_ne hb]
  rw [eu] at J
  exact J.tok _
end
end DL

/-! DE2: raise. -/
namespace DL
open PySem PySem.Spec PyProof.Rows L2
/-- what such an __init__ does: the fields are kept, one behind another -/
def spI (C : Addr) (fns : List Str) : Sp := fun vs H Q _ => ∃ a ws, vs = .ref a :: ws ∧ ws.length = fns.length ∧ H a = some (exo a C none) ∧
  (fns = [] → Q .non H) ∧ (fns ≠ [] → ∀ d H2, H d = none → d ≠ a → H2 a = some (exo a C (some d)) → H2 d = some (exd d (fns.zip ws).reverse) → (∀ b, b ≠ a → b ≠ d → H2 b = H b) → Q .non H2)
section
variable {X : Cx} {C : Addr} {p1 p2 p3 p4 q1 q2 q3 q4 : Pos} {s0 f1 f2 x1 x2 : Str}
/-- one field -/
theorem init_one (N0 : X.N[0]? = some s0) (N1 : X.N[1]? = some x1) (v0 : Vis X.env.scope s0) (v1 : Vis X.env.scope x1) (T : OexC X.K C) (h1 : PySem.W.findIn X.K (.ref C) f1 = some none)
    (d0 : (s0 == ("__debug__" : Str)) = false := by decide) (c0 : (s0 == ("__classdict__" : Str)) = false := by decide) (d1 : (x1 == ("__debug__" : Str)) = false := by decide) (c1 : (x1 == ("__classdict__" : Str)) = false := by decide) :
    PSs X [.Assign [.Attribute (.Name s0 p1) f1 p2] (.Name x1 p3) p4] (tOst X.K f1 (tVar 0) (tVar 1)) := pss_one (ps_ost (pe_var N0 v0 d0 c0) (pe_var N1 v1 d1 c1))
theorem init_one_q {K : PySem.W.Frag} {a : Addr} {v : V} {r : L2.St} {H : Hp} {D : Ends} {Q : VK} (T : OexC K C) (h1 : PySem.W.findIn K (.ref C) f1 = some none) (ha : H a = some (exo a C none))
    (hD : ∀ σ H', D.nx σ H' = Q .non H') (q : ∀ d H2, H d = none → d ≠ a → H2 a = some (exo a C (some d)) → H2 d = some (exd d [(f1, v)]) → (∀ b, b ≠ a → b ≠ d → H2 b = H b) → Q .non H2) :
    tOst K f1 (tVar 0) (tVar 1) D (some (.ref a) :: some v :: r) H := by
  refine ⟨v, rfl, .ref a, rfl, a, C, rfl, T, h1, .inl ⟨ha, fun dx hn ne => ?_⟩⟩
  rw [hD]
  exact q dx _ hn ne upd_same (by rw [upd_ne ne, upd_same]) fun b n1 n2 => by rw [upd_ne n1, upd_ne n2]
theorem init_two (N0 : X.N[0]? = some s0) (N1 : X.N[1]? = some x1) (N2 : X.N[2]? = some x2) (v0 : Vis X.env.scope s0) (v1 : Vis X.env.scope x1) (v2 : Vis X.env.scope x2) (T : OexC X.K C)
    (d0 : (s0 == ("__debug__" : Str)) = false := by decide) (c0 : (s0 == ("__classdict__" : Str)) = false := by decide) (d1 : (x1 == ("__debug__" : Str)) = false := by decide) (c1 : (x1 == ("__classdict__" : Str)) = false := by decide)
    (d2 : (x2 == ("__debug__" : Str)) = false := by decide) (c2 : (x2 == ("__classdict__" : Str)) = false := by decide) :
    PSs X [.Assign [.Attribute (.Name s0 p1) f1 p2] (.Name x1 p3) p4, .Assign [.Attribute (.Name s0 q1) f2 q2] (.Name x2 q3) q4] (tSeq (tOst X.K f1 (tVar 0) (tVar 1)) (tOst X.K f2 (tVar 0) (tVar 2))) :=
  pss_cons (ps_ost (pe_var N0 v0 d0 c0) (pe_var N1 v1 d1 c1)) (pss_one (ps_ost (pe_var N0 v0 d0 c0) (pe_var N2 v2 d2 c2)))
theorem init_two_q {K : PySem.W.Frag} {a : Addr} {v u : V} {r : L2.St} {H : Hp} {D : Ends} {Q : VK} (T : OexC K C) (h1 : PySem.W.findIn K (.ref C) f1 = some none) (h2 : PySem.W.findIn K (.ref C) f2 = some none) (ha : H a = some (exo a C none))
    (hD : ∀ σ H', D.nx σ H' = Q .non H') (q : ∀ d H2, H d = none → d ≠ a → H2 a = some (exo a C (some d)) → H2 d = some (exd d [(f2, u), (f1, v)]) → (∀ b, b ≠ a → b ≠ d → H2 b = H b) → Q .non H2) :
    tSeq (tOst K f1 (tVar 0) (tVar 1)) (tOst K f2 (tVar 0) (tVar 2)) D (some (.ref a) :: some v :: some u :: r) H := by
  refine ⟨v, rfl, .ref a, rfl, a, C, rfl, T, h1, .inl ⟨ha, fun dx hn ne => ?_⟩⟩
  refine ⟨u, rfl, .ref a, rfl, a, C, rfl, T, h2, .inr ⟨dx, [(f1, v)], upd_same, by rw [upd_ne ne, upd_same], by simp, ?_⟩⟩
  rw [hD]
  exact q dx _ hn ne (by rw [upd_ne (Ne.symm ne), upd_same]) upd_same fun b n1 n2 => by rw [upd_ne n2, upd_ne n1, upd_ne n2]
end
/-! ### the three kinds of __init__ -/
section
variable {P : Program} {w : World} {K : PySem.W.Frag} {mg : Str → Option Value} {base : Heap} {F : NdefX.NF} {fI C cc : Addr} {p0 p1 p2 p3 p4 p5 : Pos} {j : Nat} {m : Str} {a1 a2 a3 a4 b1 b2 b3 b4 : Pos} {s0 f1 f2 x1 x2 : Str} {fd : FuncData}
abbrev supI (m : Str) (p0 p1 p2 p3 p4 p5 : Pos) (j : Nat) : Stmt := .Expr (.Call (.Attribute (.Call (.Name "super" p0) [] [] p1) "__init__" p2) [.Constant (.str m) j p3] [] p4) p5
/-- how the first row of such a def runs, at its own places -/
structure SupE (m : Str) (p0 p1 p2 p3 p4 p5 : Pos) (j : Nat) : Prop where
  ev : ∀ env : Env, ∃ pl : Sem Bool, eval (.Call (.Attribute (.Call (.Name "super" p0) [] [] p1) "__init__" p2) [.Constant (.str m) j p3] [] p4) env = (do
      let ov ← attributeBase (.Call (.Name "super" p0) [] [] p1) "__init__" env (eval (.Call (.Name "super" p0) [] [] p1) env)
      standAt p2.atName
      let (f, first) ← holding [ov] (getMethod ov "__init__" pl)
      callWith p4 f first (backTo p4 (starEach [.Constant (.str m) j p3] env)) [])
  sw : ∀ env : Env, swapsWith (.Call (.Attribute (.Call (.Name "super" p0) [] [] p1) "__init__" p2) [.Constant (.str m) j p3] [] p4) none p5.line env = pure false
theorem fn_init0 (T : OexC K C) (I0 : InitK P K mg C F fI cc fd) (E : SupE m p0 p1 p2 p3 p4 p5 j) (hbd : F.body = [supI m p0 p1 p2 p3 p4 p5 j]) (S : NdefX.NScope [s0, "__class__"] [s0] ["__class__"] F.scope)
    (hsc : F.scope.names.lookup ("super" : Str) = some .globalImplicit) (hp : ∃ ar, (F.params.posonlyargs ++ F.params.args).head? = some ar ∧ s0 = ar.arg) : FnOk P w K mg base (L2.CX P w) 1 fI fd [s0] (spI C []) := by
  refine fn_init (k := 0) T I0 hbd S hsc (by obtain ⟨ar, h1, h2⟩ := hp; exact ⟨ar, h1, by rw [h2]; rfl⟩) (fun vs H Q E ⟨a, ws, e, l, _⟩ => by rw [e, List.length_cons, l]; rfl) (fun vs H Q E ⟨a, ws, e, _, h, _⟩ => ⟨a, ws, e, h⟩) (fun A outer s H vs Q E' _ ⟨a, ws, e, l, ha, q, _⟩ => ?_) E.ev E.sw
  exact ⟨tNext, pss_nil, q rfl⟩
theorem fn_init1 (T : OexC K C) (I0 : InitK P K mg C F fI cc fd) (E : SupE m p0 p1 p2 p3 p4 p5 j) (hbd : F.body = [supI m p0 p1 p2 p3 p4 p5 j, .Assign [.Attribute (.Name s0 a1) f1 a2] (.Name x1 a3) a4]) (S : NdefX.NScope [s0, x1, "__class__"] [s0, x1] ["__class__"] F.scope)
    (hsc : F.scope.names.lookup ("super" : Str) = some .globalImplicit) (hp : ∃ ar, (F.params.posonlyargs ++ F.params.args).head? = some ar ∧ s0 = ar.arg) (h1 : PySem.W.findIn K (.ref C) f1 = some none)
    (d0 : (s0 == ("__debug__" : Str)) = false := by decide) (c0 : (s0 == ("__classdict__" : Str)) = false := by decide) (d1 : (x1 == ("__debug__" : Str)) = false := by decide) (c1 : (x1 == ("__classdict__" : Str)) = false := by decide) :
    FnOk P w K mg base (L2.CX P w) 1 fI fd [s0, x1] (spI C [f1]) := by
  refine fn_init (k := 0) T I0 hbd S hsc (by obtain ⟨ar, h1, h2⟩ := hp; exact ⟨ar, h1, by rw [h2]; rfl⟩) (fun vs H Q E ⟨a, ws, e, l, _⟩ => by rw [e, List.length_cons, l]; rfl) (fun vs H Q E ⟨a, ws, e, _, h, _⟩ => ⟨a, ws, e, h⟩) (fun A outer s H vs Q E' _ ⟨a, ws, e, l, ha, _, q⟩ => ?_) E.ev E.sw
  subst e
  obtain ⟨v, rfl⟩ : ∃ v, ws = [v] := by
    match ws, l with
    | [v], _ => exact ⟨v, rfl⟩
  exact ⟨_, init_one rfl rfl (.inl (S.par _ List.mem_cons_self)) (.inl (S.par _ (.tail _ List.mem_cons_self))) T h1 d0 c0 d1 c1, init_one_q T h1 ha (fun _ _ => rfl) (q (by simp))⟩
theorem fn_init2 (T : OexC K C) (I0 : InitK P K mg C F fI cc fd) (E : SupE m p0 p1 p2 p3 p4 p5 j) (hbd : F.body = [supI m p0 p1 p2 p3 p4 p5 j, .Assign [.Attribute (.Name s0 a1) f1 a2] (.Name x1 a3) a4, .Assign [.Attribute (.Name s0 b1) f2 b2] (.Name x2 b3) b4]) (S : NdefX.NScope [s0, x1, x2, "__class__"] [s0, x1, x2] ["__class__"] F.scope)
    (hsc : F.scope.names.lookup ("super" : Str) = some .globalImplicit) (hp : ∃ ar, (F.params.posonlyargs ++ F.params.args).head? = some ar ∧ s0 = ar.arg) (h1 : PySem.W.findIn K (.ref C) f1 = some none) (h2 : PySem.W.findIn K (.ref C) f2 = some none)
    (d0 : (s0 == ("__debug__" : Str)) = false := by decide) (c0 : (s0 == ("__classdict__" : Str)) = false := by decide) (d1 : (x1 == ("__debug__" : Str)) = false := by decide) (c1 : (x1 == ("__classdict__" : Str)) = false := by decide)
    (d2 : (x2 == ("__debug__" : Str)) = false := by decide) (c2 : (x2 == ("__classdict__" : Str)) = false := by decide) :
    FnOk P w K mg base (L2.CX P w) 1 fI fd [s0, x1, x2] (spI C [f1, f2]) := by
  refine fn_init (k := 0) T I0 hbd S hsc (by obtain ⟨ar, h1, h2⟩ := hp; exact ⟨ar, h1, by rw [h2]; rfl⟩) (fun vs H Q E ⟨a, ws, e, l, _⟩ => by rw [e, List.length_cons, l]; rfl) (fun vs H Q E ⟨a, ws, e, _, h, _⟩ => ⟨a, ws, e, h⟩) (fun A outer s H vs Q E' _ ⟨a, ws, e, l, ha, _, q⟩ => ?_) E.ev E.sw
  subst e
  obtain ⟨v, u, rfl⟩ : ∃ v u, ws = [v, u] := by
    match ws, l with
    | [v, u], _ => exact ⟨v, u, rfl⟩
  exact ⟨_, init_two rfl rfl rfl (.inl (S.par _ List.mem_cons_self)) (.inl (S.par _ (.tail _ List.mem_cons_self))) (.inl (S.par _ (.tail _ (.tail _ List.mem_cons_self)))) T d0 c0 d1 c1 d2 c2, init_two_q T h1 h2 ha (fun _ _ => rfl) (q (by simp))⟩
end
end DL

/-! DE3: raise, the statement. -/
namespace DL
open PySem PySem.Spec PyProof.Rows L2
/-- the class x keeps the fields fns, and may be raised -/
def ExcK (P : Program) (w : World) (K : PySem.W.Frag) (mg : Str → Option Value) (base : Heap) (x : Str) (fns : List Str) : Prop :=
  ∃ C fI fd ps, mg x = some (.ref C) ∧ excAt K x = some C ∧ OexC K C ∧ PySem.W.findIn K (.ref C) "__init__" = some (some (.ref fI)) ∧ PySem.W.typeIn K (.ref fI) = some (.type "function") ∧
    FnOk P w K mg base (L2.CX P w) 1 fI fd ps (spI C fns) ∧ Binds K fd ps []
def exnOf (x : Str) (fns : List Str) (ds : List PyData) : Exn := ⟨x, ((fns.map PyData.str).zip ds).reverse⟩
def sRaise (x : Str) (fns : List Str) (f : En → Rs (List PyData)) : En → SRes := fun ρ => eS ρ (f ρ) fun ds => if ds.length = fns.length then .ex (exnOf x fns ds) ρ else .bad
theorem RpFs.app {K : PySem.W.Frag} {H : Hp} : ∀ {a b : List (Str × V)} {c d : List (PyData × PyData)}, RpFs K H a c → RpFs K H b d → RpFs K H (a ++ b) (c ++ d)
  | _, _, _, _, .nil, t => t
  | _, _, _, _, .cons r s, t => .cons r (RpFs.app s t)
theorem RpFs.rev {K : PySem.W.Frag} {H : Hp} : ∀ {a : List (Str × V)} {c : List (PyData × PyData)}, RpFs K H a c → RpFs K H a.reverse c.reverse
  | _, _, .nil => .nil
  | _, _, .cons r s => by
    rw [List.reverse_cons, List.reverse_cons]
    exact (RpFs.rev s).app (.cons r .nil)
theorem RpFs.zip {K : PySem.W.Frag} {H : Hp} : ∀ (fns : List Str) {vs : List V} {ds : List PyData}, RpAll K H vs ds → RpFs K H (fns.zip vs) ((fns.map PyData.str).zip ds)
  | [], _, _, _ => .nil
  | _ :: _, _, _, .nil => .nil
  | _ :: fns, _, _, .cons r t => .cons r (RpFs.zip fns t)
theorem no_pass {X : Cx} : Passes (L2.CX X.prog X.w) X (fun _ _ _ => False) := fun pins σ H s e s' I c => by
  obtain ⟨_, _, _, _, _, _, _, _, _, _, _, _, q⟩ := c
  exact q.elim
section
variable {X : Cx} {W : WX} {x : Str} {fns : List Str} {e : Expr} {es : List Expr} {f : En → Rs (List PyData)} {p pos pos' : Pos}
theorem ds_raise (E : ExcK X.prog X.w X.K X.mg X.base x fns) (h0 : fns ≠ []) (hr : Room 2 X.A) (hc : X.calm = true) (tk : Takes X W) (ha : DA X W (e :: es) f) (hg : Gl X x := by rfl) (hdb : (x == ("__debug__" : Str)) = false := by decide) (hlen : fns.length ≤ 1000 := by decide)
    (he : starEach (e :: es) X.env = (false, eval e X.env) :: starEach es X.env := by rfl) (hpl : (backTo pos (starEach es X.env)).any (·.1) = false := by rfl) :
    DS X W (.Raise (some (.Call (.Name x p) (e :: es) [] pos)) none pos') (sRaise x fns f) := by
  obtain ⟨C, fI, fd, ps, hm, hx, T, iC, tI, F1, hb⟩ := E
  refine PS.imp (ps_raise hc tk (pmk_oex T iC tI F1 hr hb .nil no_pass hg hm ha hdb he hpl)) fun D σ H ⟨ρ, O, H0, s, q⟩ => ?_
  refine ⟨ρ, O, H0, s, ?_⟩
  unfold sRaise at q
  cases ef : f ρ with
  | bad => rw [ef, eS_bad] at q; exact q.elim
  | ex x => rw [ef, eS_ex] at q; exact fun H' c dd g r => q c dd σ H' (s.grow g) r
  | ok ds =>
    rw [ef, eS_ok] at q
    intro H1 vs g1 r1
    split at q
    · rename_i hl
      have hlv : vs.length = fns.length := r1.length.trans hl
      refine ⟨?_, fun a hn => ?_⟩
      · omega
      · rw [List.append_nil]
        refine ⟨a, vs, rfl, hlv, upd_same, fun z => absurd z h0, fun _ d H2 hd hda e1 e2 e3 => ⟨rfl, d, _, e1, e2, ?_, ?_⟩⟩
        · rw [upd_ne hda] at hd; exact hd
        · have hd1 : H1 d = none := by rw [upd_ne hda] at hd; exact hd
          have gr : Gr H1 (upd (del H2 a) d (.xd (fns.zip vs).reverse)) := fun b o eb => by
            have nb : b ≠ d := ne_of_none eb hd1
            have na : b ≠ a := ne_of_none eb hn
            rw [upd_ne nb, del_ne na, e3 b na nb, upd_ne na]
            exact eb
          have s1 := (s.grow g1)
          refine q (.ref C) (some d) σ _ (s1.grow gr) ⟨C, rfl, hx, .inl ⟨d, (fns.zip vs).reverse, rfl, ?_, ?_⟩⟩
          · rw [hide_out (s1.fresh hd1), upd_same]
          · exact ((RpFs.zip fns r1).rev).mono (hide_same _ gr)
    · exact q.elim
end
end DL

/-! DE4: raise of an exception without fields. -/
namespace DL
open PySem PySem.Spec PyProof.Rows L2
section
variable {X : Cx} {W : WX} {x : Str} {p pos pos' : Pos}
/-- made, without fields: the heap as it was -/
theorem bare_made {pins : List (Addr × Obj)} {σ : L2.St} {H1 : Hp} {hp hp2 h2 : Heap} {g1 g2 : Array GenState} {d1 d2 : Drawn} {t1 t2 : Nat} {os1 os2 : OsState} {a C : Addr} (I1 : Inv X pins σ H1 ⟨hp, g1, d1, t1, os1⟩)
    (ha : hp.objs.size ≤ a) (k : ∀ b o, hp.get? b = some o → hp2.get? b = some o) (un : Un (frs X.stack) [] (upd H1 a (exo a C none)) (upd H1 a (exo a C none)) hp2 h2) (hok : HOk X.prog X.w (upd H1 a (exo a C none)) h2) (ho : os2 = os1) (hb : AllBare g2) :
    ∃ (t0 : Addr) (G : Heap), Inv X pins σ H1 ⟨G, g2, d2, t2, os2⟩ ∧ (∀ b o, G.get? b = some o → h2.get? b = some o) ∧ G.get? a = none ∧ h2.get? a = some (PySem.HandSPX.excO C t0) ∧ H1 a = none := by
  obtain ⟨t0, hoe⟩ := exo_at (e := a) (C := C) (d := none) hok upd_same
  have hn : H1 a = none := I1.hok.fresh ha
  obtain ⟨G, l1, l2⟩ := restrict h2 fun b => !(b == a)
  have gk : ∀ b, b ≠ a → G.get? b = h2.get? b := fun b z => l1 b (by simpa using z)
  have ge : G.get? a = none := l2 a (by simp)
  have old : ∀ {b : Addr} {o : Obj}, hp.get? b = some o → b ≠ a := fun {b o} z e => by
    have := Heap.lt_size z
    rw [e] at this
    exact absurd ha (Nat.not_le.mpr this)
  have up : ∀ {b : Addr}, b ≠ a → ∀ {r : Option HO}, H1 b = r → upd H1 a (exo a C none) b = r := fun z _ n => by rw [upd_ne z]; exact n
  have U : Un (frs X.stack) [] H1 H1 hp G :=
    ⟨fun b o z n f1 f2 => (gk b (old z)).trans (un.keep b o (k b o z) (up (old z) n) f1 f2),
     fun b o z n f1 f2 => by
      obtain ⟨sl, q⟩ := un.slot b o (k b o z) (up (old z) n) f1 f2
      exact ⟨sl, (gk b (old z)).trans q⟩,
     fun b o z n f1 => n,
     fun b o z f1 => by
      obtain ⟨o', q⟩ := un.there b o (k b o z) f1
      exact ⟨o', (gk b (old z)).trans q⟩,
     fun b xs z => z, fun b o v z => z, fun b ps z => ⟨#[], by rw [z]; simp⟩⟩
  have hok1 : HOk X.prog X.w H1 G := fun b o z => by
    have nb : b ≠ a := ne_of_none z hn
    refine (hok b o (up nb z)).stay (fun c v hc y => ?_) (fun c hc => ?_) (fun c xs hc => ?_)
    · have nc : c ≠ a := by
        rcases hc with hc | hc
        · rw [hc]; exact nb
        · intro e
          rw [e, upd_same] at hc
          exact exo_own (Option.some.inj hc)
      rw [gk c nc]
      exact y
    · by_cases e : c = a
      · rw [e, upd_same] at hc
        exact absurd (Option.some.inj hc) exo_own
      · rwa [upd_ne e] at hc
    · by_cases e : c = a
      · rw [e, upd_same] at hc
        exact absurd (Option.some.inj hc) exo_tup
      · rwa [upd_ne e] at hc
  exact ⟨t0, G, I1.call' (ch := []) ho U hok1 hb (fun b z => absurd z (by simp)), fun b o z => by
    by_cases e : b = a
    · rw [e, ge] at z; cases z
    · rw [← gk b e]; exact z, ge, hoe, hn⟩
theorem pmk_bare {C fI : Addr} {k : Nat} {fd : FuncData} {ps : List Str} (T : OexC X.K C) (iC : PySem.W.findIn X.K (.ref C) "__init__" = some (some (.ref fI))) (tI : PySem.W.typeIn X.K (.ref fI) = some (.type "function"))
    (F1 : FnOk X.prog X.w X.K X.mg X.base (L2.CX X.prog X.w) k fI fd ps (spI C [])) (hr : Room (k + 1) X.A) (hb : Binds X.K fd ps []) (hg : Gl X x) (hm : X.mg x = some (.ref C)) (hdb : (x == ("__debug__" : Str)) = false) :
    PMk X (.Call (.Name x p) [] [] pos) (fun _ H Q => Q (.ref C) none H) := by
  intro pins s σ H Q I h
  obtain ⟨nm, q, N, bs, bm, sn, sub, ab, col, dd, k0, k1, k2, k3, k5, hC, hbm⟩ := T.cls
  refine wpAny_Call_Name_kw (ld_glob I hg hm ?_ hdb)
  refine PySem.W.callWith_K0 I.kIn T.kC ?_
  obtain ⟨hp, g, dr, tk, os⟩ := s
  have hsz : hp.objs.size ≤ hp.objs.size + 1 := by omega
  have hn : H (hp.objs.size + 1) = none := I.hok.fresh hsz
  have kk : ∀ b o, hp.get? b = some o → ((hp.push (PySem.W.kdv_tup [])).push (PySem.HandSPX.excO C hp.objs.size)).get? b = some o := fun b o e => by
    exact Heap.get?_push_of_some _ (Heap.get?_push_of_some _ e)
  have hget : ((hp.push (PySem.W.kdv_tup [])).push (PySem.HandSPX.excO C hp.objs.size)).get? (hp.objs.size + 1) = some (PySem.HandSPX.excO C hp.objs.size) := by
    heap_get
  have I2 := I.laid (t' := tk) (a := hp.objs.size + 1) (o := exo (hp.objs.size + 1) C none) (h' := (hp.push (PySem.W.kdv_tup [])).push (PySem.HandSPX.excO C hp.objs.size)) kk hsz (exo_ok hget)
  have hq : spI C [] [.ref (hp.objs.size + 1)] (upd H (hp.objs.size + 1) (exo (hp.objs.size + 1) C none)) (fun v H2 => v = .non ∧ H2 = upd H (hp.objs.size + 1) (exo (hp.objs.size + 1) C none)) (fun _ _ _ => False) :=
    ⟨_, [], rfl, rfl, upd_same, fun _ => ⟨rfl, rfl⟩, fun z => absurd rfl z⟩
  have r2 : Vals [V.ref (hp.objs.size + 1)] [Value.ref (hp.objs.size + 1)] := .cons rfl .nil
  have hl : ([Value.ref (hp.objs.size + 1)] ++ [] : List Value).length = ps.length := (F1.len _ _ _ _ hq ▸ rfl)
  refine wpAny_call (PySem.HandSPX.call_own F.excBase_ValueError (fun Y => PySem.HandSPX.refsVE_contains Y bm hbm) (I.kIn _ _ hC) (PySem.W.looks_findIn I.kIn iC) (fun self => PySem.W.bind_fn I.kIn self tI) (Nat.zero_le _)
    (codeAny_mono (F1.run _ X.stack _ _ ⟨[Value.ref (hp.objs.size + 1)], []⟩ [Value.ref (hp.objs.size + 1)] _ _ (fun _ _ _ => False) (hr.make C [] []) (I2.env0.make C [] []) (hb _ [Value.ref (hp.objs.size + 1)] I2.kIn hl) r2 hq) fun r s' hq' => ?_))
  cases r with
  | error er => exact no_pass pins σ _ _ er s' I2 hq'
  | ok fl =>
    cases fl with
    | next => exact hq'.elim
    | brk => exact hq'.elim
    | cont => exact hq'.elim
    | ret u =>
      obtain ⟨v, H2, os2, bare2, un2, hok2, rv, ev, eH⟩ := hq'
      subst ev
      subst eH
      obtain ⟨h2, g2, d2, t2, os'⟩ := s'
      obtain ⟨t0, G, J, kG, ge, hoe, na⟩ := bare_made (d2 := d2) (t2 := t2) I hsz kk un2 hok2 os2 bare2
      exact ⟨rv, _, _, _, ⟨G, g2, d2, t2, os'⟩, H, .ref C, none, rfl, J, kG, ge, hoe, ⟨rfl, rfl⟩, rfl, rfl, na, rfl, bare2, raises_own T.exC T.tyC, h⟩
def sRaise0 (x : Str) : En → SRes := fun ρ => .ex ⟨x, []⟩ ρ
theorem ds_raise0 (E : ExcK X.prog X.w X.K X.mg X.base x []) (hr : Room 2 X.A) (hc : X.calm = true) (tk : Takes X W) (hg : Gl X x := by rfl) (hdb : (x == ("__debug__" : Str)) = false := by decide) :
    DS X W (.Raise (some (.Call (.Name x p) [] [] pos)) none pos') (sRaise0 x) := by
  obtain ⟨C, fI, fd, ps, hm, hx, T, iC, tI, F1, hb⟩ := E
  refine PS.imp (ps_raise hc tk (pmk_bare T iC tI F1 hr hb hg hm hdb)) fun D σ H ⟨ρ, O, H0, s, q⟩ => ?_
  exact q (.ref C) none σ H s ⟨C, rfl, hx, .inr ⟨rfl, rfl⟩⟩
end
end DL

/-! DE5: try, any number of clauses; in a clause's suite the caught exception is tracked, it is data as all else. -/
namespace DL
open PySem PySem.Spec PyProof.Rows L2
/-- an exception as data -/
def exD (e : Exn) : PyData := .dict ((.bool true, .str e.cls) :: e.fs)
theorem exT_ok {P : Program} {w : World} {H : Hp} {h : Heap} {a : Addr} {oe : Obj} (e : h.get? a = some oe) : ObjOk P w H h a (ExT a oe) :=
  ⟨e, ⟨oe, e⟩, fun h1 h2 z k => k _ z⟩
theorem exT_own {a b : Addr} {oe : Obj} : ExT a oe ≠ .own b := fun z => by
  have z' : HO.ext _ = HO.own b := z
  cases z'
theorem exT_tup {a : Addr} {oe : Obj} {xs : List V} : ExT a oe ≠ .tup xs := fun z => by
  have z' : HO.ext _ = HO.tup xs := z
  cases z'
section
variable {X : Cx} {pins : List (Addr × Obj)} {σ : L2.St} {H : Hp} {s sI : Shared}
/-- an object that came after the entry is tracked from now on -/
theorem track {a : Addr} {oe : Obj} (J : Inv X pins σ H sI) (I : Inv X pins σ H s) (na : sI.heap.get? a = none) (hg : s.heap.get? a = some oe) (hn : H a = none) (nF : a ∉ X.fs) (hx : X.ex = []) : Inv X pins σ (upd H a (ExT a oe)) s := by
  have there : ∀ {b : Addr} {o : Obj}, sI.heap.get? b = some o → b ≠ a := fun {b o} z e => by rw [e, na] at z; cases z
  have n0 : ∀ {b : Addr} {o : Obj}, X.s_0.heap.get? b = some o → b ≠ a := fun {b o} z => by
    obtain ⟨o', q⟩ := J.base.there b o z (by rw [hx]; exact List.not_mem_nil)
    exact there q
  have up : ∀ {b : Addr} {r : Option HO}, b ≠ a → H b = r → upd H a (ExT a oe) b = r := fun z q => by rw [upd_ne z]; exact q
  have loc : X.env.locals ≠ a := by
    obtain ⟨m, ⟨o, es, ep, ho, _⟩, _⟩ := J.loc
    exact there ho
  refine ⟨I.ok, I.os, I.bare, ⟨I.base.keep, I.base.slot, fun b o z n e => up (n0 z) (I.base.free b o z n e), I.base.there, fun b xs z => ?_, fun b o u z => ?_, fun b ps z => ?_⟩, I.loc, I.cell, up loc I.free, fun x c e => ?_, fun p hp => ?_, fun b o z => ?_, I.len⟩
  · have q := I.base.tups b xs z
    exact up (ne_of_none q hn) q
  · have q := I.base.frzs b o u z
    exact up (ne_of_none q hn) q
  · obtain ⟨more, q⟩ := I.base.tbls b ps z
    exact ⟨more, up (ne_of_none q hn) q⟩
  · obtain ⟨v, o, ho, _⟩ := J.cell x c e
    exact up (there ho) (I.freeC x c e)
  · obtain ⟨e, n, r⟩ := I.pin p hp
    obtain ⟨e2, _⟩ := J.pin p hp
    exact ⟨e, up (there e2) n, r⟩
  · by_cases hb : b = a
    · subst hb
      rw [upd_same] at z
      cases z
      exact exT_ok hg
    · rw [upd_ne hb] at z
      refine (I.hok b o z).stay (fun c u _ q => q) (fun c q => ?_) (fun c xs q => ?_)
      · exact up (ne_of_none q hn) q
      · exact up (ne_of_none q hn) q
/-- into a suite -/
theorem to_suite {a : Addr} (I : Inv X pins σ H s) : Inv (X.suite a (X.pn ++ pins)) [] σ H s :=
  ⟨I.ok.suite _ _, I.os, I.bare, I.base, I.loc, I.cell, I.free, I.freeC, fun p hp => I.pin p (by rw [List.append_nil] at hp; exact hp), I.hok, I.len⟩
/-- out of it -/
theorem of_suite {a : Addr} {pn' : List (Addr × Obj)} (I : Inv (X.suite a (X.pn ++ pins)) pn' σ H s) (ok : X.Ok) : Inv X pins σ H s :=
  ⟨ok, I.os, I.bare, I.base, I.loc, I.cell, I.free, I.freeC, fun p hp => I.pin p (List.mem_append_left _ hp), I.hok, I.len⟩
end
/-! ### the clauses -/
/-- a clause: which classes it takes, its name's slot, its suite -/
structure Cls where
  tbl : List (Str × Bool)
  slot : Option Nat
  run : En → SRes
def clr (i : Option Nat) (ρ : En) : En := match i with
  | some i => ρ.set i none
  | none => ρ
def aft (i : Option Nat) : SRes → SRes
  | .nx ρ => .nx (clr i ρ)
  | .brk ρ => .brk (clr i ρ)
  | .ct ρ => .ct (clr i ρ)
  | .ret d => .ret d
  | .ex _ _ => .bad
  | .bad => .bad
def inn (i : Option Nat) (e : Exn) (ρ : En) : En := match i with
  | some i => ρ.set i (some (.val (exD e)))
  | none => ρ
def hndl : List Cls → Exn → En → SRes
  | [], e, ρ => .ex e ρ
  | c :: cs, e, ρ => match c.tbl.lookup e.cls with
    | some true => aft c.slot (c.run (inn c.slot e ρ))
    | some false => hndl cs e ρ
    | none => .bad
def sTry (cs : List Cls) (g : En → SRes) : En → SRes := fun ρ => match g ρ with
  | .ex e ρ' => hndl cs e ρ'
  | r => r
abbrev W0 : WX := fun _ _ _ _ => False
/-- what a clause's table says is so -/
def TblOk (K : PySem.W.Frag) (c : Value) (t : List (Str × Bool)) : Prop := ∀ nm b C, t.lookup nm = some b → excAt K nm = some C → PySem.W.exmOne K (.ref C) c = some b
inductive CsOk (X : Cx) : List ExceptHandler → List Cls → Prop
  | nil : CsOk X [] []
  | as {x n : Str} {c : Value} {i : Nat} {t : List (Str × Bool)} {g : En → SRes} {b₀ : Stmt} {suite : List Stmt} {np pos' : Pos} {hds : List ExceptHandler} {l : List Cls} (hi : X.N[i]? = some n) (hln : X.env.kindOf n = some .local) (hc : Names X x c) (ht : TblOk X.K c t)
      (hsu : ∀ (a : Addr) (pn : List (Addr × Obj)), DSs (X.suite a pn) W0 (b₀ :: suite) g) (r : CsOk X hds l) : CsOk X (.ExceptHandler (some (.Name x np)) (some n) (b₀ :: suite) pos' :: hds) (⟨t, some i, g⟩ :: l)
  | only {x : Str} {c : Value} {t : List (Str × Bool)} {g : En → SRes} {b₀ : Stmt} {suite : List Stmt} {np pos' : Pos} {hds : List ExceptHandler} {l : List Cls} (hc : Names X x c) (ht : TblOk X.K c t)
      (hsu : ∀ (a : Addr) (pn : List (Addr × Obj)), DSs (X.suite a pn) W0 (b₀ :: suite) g) (r : CsOk X hds l) : CsOk X (.ExceptHandler (some (.Name x np)) none (b₀ :: suite) pos' :: hds) (⟨t, none, g⟩ :: l)
/-- what the body's exception finds -/
def wTry (X : Cx) (W : WX) (D : Ends) (cs : List Cls) : WX := fun cls dd σ H => ∃ ρ O H0 e, SR X.K O H0 H σ ρ ∧ ExR X.K X.mg (hide H (O ++ owned σ ρ)) cls dd e ∧ SK X.K X.mg W O H0 D (hndl cs e ρ)
theorem SK.aft_as {K : PySem.W.Frag} {mg : Str → Option Value} {W : WX} {O : List Addr} {H0 : Hp} {D : Ends} {i : Nat} {r : SRes} (h : SK K mg W O H0 D (aft (some i) r)) :
    SK K mg W0 O H0 { nx := fun σ H => D.nx (σ.set i none) H, rt := D.rt, bk := fun σ H => D.bk (σ.set i none) H, ct := fun σ H => D.ct (σ.set i none) H } r := by
  cases r with
  | nx ρ => exact fun σ H s => h _ H s.setN
  | brk ρ => exact fun σ H s => h _ H s.setN
  | ct ρ => exact fun σ H s => h _ H s.setN
  | ret d => exact h
  | ex e ρ => exact h.elim
  | bad => exact h.elim
theorem SK.aft_only {K : PySem.W.Frag} {mg : Str → Option Value} {W : WX} {O : List Addr} {H0 : Hp} {D : Ends} {r : SRes} (h : SK K mg W O H0 D (aft none r)) : SK K mg W0 O H0 D r := by
  cases r with
  | nx ρ => exact h
  | brk ρ => exact h
  | ct ρ => exact h
  | ret d => exact h
  | ex e ρ => exact h.elim
  | bad => exact h.elim
section
variable {X : Cx} {W : WX} {body : List Stmt} {h₀ : ExceptHandler} {hds : List ExceptHandler} {cs : List Cls} {pos : Pos} {gb : En → SRes}
theorem ds_try (hs : X.stack = X.env :: X.outer) (hf : X.env.frame = some X.env.locals) (hex : X.ex = []) (hN : X.N.Nodup) (tk : Takes X W)
    (hb : ∀ (W : WX) (pn : List (Addr × Obj)) (xe : Value → Shared → Prop), Takes (X.tr pn xe) W → PassesOwn (model X.prog X.w) X.A X.env xe → DSs (X.tr pn xe) W body gb)
    (hh : CsOk X (h₀ :: hds) cs) : DS X W (.Try body (h₀ :: hds) [] [] pos) (sTry cs gb) := by
  refine ⟨fun pins s σ H D I h => ?_⟩
  have ok := I.ok
  have hfr : X.A.frames = some (X.env :: X.outer) := ok.frames.trans (congrArg some hs)
  have h' : tS X.K X.mg (wTry X W D cs) gb D σ H := by
    obtain ⟨ρ, O, H0, sr, q⟩ := h
    refine ⟨ρ, O, H0, sr, ?_⟩
    unfold sTry at q
    cases e : gb ρ with
    | ex x ρ' => rw [e] at q; exact fun c dd σ' H' s' r => ⟨ρ', O, H0, x, s', r, q⟩
    | nx ρ' => rw [e] at q; exact q
    | brk ρ' => rw [e] at q; exact q
    | ct ρ' => rw [e] at q; exact q
    | ret d => rw [e] at q; exact q
    | bad => rw [e] at q; exact q
  let M := model X.prog X.w
  let xe : Value → Shared → Prop := fun e s₁ => wpAny M X.A (noteFrame e X.env) (fun _ s₂ => wpAny M X.A (setFlight e none) (fun _ s₃ => wpAny M X.A (handleBy e X.env (h₀ :: hds)) (SP X pins D) X.xe s₃) X.xe s₂) X.xe s₁
  refine wpAny_Try_except (wpAny_mono ((hb (wTry X W D cs) (X.pn ++ pins) xe (fun u s' xx => ?_) PassesOwn.looking).run [] s σ H D (I.toTry _) h') (fun f s1 hsp => ?_) fun e s1 he => he)
  · obtain ⟨a, B, sI, pins', σ', H', cls, d, rfl, J', nb, up, sky, na, os, ag, ρ, O, H0, e, sr, er, q⟩ := xx
    have J : Inv X pins σ' H' sI := J'.ofTry ok
    have sky' : Sky B (X.env :: X.outer) a (Zc cls d) X.env.locals s'.heap := hs ▸ sky
    show wpAny M X.A (noteFrame (.ref a) X.env) _ _ _
    refine Sky.land Zc.steady hfr hf sky' fun h3 fl3 up3 => ?_
    have J3 : Inv X pins σ' H' { s' with heap := h3 } := J.landed nb fl3.1 (up.trans up3) os ag
    obtain ⟨oe3, vs3, he3, hz3, hd3⟩ := fl3.there
    have nfr : a ∉ frs (X.env :: X.outer) := fun hm => by
      obtain ⟨_, o', e', hnf⟩ := fl3.2.2.1.mem hm
      rw [he3] at e'
      cases e'
      exact hnf _ hd3
    have nF : a ∉ X.fs := fun hm => nfr (by
      obtain ⟨v, hv, r⟩ := List.mem_filterMap.mp hm
      exact List.mem_filterMap.mpr ⟨v, List.mem_cons_of_mem _ hv, r⟩)
    have nI : sI.heap.get? a = none := by
      cases z : sI.heap.get? a with
      | none => rfl
      | some o =>
        have y := nb a o z (hs ▸ nfr)
        rw [fl3.2.1] at y
        cases y
    have S3 := to_suite (a := a) J3
    obtain ⟨C, hcl, hxc, hfl⟩ := er
    subst hcl
    have go : ∀ {hds' : List ExceptHandler} {l' : List Cls}, CsOk X hds' l' → SK X.K X.mg W O H0 D (hndl l' e ρ) → wpAny M X.A (handleBy (.ref a) X.env hds') (SP X pins D) X.xe { s' with heap := h3 } := by
      intro hds' l' hk
      induction hk with
      | nil =>
        intro q
        refine wpAny_handleBy_nil ?_
        obtain ⟨_, _, _, oe, vs, T, oT, ts', he, hz, hd, h1, _⟩ := id fl3
        unfold PySem.passOn
        refine wpAny_bind (wpAny_field he hd h1 ?_)
        rw [if_neg (fun z : (Value.ref T == Value.none) = true => by simp at z)]
        have fin : wpAny M X.A (setFlight (.ref a) X.env.frame) (fun _ s4 => wpAny M X.A (throw (.ref a) : Sem Flow) (SP X pins D) X.xe s4) X.xe { s' with heap := h3 } := by
          rw [hf]
          exact HandSPX.setFlight_upZ fl3 fun h4 hh4 up4 => wpAny_throw (tk _ _ ⟨a, B, sI, pins, σ', H', .ref C, d, rfl, J, nb, (up.trans up3).trans up4, .inr (.inr (hs.symm ▸ hh4)), na, os, ag, q _ _ _ _ sr ⟨C, rfl, hxc, hfl⟩⟩)
        first
          | exact wpAny_bind fin
          | exact wpAny_bind (wpAny_pure (wpAny_bind fin))
      | @as x n c i t g b₀ suite np pos' hds2 l2 hi hln hc ht hsu r ih =>
        intro q
        unfold hndl at q
        cases el : t.lookup e.cls with
        | none => rw [el] at q; exact q.elim
        | some b =>
          rw [el] at q
          refine wpAny_handleBy_cons (codeAny_handlers_test ?_) (by intro q; cases q)
          have LT : PySem.W.Looks M h3 (typeOf (.ref a)) (.ref C) := fun A Q E s k q => wpAny_typeOf_ref (k _ _ he3) (hz3.1.symm ▸ q)
          have LM := PySem.W.exm_one (M := M) J3.kIn LT (ht _ _ _ el hxc)
          have test : ∀ {Q : Value → Shared → Prop} {E : Value → Shared → Prop}, Q c { s' with heap := h3 } → wpAny M (X.A.mark (some (.ref a))) (eval (.Name x np) X.env) Q E { s' with heap := h3 } := fun {Q E} z => by
            obtain ⟨hg, hdbg, hm | ⟨hm, hv, hnn⟩⟩ := hc
            · exact ld_glob (X := X.suite a (X.pn ++ pins)) S3 hg hm z hdbg
            · exact ld_blt (X := X.suite a (X.pn ++ pins)) S3 hg hm hv z hnn hdbg
          refine test (LM.here ?_)
          cases b with
          | false => exact ih q
          | true =>
            refine codeAny_handlers_suite_as (HandSPX.lands_againZ fl3 fun h4 fl4 up4 => ?_)
            have J4 : Inv X pins σ' H' { s' with heap := h4 } := J.landed nb fl4.1 ((up.trans up3).trans up4) os ag
            obtain ⟨oe4, vs4, he4, hz4, hd4⟩ := fl4.there
            have T4 := to_suite (a := a) (track J J4 nI he4 na nF hex)
            have gr : Gr H' (upd H' a (ExT a oe4)) := same_upd na
            have rp : Rp X.K (hide (upd H' a (ExT a oe4)) (O ++ owned σ' ρ)) (.ref a) (exD e) := by
              have hh : hide (upd H' a (ExT a oe4)) (O ++ owned σ' ρ) a = some (ExT a oe4) := by rw [hide_out (sr.fresh na), upd_same]
              rcases hfl with ⟨dd, fs, e1, e2, e3⟩ | ⟨e1, e2⟩
              · subst e1
                exact .exn hh hz4 ⟨_, hd4⟩ hxc (hide_same _ gr _ _ e2) (e3.mono (hide_same _ gr))
              · subst e1
                unfold exD
                rw [e2]
                exact .exn0 hh hz4 ⟨_, hd4⟩ hxc
            refine store_ok (X := X.suite a (X.pn ++ pins)) (v := .ref a) T4 hN hi (.inl hln) rfl (fun s5 S5 => ?_) (.inr hln)
            refine wpAny_mono ((hsu a (X.pn ++ pins)).run [] s5 _ _ _ S5 ⟨_, O, H0, (sr.grow gr).setV rp, q.aft_as⟩) (fun f s6 hsp => ?_) (fun _ _ z => False.elim z)
            have end_ : ∀ {σ6 : L2.St} {H6 : Hp} {Q : Shared → Prop}, Inv (X.suite a (X.pn ++ pins)) [] σ6 H6 s6 → (∀ s7, Inv X pins (σ6.set i none) H6 s7 → Q s7) →
                wpAny M X.A (do bindName X.env n .none; unbindBehindTheSuite X.env n pos') (fun _ s7 => Q s7) X.xe s6 := fun {σ6 H6 Q} S6 hq => gone_ok (of_suite S6 ok) hN hi hln hq
            cases f with
            | ret u =>
              obtain ⟨v6, σ6, H6, S6, r6, q6⟩ := hsp
              exact end_ S6 fun s7 J7 => ⟨_, _, _, J7, r6, q6⟩
            | next =>
              obtain ⟨σ6, H6, S6, q6⟩ := hsp
              exact end_ S6 fun s7 J7 => ⟨_, _, J7, q6⟩
            | brk =>
              obtain ⟨σ6, H6, S6, q6⟩ := hsp
              exact end_ S6 fun s7 J7 => ⟨_, _, J7, q6⟩
            | cont =>
              obtain ⟨σ6, H6, S6, q6⟩ := hsp
              exact end_ S6 fun s7 J7 => ⟨_, _, J7, q6⟩
      | @only x c t g b₀ suite np pos' hds2 l2 hc ht hsu r ih =>
        intro q
        unfold hndl at q
        cases el : t.lookup e.cls with
        | none => rw [el] at q; exact q.elim
        | some b =>
          rw [el] at q
          refine wpAny_handleBy_cons (codeAny_handlers_test ?_) (by intro q; cases q)
          have LT : PySem.W.Looks M h3 (typeOf (.ref a)) (.ref C) := fun A Q E s k q => wpAny_typeOf_ref (k _ _ he3) (hz3.1.symm ▸ q)
          have LM := PySem.W.exm_one (M := M) J3.kIn LT (ht _ _ _ el hxc)
          have test : ∀ {Q : Value → Shared → Prop} {E : Value → Shared → Prop}, Q c { s' with heap := h3 } → wpAny M (X.A.mark (some (.ref a))) (eval (.Name x np) X.env) Q E { s' with heap := h3 } := fun {Q E} z => by
            obtain ⟨hg, hdbg, hm | ⟨hm, hv, hnn⟩⟩ := hc
            · exact ld_glob (X := X.suite a (X.pn ++ pins)) S3 hg hm z hdbg
            · exact ld_blt (X := X.suite a (X.pn ++ pins)) S3 hg hm hv z hnn hdbg
          refine test (LM.here ?_)
          cases b with
          | false => exact ih q
          | true =>
            refine codeAny_handlers_suite (HandSPX.lands_againZ fl3 fun h4 fl4 up4 => ?_)
            have J4 : Inv X pins σ' H' { s' with heap := h4 } := J.landed nb fl4.1 ((up.trans up3).trans up4) os ag
            refine wpAny_mono ((hsu a (X.pn ++ pins)).run [] _ _ _ D (to_suite J4) ⟨_, O, H0, sr, q.aft_only⟩) (fun f s6 hsp => ?_) (fun _ _ z => False.elim z)
            cases f with
            | ret u =>
              obtain ⟨v6, σ6, H6, S6, r6, q6⟩ := hsp
              exact ⟨_, _, _, of_suite S6 ok, r6, q6⟩
            | next =>
              obtain ⟨σ6, H6, S6, q6⟩ := hsp
              exact ⟨_, _, of_suite S6 ok, q6⟩
            | brk =>
              obtain ⟨σ6, H6, S6, q6⟩ := hsp
              exact ⟨_, _, of_suite S6 ok, q6⟩
            | cont =>
              obtain ⟨σ6, H6, S6, q6⟩ := hsp
              exact ⟨_, _, of_suite S6 ok, q6⟩
    exact go hh q
  · cases f with
    | ret u =>
      obtain ⟨v, σ', H', J', r, q⟩ := hsp
      exact ⟨v, σ', H', J'.ofTry ok, r, q⟩
    | next =>
      obtain ⟨σ', H', J', q⟩ := hsp
      exact wpAny_execs_nil ⟨σ', H', J'.ofTry ok, q⟩
    | brk =>
      obtain ⟨σ', H', J', q⟩ := hsp
      exact ⟨σ', H', J'.ofTry ok, q⟩
    | cont =>
      obtain ⟨σ', H', J', q⟩ := hsp
      exact ⟨σ', H', J'.ofTry ok, q⟩
end
end DL

/-! DE6: isinstance(e, C), e.f. -/
namespace DL
open PySem PySem.Spec PyProof.Rows L2
/-- what the class at C must have for its exceptions to be asked -/
structure ExcF (K : PySem.W.Frag) (C : Addr) : Prop where
  is : (PySem.W.clsIn K C).isSome = true
  ga : PySem.W.findIn K (.ref C) "__getattribute__" = some (some (.builtin "BaseException.__getattribute__"))
  gg : PySem.W.findIn K (.ref C) "__getattr__" = some none
  be : PySem.W.subIn K (.ref C) (.type "BaseException") = some true
  hd : PySem.W.hasDictIn K C = true
  cl : PySem.W.findIn K (.ref C) "__class__" = some (some (.builtin "object.__class__"))
  sp : PySem.W.specialIn K (.builtin "object.__class__") "__get__" = some (some (.builtin "getset_descriptor.__get__"))
  tk : PySem.W.takesIn K (.builtin "object.__class__") = some true
  ob : PySem.W.mroIn K C (.type "object") = some true
theorem keyD_bool {k : Key} {b : Bool} : keyD k ≠ .bool b := fun z => by cases k <;> cases z
theorem rp_exc {K : PySem.W.Frag} {H : Hp} {v : V} {nm : Str} {es : List (PyData × PyData)} (h : Rp K H v (.dict ((.bool true, .str nm) :: es))) :
    ∃ a C oe, v = .ref a ∧ H a = some (ExT a oe) ∧ (∃ vs, oe.data = .fields vs) ∧ excAt K nm = some C ∧ ((∃ d fs, Zc (.ref C) (some d) oe ∧ H d = some (.xd fs) ∧ RpFs K H fs es) ∨ (Zc (.ref C) none oe ∧ es = [])) := by
  generalize hd : PyData.dict ((.bool true, .str nm) :: es) = d at h
  cases h with
  | exn h z v c d r => cases hd; exact ⟨_, _, _, rfl, h, v, c, .inl ⟨_, _, z, d, r⟩⟩
  | exn0 h z v c => cases hd; exact ⟨_, _, _, rfl, h, v, c, .inr ⟨z, rfl⟩⟩
  | scr s l => cases hd
  | @dK a kvs es' s r =>
    cases hd
    cases kvs with
    | nil => cases r
    | cons k kvs =>
      exfalso
      generalize hk : List.map (fun p => (keyD p.1, p.2)) (k :: kvs) = l at r
      cases r with
      | cons r t =>
        rw [List.map_cons] at hk
        injection hk with hk1 hk2
        injection hk1 with hk3 hk4
        exact keyD_bool hk3
  | @dT a kvs es' s r =>
    cases hd
    cases kvs with
    | nil => cases r
    | cons k kvs =>
      exfalso
      generalize hk : List.map (fun p => (PyData.tuple (p.1.map keyD), p.2)) (k :: kvs) = l at r
      cases r with
      | cons r t =>
        rw [List.map_cons] at hk
        injection hk with hk1 hk2
        injection hk1 with hk3 hk4
        cases hk3
  | lst s l r => cases hd
  | tup s l r => cases hd
  | non => cases hd
  | bl b => cases hd
  | int b => cases hd
  | str b => cases hd
def fldL (n : Str) : List (PyData × PyData) → Option PyData
  | (.str m, d) :: r => if m = n then some d else fldL n r
  | _ => none
theorem fld_at {K : PySem.W.Frag} {H : Hp} {n : Str} {d : PyData} : ∀ {fs : List (Str × V)} {es : List (PyData × PyData)}, RpFs K H fs es → fldL n es = some d → ∃ v, fs.lookup n = some v ∧ Rp K H v d
  | _, _, .nil, e => by cases e
  | _, _, @RpFs.cons _ _ f v d' vs ds r t, e => by
    unfold fldL at e
    by_cases h : f = n
    · rw [if_pos h] at e
      cases e
      subst h
      exact ⟨v, by simp [List.lookup], r⟩
    · rw [if_neg h] at e
      obtain ⟨u, h1, h2⟩ := fld_at t e
      refine ⟨u, ?_, h2⟩
      rw [lookup_put, if_neg (fun z => h z.symm)]
      exact h1
/-! ### isinstance -/
def oIsE (t : List (Str × Bool)) : PyData → Rs PyData
  | .dict ((.bool true, .str nm) :: _) => match t.lookup nm with
    | some b => .ok (.bool b)
    | none => .bad
  | _ => .bad
def IsTbl (K : PySem.W.Frag) (cv : Value) (t : List (Str × Bool)) : Prop := ∀ nm b C, t.lookup nm = some b → excAt K nm = some C → ExcF K C ∧ PySem.W.kitOne K (.ref C) cv = some b
def rIsX (K : PySem.W.Frag) (cv : Value) : List V → Hp → VK → Prop := fun xs H Q => ∃ (a C : Addr) (oe : Obj) (dd : Option Addr) (c : V) (b : Bool), xs = [.ref a, c] ∧ (∀ u, RelV c u → u = cv) ∧ H a = some (ExT a oe) ∧ Zc (.ref C) dd oe ∧ (∃ vs, oe.data = .fields vs) ∧
  (∀ d, dd = some d → ∃ fs, H d = some (.xd fs)) ∧ ExcF K C ∧ PySem.W.kitOne K (.ref C) cv = some b ∧ Q (.bl b) H
theorem inst_at {X : Cx} {pins : List (Addr × Obj)} {σ : L2.St} {H : Hp} {s : Shared} {a C : Addr} {oe : Obj} {dd : Option Addr} (I : Inv X pins σ H s) (ha : H a = some (ExT a oe)) (hz : Zc (.ref C) dd oe) (hf : ∃ vs, oe.data = .fields vs)
    (hd : ∀ d, dd = some d → ∃ fs, H d = some (.xd fs)) : ∃ od, PySem.W.InstAt s.heap a oe C od ∧ ∀ d, dd = some d → ∃ o, od = some o ∧ s.heap.get? d = some o := by
  obtain ⟨hg, _⟩ := I.hok a _ ha
  obtain ⟨vs, hv⟩ := hf
  have no : PySem.W.notCls oe = true := by unfold PySem.W.notCls; rw [hv]
  cases dd with
  | none => exact ⟨none, ⟨hg, hz.1, no, by rw [hz.2]; trivial⟩, fun d z => by cases z⟩
  | some d =>
    obtain ⟨fs, h2⟩ := hd d rfl
    obtain ⟨mA, ⟨o, es, ep, ho, _⟩, _⟩ := I.hok d _ h2
    exact ⟨some o, ⟨hg, hz.1, no, by rw [hz.2]; exact ho⟩, fun d' z => by cases z; exact ⟨o, rfl, ho⟩⟩
theorem call_isX {X : Cx} {cv : Value} : CallR X (.builtin "isinstance") (rIsX X.K cv) := by
  intro pins s σ H xs us Q I r h
  obtain ⟨a, C, oe, dd, c, b, rfl, hc, ha, hz, hf, hd, F, e, q⟩ := h
  cases r with
  | cons rx rr =>
    cases rr with
    | cons rt rr =>
      cases rr
      cases rx
      have ec := hc _ rt
      subst ec
      obtain ⟨od, J, _⟩ := inst_at I ha hz hf hd
      exact PySem.W.kia_one (PySem.W.kitx_exc F.is F.ga F.gg F.be F.cl F.sp F.tk F.ob) I.kIn J e (fun z => nomatch z) fun tk => ⟨.bl b, H, I.kept (t' := tk) fun _ _ z => z, rfl, q⟩
section
variable {X : Cx} {W : WX} {a : Expr} {fa : En → Rs PyData} {pos p p2 : Pos} {y : Str}
theorem ok_isE {cv : Value} {c : V} {t : List (Str × Bool)} (T : IsTbl X.K cv t) (hc : ∀ u, RelV c u → u = cv) {O : List Addr} {σ : L2.St} {H : Hp} {Q : VK} {x : V} {d : PyData} (r : Rp X.K (hide H O) x d) (q : RK X.K X.mg W O σ H Q (oIsE t d)) : rIsX X.K cv [x, c] H Q := by
  unfold oIsE at q
  split at q
  · rename_i nm es
    obtain ⟨a, C, oe, rfl, ha, hf, hx, hr⟩ := rp_exc r
    split at q
    · rename_i b el
      obtain ⟨F, e⟩ := T nm b C el hx
      have ha' := (hide_some ha).2
      rcases hr with ⟨d, fs, z, hd, _⟩ | ⟨z, _⟩
      · exact ⟨a, C, oe, some d, c, b, rfl, hc, ha', z, hf, fun d' e => by cases e; exact ⟨fs, (hide_some hd).2⟩, F, e, q.here (.bl _)⟩
      · exact ⟨a, C, oe, none, c, b, rfl, hc, ha', z, hf, fun d' e => by (cases e), F, e, q.here (.bl _)⟩
    · exact q.elim
  · exact q.elim
theorem de_isE {cv : Value} {c : V} {t : List (Str × Bool)} (T : IsTbl X.K cv t) (hc : ∀ u, RelV c u → u = cv) (ha : DE X W a fa) (hy : PE X (.Name y p2) (tC c)) (hm : X.mg "isinstance" = none) (hg : Gl X "isinstance" := by rfl)
    (he : starEach (a :: [.Name y p2]) X.env = (false, eval a X.env) :: starEach [.Name y p2] X.env := by rfl) (hpl : (backTo pos (starEach [.Name y p2] X.env)).any (·.1) = false := by rfl) :
    DE X W (.Call (.Name "isinstance" p) [a, .Name y p2] [] pos) (b1 (oIsE t) fa) :=
  PE.imp (pe_callB (call_isX (cv := cv)) hg hm (by decide +kernel) (pa_cons ha (pa_cons hy pa_nil) he) (by decide) (by decide) he hpl) fun σ H Q ⟨ρ, O, H0, s, q⟩ => ⟨ρ, O, H0, s, by
    unfold b1 at q
    cases ef : fa ρ with
    | bad => rw [ef] at q; exact q.elim
    | ex x => rw [ef] at q; exact q
    | ok d => rw [ef] at q; exact fun H1 v g r1 => ok_isE T hc r1 (q.grow g)⟩
/-- isinstance(e, C), C a class of the program -/
theorem de_isOwn {C : Addr} {t : List (Str × Bool)} (T : IsTbl X.K (.ref C) t) (ha : DE X W a fa) (hm : X.mg "isinstance" = none) (hC : X.mg y = some (.ref C)) (hgC : Gl X y := by rfl) (hdb : (y == ("__debug__" : Str)) = false := by decide) (hg : Gl X "isinstance" := by rfl)
    (he : starEach (a :: [.Name y p2]) X.env = (false, eval a X.env) :: starEach [.Name y p2] X.env := by rfl) (hpl : (backTo pos (starEach [.Name y p2] X.env)).any (·.1) = false := by rfl) :
    DE X W (.Call (.Name "isinstance" p) [a, .Name y p2] [] pos) (b1 (oIsE t) fa) := de_isE (c := .ref C) T (fun u r => r) ha (pe_glob hgC hC rfl hdb) hm hg he hpl
/-- isinstance(e, T), T built in -/
theorem de_isBlt {T : String} {t : List (Str × Bool)} (T0 : IsTbl X.K (.type T) t) (ha : DE X W a fa) (hm : X.mg "isinstance" = none) (hC : X.mg y = none) (hv : bootBuiltins y = some (.type T)) (hgC : Gl X y := by rfl) (hn : y ≠ "__name__" := by decide) (hdb : (y == ("__debug__" : Str)) = false := by decide) (hg : Gl X "isinstance" := by rfl)
    (he : starEach (a :: [.Name y p2]) X.env = (false, eval a X.env) :: starEach [.Name y p2] X.env := by rfl) (hpl : (backTo pos (starEach [.Name y p2] X.env)).any (·.1) = false := by rfl) :
    DE X W (.Call (.Name "isinstance" p) [a, .Name y p2] [] pos) (b1 (oIsE t) fa) := de_isE (c := .ty T) T0 (fun u r => r) ha (pe_bltn hgC hC hv rfl hn hdb) hm hg he hpl
/-! ### e.f -/
def oFld (nms : List Str) (n : Str) : PyData → Rs PyData
  | .dict ((.bool true, .str nm) :: es) => if nms.contains nm then (match fldL n es with
    | some d => .ok d
    | none => .bad) else .bad
  | _ => .bad
def FldOk (K : PySem.W.Frag) (nms : List Str) (n : Str) : Prop := ∀ nm C, nm ∈ nms → excAt K nm = some C → ExcF K C ∧ PySem.W.findIn K (.ref C) n = some none
theorem de_fld {nms : List Str} {n : Str} (T : FldOk X.K nms n) (ha : DE X W a fa) (hb : attributeBase a n X.env (eval a X.env) = eval a X.env := by rfl) : DE X W (.Attribute a n pos) (b1 (oFld nms n) fa) := by
  refine ⟨fun pins s σ H Q I h => ?_⟩
  obtain ⟨ρ, O, H0, sr, q⟩ := h
  unfold b1 at q
  refine attr_of hb (thn (ha.run pins s σ H (fun x H1 => ∃ d, Rp X.K (hide H1 (O ++ owned σ ρ)) x d ∧ RK X.K X.mg W (O ++ owned σ ρ) σ H1 Q (oFld nms n d)) I ⟨ρ, O, H0, sr, ?_⟩) fun u s1 hh => ?_)
  · cases ef : fa ρ with
    | bad => rw [ef] at q; exact q.elim
    | ex x => rw [ef] at q; exact q
    | ok d => rw [ef] at q; exact fun H1 v g r1 => ⟨d, r1, q.grow g⟩
  · obtain ⟨x, H1, I1, rx, d, r, q⟩ := hh
    unfold oFld at q
    split at q
    · rename_i nm es
      obtain ⟨a, C, oe, rfl, ha, hf, hx, hr⟩ := rp_exc r
      obtain rfl : u = Value.ref a := rx
      split at q
      · rename_i hin
        obtain ⟨F, hno⟩ := T nm C (List.contains_iff_mem.mp hin) hx
        split at q
        · rename_i dv el
          rcases hr with ⟨d, fs, z, hd, rf⟩ | ⟨z, rfl⟩
          · have ha' := (hide_some ha).2
            have hd' := (hide_some hd).2
            obtain ⟨v, hv, rv⟩ := fld_at rf el
            obtain ⟨od, J, hod⟩ := inst_at I1 ha' z hf (fun d' e => by cases e; exact ⟨fs, hd'⟩)
            obtain ⟨o, rfl, ho⟩ := hod d rfl
            obtain ⟨mA, hns, hrr⟩ := I1.hok d _ hd'
            obtain ⟨od2, ho2, hl⟩ := lookIn_ns hns
            rw [ho] at ho2
            cases ho2
            obtain ⟨w, hw, rw'⟩ := RelO.some_of (v := v) (o := mA n) (by rw [← hv]; exact hrr n)
            exact HandSPX.exc_get I1.kIn J F.ga F.gg F.be (PySem.W.findObj_own F.hd hno rfl (by rw [hl, hw])) (handed_of rw') ⟨v, H1, I1.tok _, rw', q.here rv⟩
          · cases el
        · exact q.elim
      · exact q.elim
    · exact q.elim
end
end DL

/-! DE7: defs called in a clause's suite. -/
namespace DL
open PySem PySem.Spec PyProof.Rows L2
abbrev RoomS := L2H.RoomH
theorem _root_.L2H.RoomH.units {k : Nat} {A : Around} (r : L2H.RoomH k A) : A.units + 64 < cLine := by have := r.un; omega
theorem roomS_suite {k : Nat} {X : Cx} {a : Addr} {pn : List (Addr × Obj)} (r : Room k X.A) : RoomS k (X.suite a pn).A := ⟨r.dp, r.un⟩
/-- what a def promises, called in a suite -/
structure FnT (P : Program) (w : World) (K : PySem.W.Frag) (mg : Str → Option Value) (base : Heap) (k : Nat) (f : Addr) (fd : FuncData) (ps : List Str) (sp : Sp) : Prop where
  len : ∀ vs H Q E, sp vs H Q E → vs.length = ps.length
  run : ∀ (A : Around) (outer : List Env) (s : Shared) (H : Hp) (args : Args) (us : List Value) (vs : List V) (Q : VK) (E : XK), RoomS k A → Env0 P w K mg base A outer s H → BindsTo s fd args (ps.zip us) → Vals vs us → sp vs H Q E →
    codeAny (model P w) A (.call (.ref f) args) (CR (L2.CX P w) outer P w H s Q E) s
def FnS (P : Program) (w : World) (K : PySem.W.Frag) (mg : Str → Option Value) (base : Heap) (k : Nat) (x : Str) (g : List PyData → Rs PyData) : Prop :=
  ∃ f fd ps, FnT P w K mg base k f fd ps (spD K mg g) ∧ mg x = some (.ref f) ∧ PySem.W.keepIn K (.ref f) = true ∧ Binds K fd ps []
section
variable {P : Program} {w : World} {K : PySem.W.Frag} {mg : Str → Option Value} {base : Heap}
abbrev cxS (P : Program) (w : World) (K : PySem.W.Frag) (mg : Str → Option Value) (base : Heap) (N : List Str) (qual : Str) (scope : Scope) (f : Addr) (cd : Value) (A : Around) (outer : List Env) (s : Shared) (H : Hp) (E : XK) (o : Obj) : Cx :=
  L2H.cxH (L2.CX P w) P w K mg base N qual scope f cd A outer s H E (f, o)
theorem fnt_of {k : Nat} {f : Addr} {name qual : Str} {params : Arguments} {body : List Stmt} {scope : Scope} {dV kV doc pm cdv ct oc : Value} {an od : Option Addr} {osl : Array (Option Value)} {N ps : List Str} {sp : Sp}
    (lk : K.lookup f = some ⟨oc, od, .func (PySem.W.fnOf name qual params body scope dV kV doc pm an cdv ct), osl⟩) (hcd : PySem.W.codeIn K cdv qual = true) (S : FnScope N ps scope) (len : ∀ vs H Q E, sp vs H Q E → vs.length = ps.length)
    (hbody : ∀ (A : Around) (outer : List Env) (s : Shared) (H : Hp) (vs : List V) (Q : VK) (E : XK) (o : Obj), RoomS k (A.deeper (envOfC qual scope s.heap.objs.size f cdv)) → sp vs H Q E →
      ∃ t, PSs (cxS P w K mg base N qual scope f cdv A outer s H E o) body t ∧ t { nx := fun _ H' => Q .non H', rt := Q } (L2.start N vs) H) :
    FnT P w K mg base (k + 1) f (PySem.W.fnOf name qual params body scope dV kV doc pm an cdv ct) ps sp := by
  refine ⟨len, fun A outer s H args us vs Q E hr e0 hb r hsp => ?_⟩
  have hl : vs.length = ps.length := len _ _ _ _ hsp
  have kb : ∀ b o, base.get? b = some o → s.heap.get? b = some o := fun b o e => (e0.bs b o e).1
  have KX : K.In s.heap := e0.mod.kin.keeps kb
  have bf : base.get? f = some _ := e0.mod.kin _ _ lk
  have hpin : L2H.PinOk outer H s (f, ⟨oc, od, .func (PySem.W.fnOf name qual params body scope dV kV doc pm an cdv ct), osl⟩) := by
    refine ⟨kb _ _ bf, (e0.bs _ _ bf).2, fun hm => ?_, fun v z => by cases z⟩
    have z := (e0.funs.mem hm).1
    rw [bf] at z
    cases z
  have hkind : ∀ y ∈ ps.zip us, scope.names.lookup y.1 = some .local ∨ (scope.names.lookup y.1 = some .cell ∧ ((cellsFrom (s.heap.objs.size + 1) scope.names []).lookup y.1).isSome = true) := by
    rintro ⟨n, v⟩ hy
    exact (S.par n (List.of_mem_zip hy).1).imp id fun q => ⟨q, PySem.W.cellsFrom_some _ _ _ (.inl q)⟩
  refine codeAny_call_function hr.depth (KX _ _ lk) rfl S.co S.gen rfl (PySem.W.codeRec_of KX hcd) (hb _ _ _ _ (wpAny_newFunctionEnv_cells S.kind hkind fun env he s1 x => ?_))
  subst he
  refine ⟨(e0.mod.nolimit.keeps kb).keeps x.toInCall.keep, codeAny_func ?_⟩
  obtain ⟨t, ht, hq⟩ := hbody A outer s H vs Q E _ (hr.deeper _) hsp
  have I := L2H.inv_startH (CX := L2.CX P w) (E := E) S hpin e0 hl r x
  refine wpAny_mono (ht.run [] s1 (L2.start N vs) H _ I hq) (fun fl s' hs => ?_) fun e s' hs => hs
  cases fl with
  | next =>
    obtain ⟨σ', H', J, q⟩ := hs
    exact ⟨V.non, H', J.os, J.bare, J.base, J.hok, rfl, q⟩
  | ret u =>
    obtain ⟨v, σ', H', J, rv, q⟩ := hs
    exact ⟨v, H', J.os, J.bare, J.base, J.hok, rv, q⟩
  | brk => exact hs.elim fun _ h => h.elim fun _ h => h.2.elim
  | cont => exact hs.elim fun _ h => h.elim fun _ h => h.2.elim
theorem fns_mk {name : Str} {st : Stmt} {f : Addr} {fd : FuncData} {N ps : List Str} {k : Nat} {body : En → SRes} (F : Fun K name name st f fd) (S : FnScope N ps (defScope st)) (bn : Binds K fd ps []) (hm : mg name = some (.ref f))
    (hb : ∀ (cdv : Value) (A : Around) (outer : List Env) (s : Shared) (H : Hp) (E : XK) (o : Obj), RoomS k (A.deeper (envOfC name (defScope st) s.heap.objs.size f cdv)) →
      Takes (cxS P w K mg base N name (defScope st) f cdv A outer s H E o) (fun c d _ H => E c d H) → DSs (cxS P w K mg base N name (defScope st) f cdv A outer s H E o) (fun c d _ H => E c d H) (defBody st) body) : FnS P w K mg base (k + 1) name (runF N.length ps.length body) := by
  obtain ⟨oc, od, kV, doc, pm, an, cdv, ct, osl, rfl, lk, hcd⟩ := F.ex
  refine ⟨f, _, ps, fnt_of lk hcd S (fun vs H Q E h => ?_) (fun A outer s H vs Q E o hr h => ⟨_, hb cdv A outer s H E o hr (takes_of rfl rfl rfl rfl), ?_⟩), hm, F.kp, bn⟩
  · obtain ⟨O, ds, th, r, q⟩ := h
    rw [r.length]
    unfold runF at q
    split at q
    · assumption
    · exact q.elim
  · obtain ⟨O, ds, th, r, q⟩ := h
    unfold runF at q
    split at q
    · rename_i hl
      have el : vs.length = ps.length := by rw [r.length]; exact hl
      refine ⟨ds.map (fun d => some (.val d)) ++ List.replicate (N.length - ps.length) none, O, H, ⟨Gr.refl H, fun a h => ?_, ?_, th, ?_⟩, ?_⟩
      · unfold L2.start at h
        rw [el, owned_start] at h
        cases h
      · unfold L2.start
        rw [el, owned_start]
        exact List.nodup_nil
      · unfold L2.start
        rw [el, owned_start, List.append_nil]
        exact slots_start _ r
      · cases eb : body (ds.map (fun d => some (.val d)) ++ List.replicate (N.length - ps.length) none) with
        | ret d => rw [eb] at q; exact fun v H' g r' => q H' v g r'
        | nx ρ => rw [eb] at q; exact fun σ' H' s' => q H' .non s'.same .non
        | brk ρ => rw [eb] at q; exact q.elim
        | ct ρ => rw [eb] at q; exact q.elim
        | ex e ρ => rw [eb] at q; exact fun c dd σ' H' s' x => q H' c dd s'.same (x.mono (hide_less fun a ha => List.mem_append_left _ ha))
        | bad => rw [eb] at q; exact q.elim
    · exact q.elim
end
section
variable {X : Cx} {W : WX} {a : Expr} {pos p : Pos} {x : Str} {es : List Expr} {k : Nat} {g : List PyData → Rs PyData}
theorem de_callS {f : En → Rs (List PyData)} (F : FnS X.prog X.w X.K X.mg X.base k x g) (hr : RoomS k X.A) (tk : Takes X W) (ha : DA X W (a :: es) f) (hg : Gl X x := by rfl) (hdb : (x == ("__debug__" : Str)) = false := by decide)
    (he : starEach (a :: es) X.env = (false, eval a X.env) :: starEach es X.env := by rfl) (hpl : (backTo pos (starEach es X.env)).any (·.1) = false := by rfl) : DE X W (.Call (.Name x p) (a :: es) [] pos) (dCall g f) := by
  obtain ⟨fn, fd, ps, F, hm, hk, hb⟩ := F
  refine ⟨fun pins s σ H Q I ⟨ρ, O, H0, sr, q⟩ => ?_⟩
  refine wpAny_Call_Name_kw (ld_glob I hg hm ?_ hdb)
  have q' : tAD X.K X.mg W f σ H fun vs H1 => spD X.K X.mg g vs H1 Q (WE W σ) := ⟨ρ, O, H0, sr, RKA.of q fun ds H1 vs g1 r1 q1 => ⟨O ++ owned σ ρ, ds, (sr.grow g1).there, r1, q1.toF⟩⟩
  refine PySem.W.callWith_K (h₀ := X.base) I.ok.mod.kin hk (thn (ha.run pos pins s σ H _ I q') fun us s1 ⟨vs, H1, I1, r, qs⟩ => ⟨I1.kIn, ?_⟩) he hpl
  have hl : us.length = ps.length := (Paired.length r).symm.trans (F.len _ _ _ _ qs)
  have b := hb s1 us I1.kIn (by rw [List.append_nil]; exact hl)
  rw [List.append_nil] at b
  refine wpAny_call (codeAny_mono (F.run X.A X.stack s1 H1 ⟨us, []⟩ us vs Q (WE W σ) hr I1.env0 b r qs) fun res s' hq => ?_)
  cases res with
  | error e => exact passAt tk σ pins H1 s1 e s' I1 hq
  | ok fl =>
    cases fl with
    | ret u => exact I1.after hq
    | next => exact hq.elim
    | brk => exact hq.elim
    | cont => exact hq.elim
end
end DL

/-! DE8: the facts of classes, put together. -/
namespace DL
open PySem PySem.Spec PyProof.Rows L2
def clsBody : Stmt → List Stmt
  | .ClassDef _ _ _ body _ _ _ _ _ _ _ => body
  | _ => []
abbrev clsDef (st : Stmt) (j : Nat) : Stmt := (clsBody st).getD j (.Pass ⟨0, 0, 0, 0⟩)
structure Txt0 (s : Stmt) (s0 : Str) : Prop where
  ex : ∃ m p0 p1 p2 p3 p4 p5 j, defBody s = [supI m p0 p1 p2 p3 p4 p5 j] ∧ SupE m p0 p1 p2 p3 p4 p5 j
  sc : NdefX.NScope [s0, "__class__"] [s0] ["__class__"] (defScope s)
  sup : (defScope s).names.lookup ("super" : Str) = some .globalImplicit
  hp : ∃ ar, ((defArgs s).posonlyargs ++ (defArgs s).args).head? = some ar ∧ s0 = ar.arg
structure Txt1 (s : Stmt) (s0 x1 f1 : Str) : Prop where
  ex : ∃ m p0 p1 p2 p3 p4 p5 j a1 a2 a3 a4, defBody s = [supI m p0 p1 p2 p3 p4 p5 j, .Assign [.Attribute (.Name s0 a1) f1 a2] (.Name x1 a3) a4] ∧ SupE m p0 p1 p2 p3 p4 p5 j
  sc : NdefX.NScope [s0, x1, "__class__"] [s0, x1] ["__class__"] (defScope s)
  sup : (defScope s).names.lookup ("super" : Str) = some .globalImplicit
  hp : ∃ ar, ((defArgs s).posonlyargs ++ (defArgs s).args).head? = some ar ∧ s0 = ar.arg
structure Txt2 (s : Stmt) (s0 x1 f1 x2 f2 : Str) : Prop where
  ex : ∃ m p0 p1 p2 p3 p4 p5 j a1 a2 a3 a4 b1 b2 b3 b4, defBody s = [supI m p0 p1 p2 p3 p4 p5 j, .Assign [.Attribute (.Name s0 a1) f1 a2] (.Name x1 a3) a4, .Assign [.Attribute (.Name s0 b1) f2 b2] (.Name x2 b3) b4] ∧ SupE m p0 p1 p2 p3 p4 p5 j
  sc : NdefX.NScope [s0, x1, x2, "__class__"] [s0, x1, x2] ["__class__"] (defScope s)
  sup : (defScope s).names.lookup ("super" : Str) = some .globalImplicit
  hp : ∃ ar, ((defArgs s).posonlyargs ++ (defArgs s).args).head? = some ar ∧ s0 = ar.arg
section
variable {P : Program} {w : World} {K : PySem.W.Frag} {mg : Str → Option Value} {base : Heap} {x qn : Str} {C fI cc cda : Addr} {s : Stmt}
  {nm q : Str} {Nc : Addr} {bs bm : List Value} {sn : List Str} {sub : List Value} {ab : Bool} {col : Option Bool} {dd : Option Addr} {k0 k1 k2 k3 k5 : Option Value}
  {oc kV doc pm ct cf1 cx1 : Value} {od an cf2 cx2 : Option Addr} {osl cf3 cx3 : Array (Option Value)} {vs : Array Value} {file : Str} {tf : Tok}
theorem oexc_mk (lC : K.lookup C = some (excClassObj nm q C Nc bs bm true sn sub ab col dd k0 k1 k2 k3 k5 "ValueError.__new__")) (rv : PySem.HandSPX.refsVE bm = true) (sa : PySem.W.findIn K (.ref C) "__setattr__" = some (some (.builtin "object.__setattr__")))
    (exC : PySem.W.subIn K (.ref C) (.type "BaseException") = some true) (tyC : PySem.W.typeIn K (.ref C) = some (.type "type")) (kC : PySem.W.keepIn K (.ref C) = true) : OexC K C :=
  ⟨⟨nm, q, Nc, bs, bm, sn, sub, ab, col, dd, k0, k1, k2, k3, k5, lC, rv⟩, sa, exC, tyC, kC⟩
/-- the words of such an __init__ -/
abbrev nfOf (qn : Str) (s : Stmt) (cc cda : Addr) : NdefX.NF := ⟨"__init__", qn, defArgs s, defBody s, defScope s, [(("__class__" : Str), cc)], cda⟩
theorem initk_mk (lI : K.lookup fI = some ⟨oc, od, .func (PySem.W.fnX "__init__" qn (defArgs s) (defBody s) (defScope s) [(("__class__" : Str), cc)] .none kV doc pm an (.ref cda) ct), osl⟩) (cI : PySem.W.codeIn K (.ref cda) qn = true)
    (lF : K.lookup cda = some ⟨cf1, cf2, .fields vs, cf3⟩) (vf : vs[2]? = some (.str file tf)) (hf : ((P.main.file : Str) == file) = true) (lX : K.lookup cc = some ⟨cx1, cx2, .cell (some (.ref C)), cx3⟩) (zs : mg "super" = none)
    (top : (P.main.scope.names.lookup ("super" : Str)).isSome = false) (noc : PySem.W.nsIn K cStatics "thirdparty.any" = some none) (av : PySem.W.ks_superIn K C C "__init__" = some (some (.builtin "ValueError.__init__")))
    (sb : PySem.W.mroIn K C (.ref C) = some true) (ve : PySem.W.subIn K (.ref C) (.type "ValueError") = some true) :
    InitK P K mg C (nfOf qn s cc cda) fI cc (PySem.W.fnX "__init__" qn (defArgs s) (defBody s) (defScope s) [(("__class__" : Str), cc)] .none kV doc pm an (.ref cda) ct) :=
  ⟨⟨oc, od, osl, lI⟩, ⟨.none, kV, doc, pm, an, ct, rfl⟩, rfl, cI, ⟨cf1, cf2, vs, cf3, file, tf, lF, vf, hf⟩, ⟨cx1, cx2, cx3, lX⟩, zs, top, noc, av, sb, ve⟩
section
variable {fd : FuncData} {s0 x1 f1 x2 f2 : Str}
theorem exck0 (T : Txt0 s s0) (aC : mg x = some (.ref C)) (xC : excAt K x = some C) (O : OexC K C) (iC : PySem.W.findIn K (.ref C) "__init__" = some (some (.ref fI))) (tI : PySem.W.typeIn K (.ref fI) = some (.type "function"))
    (I0 : InitK P K mg C (nfOf qn s cc cda) fI cc fd) (hb : Binds K fd [s0] []) : ExcK P w K mg base x [] := by
  obtain ⟨m, p0, p1, p2, p3, p4, p5, j, eb, E⟩ := T.ex
  exact ⟨C, fI, fd, [s0], aC, xC, O, iC, tI, fn_init0 O I0 E eb T.sc T.sup T.hp, hb⟩
theorem exck1 (T : Txt1 s s0 x1 f1) (aC : mg x = some (.ref C)) (xC : excAt K x = some C) (O : OexC K C) (iC : PySem.W.findIn K (.ref C) "__init__" = some (some (.ref fI))) (tI : PySem.W.typeIn K (.ref fI) = some (.type "function"))
    (I0 : InitK P K mg C (nfOf qn s cc cda) fI cc fd) (h1 : PySem.W.findIn K (.ref C) f1 = some none) (hb : Binds K fd [s0, x1] [])
    (d0 : (s0 == ("__debug__" : Str)) = false := by decide) (c0 : (s0 == ("__classdict__" : Str)) = false := by decide) (d1 : (x1 == ("__debug__" : Str)) = false := by decide) (c1 : (x1 == ("__classdict__" : Str)) = false := by decide) : ExcK P w K mg base x [f1] := by
  obtain ⟨m, p0, p1, p2, p3, p4, p5, j, a1, a2, a3, a4, eb, E⟩ := T.ex
  exact ⟨C, fI, fd, [s0, x1], aC, xC, O, iC, tI, fn_init1 O I0 E eb T.sc T.sup T.hp h1 d0 c0 d1 c1, hb⟩
theorem exck2 (T : Txt2 s s0 x1 f1 x2 f2) (aC : mg x = some (.ref C)) (xC : excAt K x = some C) (O : OexC K C) (iC : PySem.W.findIn K (.ref C) "__init__" = some (some (.ref fI))) (tI : PySem.W.typeIn K (.ref fI) = some (.type "function"))
    (I0 : InitK P K mg C (nfOf qn s cc cda) fI cc fd) (h1 : PySem.W.findIn K (.ref C) f1 = some none) (h2 : PySem.W.findIn K (.ref C) f2 = some none) (hb : Binds K fd [s0, x1, x2] [])
    (d0 : (s0 == ("__debug__" : Str)) = false := by decide) (c0 : (s0 == ("__classdict__" : Str)) = false := by decide) (d1 : (x1 == ("__debug__" : Str)) = false := by decide) (c1 : (x1 == ("__classdict__" : Str)) = false := by decide)
    (d2 : (x2 == ("__debug__" : Str)) = false := by decide) (c2 : (x2 == ("__classdict__" : Str)) = false := by decide) : ExcK P w K mg base x [f1, f2] := by
  obtain ⟨m, p0, p1, p2, p3, p4, p5, j, a1, a2, a3, a4, b1, b2, b3, b4, eb, E⟩ := T.ex
  exact ⟨C, fI, fd, [s0, x1, x2], aC, xC, O, iC, tI, fn_init2 O I0 E eb T.sc T.sup T.hp h1 h2 d0 c0 d1 c1 d2 c2, hb⟩
end
end
/-! ### tables -/
section
variable {K : PySem.W.Frag} {mg : Str → Option Value} {cv : Value} {nm n : Str} {b : Bool} {C : Addr} {t : List (Str × Bool)} {nms : List Str}
theorem isTbl_nil : IsTbl K cv [] := fun nm b C h => by cases h
theorem isTbl_cons (e : excAt K nm = some C) (F : ExcF K C) (k : PySem.W.kitOne K (.ref C) cv = some b) (r : IsTbl K cv t) : IsTbl K cv ((nm, b) :: t) := fun n b' C' h hx => by
  unfold List.lookup at h
  split at h
  · rename_i hn
    have : n = nm := beq_iff_eq.mp hn
    subst this
    rw [e] at hx
    cases hx
    cases h
    exact ⟨F, k⟩
  · exact r n b' C' h hx
theorem tblOk_nil : TblOk K cv [] := fun nm b C h => by cases h
theorem tblOk_cons (e : excAt K nm = some C) (k : PySem.W.exmOne K (.ref C) cv = some b) (r : TblOk K cv t) : TblOk K cv ((nm, b) :: t) := fun n b' C' h hx => by
  unfold List.lookup at h
  split at h
  · rename_i hn
    have : n = nm := beq_iff_eq.mp hn
    subst this
    rw [e] at hx
    cases hx
    cases h
    exact k
  · exact r n b' C' h hx
theorem fldOk_nil : FldOk K [] n := fun nm C h => by cases h
theorem fldOk_cons (e : excAt K nm = some C) (F : ExcF K C) (k : PySem.W.findIn K (.ref C) n = some none) (r : FldOk K nms n) : FldOk K (nm :: nms) n := fun m C' h hx => by
  rcases List.mem_cons.mp h with q | q
  · subst q
    rw [e] at hx
    cases hx
    exact ⟨F, k⟩
  · exact r m C' q hx
/-- a class of the program that is asked for -/
def AskC (K : PySem.W.Frag) (mg : Str → Option Value) (x : Str) (t : List (Str × Bool)) : Prop := ∃ C, mg x = some (.ref C) ∧ IsTbl K (.ref C) t
/-- .. that a clause names -/
def TakeC (K : PySem.W.Frag) (mg : Str → Option Value) (x : Str) (t : List (Str × Bool)) : Prop := ∃ C, mg x = some (.ref C) ∧ TblOk K (.ref C) t
end
section
variable {X : Cx} {W : WX} {a : Expr} {fa : En → Rs PyData} {pos p p2 np pos' : Pos} {y x n : Str} {t : List (Str × Bool)} {i : Nat} {g : En → SRes} {b₀ : Stmt} {suite : List Stmt} {hds : List ExceptHandler} {l : List Cls}
theorem de_isC (T : AskC X.K X.mg y t) (ha : DE X W a fa) (hm : X.mg "isinstance" = none) (hgC : Gl X y := by rfl) (hdb : (y == ("__debug__" : Str)) = false := by decide) (hg : Gl X "isinstance" := by rfl)
    (he : starEach (a :: [.Name y p2]) X.env = (false, eval a X.env) :: starEach [.Name y p2] X.env := by rfl) (hpl : (backTo pos (starEach [.Name y p2] X.env)).any (·.1) = false := by rfl) :
    DE X W (.Call (.Name "isinstance" p) [a, .Name y p2] [] pos) (b1 (oIsE t) fa) := by
  obtain ⟨C, hC, T⟩ := T
  exact de_isOwn T ha hm hC hgC hdb hg he hpl
theorem cs_as (i : Nat) (T : TakeC X.K X.mg x t) (hsu : ∀ (a : Addr) (pn : List (Addr × Obj)), DSs (X.suite a pn) W0 (b₀ :: suite) g) (r : CsOk X hds l) (hi : X.N[i]? = some n := by rfl) (hln : X.env.kindOf n = some .local := by rfl) (hg : Gl X x := by rfl) (hdb : (x == ("__debug__" : Str)) = false := by decide) :
    CsOk X (.ExceptHandler (some (.Name x np)) (some n) (b₀ :: suite) pos' :: hds) (⟨t, some i, g⟩ :: l) := by
  obtain ⟨C, hC, T⟩ := T
  exact .as hi hln ⟨hg, hdb, .inl hC⟩ T hsu r
theorem cs_only (T : TakeC X.K X.mg x t) (hsu : ∀ (a : Addr) (pn : List (Addr × Obj)), DSs (X.suite a pn) W0 (b₀ :: suite) g) (r : CsOk X hds l) (hg : Gl X x := by rfl) (hdb : (x == ("__debug__" : Str)) = false := by decide) :
    CsOk X (.ExceptHandler (some (.Name x np)) none (b₀ :: suite) pos' :: hds) (⟨t, none, g⟩ :: l) := by
  obtain ⟨C, hC, T⟩ := T
  exact .only ⟨hg, hdb, .inl hC⟩ T hsu r
end
end DL

/-! DE9: calls without arguments. -/
namespace DL
open PySem PySem.Spec PyProof.Rows L2
section
variable {X : Cx} {W : WX} {pos p : Pos} {x : Str} {k : Nat} {g : List PyData → Rs PyData}
def dCall0 (g : List PyData → Rs PyData) : En → Rs PyData := fun _ => g []
theorem de_call0 (F : Fn X.prog X.w X.K X.mg X.base k x g) (hr : Room k X.A) (tk : Takes X W) (hg : Gl X x := by rfl) (hdb : (x == ("__debug__" : Str)) = false := by decide) : DE X W (.Call (.Name x p) [] [] pos) (dCall0 g) := by
  obtain ⟨fn, fd, ps, F, hm, hk, hb⟩ := F
  refine ⟨fun pins s σ H Q I ⟨ρ, O, H0, sr, q⟩ => ?_⟩
  refine wpAny_Call_Name_kw (ld_glob I hg hm (PySem.W.callWith_K0 I.kIn hk ?_) hdb)
  have qs : spD X.K X.mg g [] H Q (WE W σ) := ⟨O ++ owned σ ρ, [], sr.there, .nil, RK.toF q⟩
  have hl : ([] : List Value).length = ps.length := F.len _ _ _ _ qs
  have b := hb s [] I.kIn (by rw [List.append_nil]; exact hl)
  rw [List.append_nil] at b
  refine wpAny_call (codeAny_mono (F.run X.A X.stack s H ⟨[], []⟩ [] [] Q (WE W σ) hr I.env0 b .nil qs) fun res s' hq => ?_)
  cases res with
  | error e => exact passAt tk σ pins H s e s' I hq
  | ok fl =>
    cases fl with
    | ret u => exact I.after hq
    | next => exact hq.elim
    | brk => exact hq.elim
    | cont => exact hq.elim
end
end DL

/-! DM1: reckoning with denotations. -/
namespace DL
open PySem PySem.Spec PyProof.Rows L2

/-! ### the combinators unfold -/
section
variable {ρ : En}
@[simp] theorem x_seq (g1 g2 : En → SRes) : sSeq g1 g2 ρ = sThen (g1 ρ) g2 := Eq.trans rfl rfl
@[simp] theorem x_ret (f : En → Rs PyData) : sRet f ρ = eS ρ (f ρ) .ret := Eq.trans rfl rfl
@[simp] theorem x_retN : sRetN ρ = .ret .none := Eq.trans rfl rfl
@[simp] theorem x_nil : sNil ρ = .nx ρ := Eq.trans rfl rfl
@[simp] theorem x_brk : sBrk ρ = .brk ρ := Eq.trans rfl rfl
@[simp] theorem x_ct : sCt ρ = .ct ρ := Eq.trans rfl rfl
@[simp] theorem x_drop (f : En → Rs PyData) : sDrop f ρ = eS ρ (f ρ) fun _ => .nx ρ := Eq.trans rfl rfl
@[simp] theorem x_set (i : Nat) (f : En → Rs PyData) : sSet i f ρ = eS ρ (f ρ) fun d => .nx (ρ.set i (some (.val d))) := Eq.trans rfl rfl
@[simp] theorem x_setO (i : Nat) (f : En → Rs PyData) : sSetO i f ρ = eS ρ (f ρ) fun d => .nx (ρ.set i (some (.own d))) := Eq.trans rfl rfl
@[simp] theorem x_if (t : En → Rs Bool) (g1 g2 : En → SRes) : sIf t g1 g2 ρ = eS ρ (t ρ) fun c => if c then g1 ρ else g2 ρ := Eq.trans rfl rfl
@[simp] theorem x_for (fi : En → Rs (List PyData)) (τ : TgD) (b : En → SRes) : sFor fi τ b ρ = eS ρ (fi ρ) fun ds => forS τ b ds ρ := Eq.trans rfl rfl
@[simp] theorem x_asg (f : En → Rs PyData) (τ : TgD) : sAsg f τ ρ = eS ρ (f ρ) fun d => match τ d ρ with | .ok ρ' => .nx ρ' | _ => .bad := Eq.trans rfl rfl
@[simp] theorem x_frz (i : Nat) (g : En → SRes) : sFrz i g ρ = g (frz i ρ) := Eq.trans rfl rfl
@[simp] theorem x_b1 (op : PyData → Rs PyData) (f : En → Rs PyData) : b1 op f ρ = (f ρ).bind op := Eq.trans rfl rfl
@[simp] theorem x_b2 (op : PyData → PyData → Rs PyData) (f g : En → Rs PyData) : b2 op f g ρ = (f ρ).bind fun d => (g ρ).bind fun e => op d e := Eq.trans rfl rfl
@[simp] theorem x_c (d : PyData) : dC d ρ = .ok d := Eq.trans rfl rfl
@[simp] theorem x_tst (f : En → Rs PyData) : tst f ρ = (f ρ).bind oTru := Eq.trans rfl rfl
@[simp] theorem x_andD (f g : En → Rs Bool) : tAndD f g ρ = (f ρ).bind fun c => if c then g ρ else .ok false := Eq.trans rfl rfl
@[simp] theorem x_orD (f g : En → Rs Bool) : tOrD f g ρ = (f ρ).bind fun c => if c then .ok true else g ρ := Eq.trans rfl rfl
@[simp] theorem x_notD (f : En → Rs Bool) : tNotD f ρ = (f ρ).bind fun c => .ok (!c) := Eq.trans rfl rfl
def andV (d : PyData) (r : Rs PyData) : Rs PyData := match d with
  | .bool b => if b then r else .ok (.bool false)
  | _ => .bad
def orV (d : PyData) (r : Rs PyData) : Rs PyData := match d with
  | .bool b => if b then .ok (.bool true) else r
  | _ => .bad
@[simp] theorem x_vAnd (f g : En → Rs PyData) : vAnd f g ρ = (f ρ).bind fun d => andV d (g ρ) := by
  unfold vAnd
  refine congrArg _ (funext fun d => ?_)
  cases d <;> try rfl
  rename_i b
  cases b <;> rfl
@[simp] theorem x_vOr (f g : En → Rs PyData) : vOr f g ρ = (f ρ).bind fun d => orV d (g ρ) := by
  unfold vOr
  refine congrArg _ (funext fun d => ?_)
  cases d <;> try rfl
  rename_i b
  cases b <;> rfl
@[simp] theorem andV_b (b : Bool) (r : Rs PyData) : andV (.bool b) r = if b then r else .ok (.bool false) := Eq.trans rfl rfl
@[simp] theorem orV_b (b : Bool) (r : Rs PyData) : orV (.bool b) r = if b then .ok (.bool true) else r := Eq.trans rfl rfl
@[simp] theorem x_vIf (t : En → Rs Bool) (f g : En → Rs PyData) : vIf t f g ρ = (t ρ).bind fun c => if c then f ρ else g ρ := Eq.trans rfl rfl
@[simp] theorem x_aNil : aNil ρ = .ok [] := Eq.trans rfl rfl
@[simp] theorem x_aCons (f : En → Rs PyData) (g : En → Rs (List PyData)) : aCons f g ρ = (f ρ).bind fun d => (g ρ).bind fun ds => .ok (d :: ds) := Eq.trans rfl rfl
@[simp] theorem x_mkT (f : En → Rs (List PyData)) : mkT f ρ = (f ρ).bind fun ds => if ds.length ≤ mx then .ok (.tuple ds) else .bad := Eq.trans rfl rfl
@[simp] theorem x_mkL (f : En → Rs (List PyData)) : mkL f ρ = (f ρ).bind fun ds => if ds.length ≤ mx then .ok (.list ds) else .bad := Eq.trans rfl rfl
@[simp] theorem x_call (g : List PyData → Rs PyData) (f : En → Rs (List PyData)) : dCall g f ρ = (f ρ).bind g := Eq.trans rfl rfl
@[simp] theorem x_callB (g : List PyData → Rs PyData) (f : En → Rs (List PyData)) : dCallB g f ρ = (f ρ).bind fun ds => outF (g ds) := Eq.trans rfl rfl
@[simp] theorem x_iOf (op : PyData → Rs (List PyData)) (f : En → Rs PyData) : iOf op f ρ = (f ρ).bind op := Eq.trans rfl rfl
def rV1 : PyData → Rs (List PyData)
  | .int n => rngD 0 n
  | _ => .bad
def rV2 : PyData → PyData → Rs (List PyData)
  | .int m, .int n => rngD m n
  | _, _ => .bad
def rV3 : PyData → PyData → PyData → Rs (List PyData)
  | .int m, .int n, .int c => rng3 m n c
  | _, _, _ => .bad
@[simp] theorem rV1_i (n : Int) : rV1 (.int n) = rngD 0 n := Eq.trans rfl rfl
@[simp] theorem rV2_i (m n : Int) : rV2 (.int m) (.int n) = rngD m n := Eq.trans rfl rfl
@[simp] theorem rV3_i (m n c : Int) : rV3 (.int m) (.int n) (.int c) = rng3 m n c := Eq.trans rfl rfl
@[simp] theorem x_range1 (f : En → Rs PyData) : iRange1 f ρ = (f ρ).bind rV1 := by
  unfold iRange1
  refine congrArg _ (funext fun d => ?_)
  cases d <;> rfl
@[simp] theorem x_range2 (f g : En → Rs PyData) : iRange2 f g ρ = (f ρ).bind fun d => (g ρ).bind fun e => rV2 d e := by
  unfold iRange2
  refine congrArg _ (funext fun d => ?_)
  refine congrArg _ (funext fun e => ?_)
  cases d <;> cases e <;> rfl
@[simp] theorem x_range3 (f g h : En → Rs PyData) : iRange3 f g h ρ = (f ρ).bind fun d => (g ρ).bind fun e => (h ρ).bind fun k => rV3 d e k := by
  unfold iRange3
  refine congrArg _ (funext fun d => ?_)
  refine congrArg _ (funext fun e => ?_)
  refine congrArg _ (funext fun k => ?_)
  cases d <;> cases e <;> cases k <;> rfl
@[simp] theorem x_pNo : pNo ρ = .ok none := Eq.trans rfl rfl
def soV : PyData → Rs (Option Int)
  | .int i => .ok (some i)
  | _ => .bad
@[simp] theorem soV_i (i : Int) : soV (.int i) = .ok (some i) := Eq.trans rfl rfl
@[simp] theorem x_pSo (f : En → Rs PyData) : pSo f ρ = (f ρ).bind soV := by
  unfold pSo
  refine congrArg _ (funext fun d => ?_)
  cases d <;> rfl
@[simp] theorem x_cut (f : En → Rs PyData) (l h : En → Rs (Option Int)) : dCut f l h ρ = (f ρ).bind fun d => (l ρ).bind fun lo => (h ρ).bind fun hi => oCut lo hi d := Eq.trans rfl rfl
@[simp] theorem x_cutL (f : En → Rs PyData) (l h : En → Rs (Option Int)) : dCutL f l h ρ = (f ρ).bind fun d => (l ρ).bind fun lo => (h ρ).bind fun hi => oCutL lo hi d := Eq.trans rfl rfl
@[simp] theorem x_lc (vs : List Nat) (fi : En → Rs (List PyData)) (τ : TgD) (tt : En → Rs Bool) (te : En → Rs PyData) : lcD vs fi τ tt te ρ = (fi ρ).bind fun ds =>
  if ds.length ≤ mx && noOwn ρ vs then (lcL τ tt te ds (wipeE ρ vs)).bind fun r => .ok (.list r) else .bad := rfl
@[simp] theorem x_tY : tY ρ = .ok true := Eq.trans rfl rfl
@[simp] theorem x_tName (i : Nat) (d : PyData) : τName i d ρ = .ok (ρ.set i (some (.val d))) := Eq.trans rfl rfl
end
/-! ### slots of a written state -/
@[simp] theorem x_var0 (d : PyData) (ρ : En) : dVar 0 (some (.val d) :: ρ) = .ok d := Eq.trans rfl rfl
@[simp] theorem x_varS (i : Nat) (x : Option SV) (ρ : En) : dVar (i + 1) (x :: ρ) = dVar i ρ := Eq.trans rfl rfl
@[simp] theorem x_bvar0 (d : PyData) (ρ : En) : bVar 0 (some (.val d) :: ρ) = .ok d := Eq.trans rfl rfl
@[simp] theorem x_bvar0o (d : PyData) (ρ : En) : bVar 0 (some (.own d) :: ρ) = .ok d := Eq.trans rfl rfl
@[simp] theorem x_bvarS (i : Nat) (x : Option SV) (ρ : En) : bVar (i + 1) (x :: ρ) = bVar i ρ := Eq.trans rfl rfl
theorem frz_val {i : Nat} {ρ : En} {d : PyData} (h : ρ[i]? = some (some (.val d))) : frz i ρ = ρ := by unfold frz; rw [h]
theorem frz_own {i : Nat} {ρ : En} {d : PyData} (h : ρ[i]? = some (some (.own d))) : frz i ρ = ρ.set i (some (.val d)) := by unfold frz; rw [h]
@[simp] theorem frz_zero_own (d : PyData) (ρ : En) : frz 0 (some (.own d) :: ρ) = some (.val d) :: ρ := Eq.trans rfl rfl
@[simp] theorem frz_zero_val (d : PyData) (ρ : En) : frz 0 (some (.val d) :: ρ) = some (.val d) :: ρ := Eq.trans rfl rfl
@[simp] theorem frz_zero_none (ρ : En) : frz 0 (none :: ρ) = none :: ρ := Eq.trans rfl rfl
@[simp] theorem frz_succ (i : Nat) (x : Option SV) (ρ : En) : frz (i + 1) (x :: ρ) = x :: frz i ρ := by
  unfold frz
  rw [List.getElem?_cons_succ]
  cases e : ρ[i]? with
  | none => rfl
  | some y =>
    cases y with
    | none => rfl
    | some sv => cases sv <;> rfl
@[simp] theorem x_app (i : Nat) (f : En → Rs PyData) (ρ : En) (ds : List PyData) (h : ρ[i]? = some (some (.own (.list ds)))) : sApp i f ρ = eS ρ (f ρ) fun d => if ds.length < mx then .nx (ρ.set i (some (.own (.list (ds ++ [d]))))) else .bad := by
  unfold sApp
  rw [h]
/-! ### operations -/
@[simp] theorem tru_bool (b : Bool) : oTru (.bool b) = .ok b := Eq.trans rfl rfl
@[simp] theorem add_ii (i j : Int) : oAdd (.int i) (.int j) = .ok (.int (i + j)) := Eq.trans rfl rfl
@[simp] theorem add_ss (i j : Str) : oAdd (.str i) (.str j) = if i.length + j.length ≤ mx then .ok (.str (i ++ j)) else .bad := Eq.trans rfl rfl
@[simp] theorem add_tt (i j : List PyData) : oAdd (.tuple i) (.tuple j) = if i.length + j.length ≤ mx then .ok (.tuple (i ++ j)) else .bad := Eq.trans rfl rfl
@[simp] theorem add_ll (i j : List PyData) : oAdd (.list i) (.list j) = if i.length + j.length ≤ mx then .ok (.list (i ++ j)) else .bad := Eq.trans rfl rfl
@[simp] theorem addL_ll (i j : List PyData) : oAddL (.list i) (.list j) = if i.length + j.length ≤ mx then .ok (.list (i ++ j)) else .bad := Eq.trans rfl rfl
@[simp] theorem sub_ii (i j : Int) : oSub (.int i) (.int j) = .ok (.int (i - j)) := Eq.trans rfl rfl
@[simp] theorem mul_ii (i j : Int) : oMul (.int i) (.int j) = if mulOk i j then .ok (.int (i * j)) else .bad := Eq.trans rfl rfl
@[simp] theorem mod_ii (i j : Int) : oMod (.int i) (.int j) = if 0 < j then .ok (.int (i % j)) else .bad := Eq.trans rfl rfl
@[simp] theorem div_ii (i j : Int) : oDiv (.int i) (.int j) = if 0 < j ∧ j < 1073741824 then .ok (.int (i / j)) else .bad := Eq.trans rfl rfl
@[simp] theorem pow_18 : oPow (.int 10) (.int 18) = .ok (.int 1000000000000000000) := by
  simp only [oPow]
  have e : (decide ((0 : Int) ≤ 18) && decide ((18 : Int) ≤ 1000000) && decide ((10 : Int).natAbs < 18446744073709551616)) = true := by decide +kernel
  rw [if_pos e]
  have e2 : (10 : Int) ^ (18 : Int).toNat = 1000000000000000000 := by decide +kernel
  rw [e2]
@[simp] theorem lt_ii (i j : Int) : oLt (.int i) (.int j) = .ok (.bool (decide (i < j))) := Eq.trans rfl rfl
@[simp] theorem le_ii (i j : Int) : oLe (.int i) (.int j) = .ok (.bool (decide (i ≤ j))) := Eq.trans rfl rfl
@[simp] theorem gt_ii (i j : Int) : oGt (.int i) (.int j) = .ok (.bool (decide (j < i))) := Eq.trans rfl rfl
@[simp] theorem ge_ii (i j : Int) : oGe (.int i) (.int j) = .ok (.bool (decide (j ≤ i))) := Eq.trans rfl rfl
@[simp] theorem eq_ii (i j : Int) : oEq (.int i) (.int j) = .ok (.bool (decide (i = j))) := by
  have e : cmpOk (.int i) (.int j) = true := Eq.trans rfl rfl
  unfold oEq
  rw [if_pos e]
  have : PyData.eqv (.int i) (.int j) = (i == j) := by simp [PyData.eqv]
  rw [this, Bool.beq_eq_decide_eq]
@[simp] theorem ne_ii (i j : Int) : oNe (.int i) (.int j) = .ok (.bool (!decide (i = j))) := by
  have e : cmpOk (.int i) (.int j) = true := Eq.trans rfl rfl
  unfold oNe
  rw [if_pos e]
  have : PyData.eqv (.int i) (.int j) = (i == j) := by simp [PyData.eqv]
  rw [this, Bool.beq_eq_decide_eq]
@[simp] theorem eq_ss (i j : Str) : oEq (.str i) (.str j) = .ok (.bool (decide (i = j))) := by
  have e : cmpOk (.str i) (.str j) = true := Eq.trans rfl rfl
  unfold oEq
  rw [if_pos e]
  have : PyData.eqv (.str i) (.str j) = (i == j) := by simp [PyData.eqv]
  rw [this, Bool.beq_eq_decide_eq]
@[simp] theorem ne_ss (i j : Str) : oNe (.str i) (.str j) = .ok (.bool (!decide (i = j))) := by
  have e : cmpOk (.str i) (.str j) = true := Eq.trans rfl rfl
  unfold oNe
  rw [if_pos e]
  have : PyData.eqv (.str i) (.str j) = (i == j) := by simp [PyData.eqv]
  rw [this, Bool.beq_eq_decide_eq]
@[simp] theorem eq_bb (i j : Bool) : oEq (.bool i) (.bool j) = .ok (.bool (decide (i = j))) := by
  have e : cmpOk (.bool i) (.bool j) = true := Eq.trans rfl rfl
  unfold oEq
  rw [if_pos e]
  have : PyData.eqv (.bool i) (.bool j) = (i == j) := by simp [PyData.eqv]
  rw [this, Bool.beq_eq_decide_eq]
@[simp] theorem is_n : oIs .none .none = .ok (.bool true) := Eq.trans rfl rfl
@[simp] theorem is_i (i : Int) : oIs (.int i) .none = .ok (.bool false) := Eq.trans rfl rfl
@[simp] theorem is_b (i : Bool) : oIs (.bool i) .none = .ok (.bool false) := Eq.trans rfl rfl
@[simp] theorem is_s (i : Str) : oIs (.str i) .none = .ok (.bool false) := Eq.trans rfl rfl
@[simp] theorem is_t (i : List PyData) : oIs (.tuple i) .none = .ok (.bool false) := Eq.trans rfl rfl
@[simp] theorem is_l (i : List PyData) : oIs (.list i) .none = .ok (.bool false) := Eq.trans rfl rfl
@[simp] theorem isnot_n : oIsNot .none .none = .ok (.bool false) := Eq.trans rfl rfl
@[simp] theorem isnot_i (i : Int) : oIsNot (.int i) .none = .ok (.bool true) := Eq.trans rfl rfl
@[simp] theorem isnot_b (i : Bool) : oIsNot (.bool i) .none = .ok (.bool true) := Eq.trans rfl rfl
@[simp] theorem isnot_s (i : Str) : oIsNot (.str i) .none = .ok (.bool true) := Eq.trans rfl rfl
@[simp] theorem isnot_t (i : List PyData) : oIsNot (.tuple i) .none = .ok (.bool true) := Eq.trans rfl rfl
@[simp] theorem isnot_l (i : List PyData) : oIsNot (.list i) .none = .ok (.bool true) := Eq.trans rfl rfl
@[simp] theorem len_l (xs : List PyData) : oLen (.list xs) = .ok (.int xs.length) := Eq.trans rfl rfl
@[simp] theorem len_t (xs : List PyData) : oLen (.tuple xs) = .ok (.int xs.length) := Eq.trans rfl rfl
@[simp] theorem len_scr (xs : List PyData) : oLen (.dict [(.none, .list xs)]) = .ok (.int xs.length) := Eq.trans rfl rfl
@[simp] theorem len_s (z : Str) : oLen (.str z) = if z.length ≤ mx then .ok (.int z.length) else .bad := Eq.trans rfl rfl
@[simp] theorem int_i (i : Int) : oInt (.int i) = .ok (.int i) := Eq.trans rfl rfl
@[simp] theorem tuple_l (xs : List PyData) : oTuple (.list xs) = .ok (.tuple xs) := Eq.trans rfl rfl
@[simp] theorem tuple_t (xs : List PyData) : oTuple (.tuple xs) = .ok (.tuple xs) := Eq.trans rfl rfl
@[simp] theorem list_l (xs : List PyData) : oList (.list xs) = .ok (.list xs) := Eq.trans rfl rfl
@[simp] theorem list_t (xs : List PyData) : oList (.tuple xs) = .ok (.list xs) := Eq.trans rfl rfl
@[simp] theorem min_ii (i j : Int) : oMin2 (.int i) (.int j) = .ok (.int (if j < i then j else i)) := Eq.trans rfl rfl
@[simp] theorem max_ii (i j : Int) : oMax2 (.int i) (.int j) = .ok (.int (if j > i then j else i)) := Eq.trans rfl rfl
@[simp] theorem not_b (b : Bool) : oNot (.bool b) = .ok (.bool (!b)) := Eq.trans rfl rfl
@[simp] theorem neg_i (i : Int) : oNeg (.int i) = .ok (.int (-i)) := Eq.trans rfl rfl
@[simp] theorem ixl (xs : List PyData) (i : Int) : oIx (.list xs) (.int i) = match atI xs i with | some d => .ok d | none => .bad := Eq.trans rfl rfl
@[simp] theorem ixt (xs : List PyData) (i : Int) : oIx (.tuple xs) (.int i) = match atI xs i with | some d => .ok d | none => .bad := Eq.trans rfl rfl
@[simp] theorem ixs (xs : List PyData) (i : Int) : oIx (.dict [(.none, .list xs)]) (.int i) = match atI xs i with | some d => .ok d | none => .bad := Eq.trans rfl rfl
@[simp] theorem cut_l (lo hi : Option Int) (xs : List PyData) : oCut lo hi (.list xs) = .ok (.list (cutD xs lo hi)) := Eq.trans rfl rfl
@[simp] theorem cut_t (lo hi : Option Int) (xs : List PyData) : oCut lo hi (.tuple xs) = .ok (.tuple (cutD xs lo hi)) := Eq.trans rfl rfl
@[simp] theorem any_l (xs : List PyData) : oAny (.list xs) = .ok xs := Eq.trans rfl rfl
@[simp] theorem any_t (xs : List PyData) : oAny (.tuple xs) = .ok xs := Eq.trans rfl rfl
/-- an item at a written place -/
@[simp] theorem at0 {α : Type} (x : α) (xs : List α) : atI (x :: xs) 0 = some x := atI_nat (j := 0) rfl
theorem at_nat {α : Type} (xs : List α) (j : Nat) : atI xs (j : Int) = xs[j]? := by
  cases e : xs[j]? with
  | some v => exact atI_nat e
  | none =>
    unfold atI ixN
    have h : xs.length ≤ j := List.getElem?_eq_none_iff.mp e
    rw [if_pos (Int.natCast_nonneg j), if_neg (by omega)]
    rfl
@[simp] theorem at1 {α : Type} (x y : α) (xs : List α) : atI (x :: y :: xs) 1 = some y := at_nat _ 1
@[simp] theorem at2 {α : Type} (x y z : α) (xs : List α) : atI (x :: y :: z :: xs) 2 = some z := at_nat _ 2
@[simp] theorem at3 {α : Type} (x y z u : α) (xs : List α) : atI (x :: y :: z :: u :: xs) 3 = some u := at_nat _ 3
@[simp] theorem isTup_t (xs : List PyData) : oIsTup (.tuple xs) = .ok (.bool true) := Eq.trans rfl rfl
@[simp] theorem isTup_i (i : Int) : oIsTup (.int i) = .ok (.bool false) := Eq.trans rfl rfl
@[simp] theorem isTup_b (i : Bool) : oIsTup (.bool i) = .ok (.bool false) := Eq.trans rfl rfl
@[simp] theorem isTup_s (i : Str) : oIsTup (.str i) = .ok (.bool false) := Eq.trans rfl rfl
@[simp] theorem isTup_n : oIsTup .none = .ok (.bool false) := Eq.trans rfl rfl
@[simp] theorem isInt_t (xs : List PyData) : oIsInt (.tuple xs) = .ok (.bool false) := Eq.trans rfl rfl
@[simp] theorem isInt_i (i : Int) : oIsInt (.int i) = .ok (.bool true) := Eq.trans rfl rfl
@[simp] theorem isInt_b (i : Bool) : oIsInt (.bool i) = .ok (.bool true) := Eq.trans rfl rfl
@[simp] theorem isInt_s (i : Str) : oIsInt (.str i) = .ok (.bool false) := Eq.trans rfl rfl
@[simp] theorem isInt_n : oIsInt .none = .ok (.bool false) := Eq.trans rfl rfl
@[simp] theorem isBool_t (xs : List PyData) : oIsBool (.tuple xs) = .ok (.bool false) := Eq.trans rfl rfl
@[simp] theorem isBool_i (i : Int) : oIsBool (.int i) = .ok (.bool false) := Eq.trans rfl rfl
@[simp] theorem isBool_b (i : Bool) : oIsBool (.bool i) = .ok (.bool true) := Eq.trans rfl rfl
@[simp] theorem isBool_s (i : Str) : oIsBool (.str i) = .ok (.bool false) := Eq.trans rfl rfl
@[simp] theorem isBool_n : oIsBool .none = .ok (.bool false) := Eq.trans rfl rfl
@[simp] theorem isStr_t (xs : List PyData) : oIsStr (.tuple xs) = .ok (.bool false) := Eq.trans rfl rfl
@[simp] theorem isStr_i (i : Int) : oIsStr (.int i) = .ok (.bool false) := Eq.trans rfl rfl
@[simp] theorem isStr_b (i : Bool) : oIsStr (.bool i) = .ok (.bool false) := Eq.trans rfl rfl
@[simp] theorem isStr_s (i : Str) : oIsStr (.str i) = .ok (.bool true) := Eq.trans rfl rfl
@[simp] theorem isStr_n : oIsStr .none = .ok (.bool false) := Eq.trans rfl rfl
/-- a range of few turns -/
theorem rng_nat {n : Nat} (h : n ≤ 1000000000) : rngD 0 (n : Int) = .ok ((List.range n).map fun (k : Nat) => .int (k : Int)) := by
  unfold rngD
  have e : ((n : Int) - 0).toNat = n := by omega
  rw [e]
  have c : (decide (-4611686018427387904 ≤ (0 : Int)) && decide ((0 : Int) < 4611686018427387904) && decide (-4611686018427387904 ≤ (n : Int)) && decide ((n : Int) < 4611686018427387904) && decide (n ≤ 4611686018427387904)) = true := by
    simp only [Bool.and_eq_true, decide_eq_true_eq]
    omega
  rw [if_pos c]
  simp
@[simp] theorem mulOk_r {i j : Int} (h : -18446744073709551616 < j ∧ j < 18446744073709551616) : mulOk i j = true := by
  unfold mulOk
  simp [h.1, h.2]
theorem mulOk_l {i j : Int} (h : -18446744073709551616 < i ∧ i < 18446744073709551616) : mulOk i j = true := by
  unfold mulOk
  simp [h.1, h.2]
/-! ### ifs -/
section
variable {p : Prop} [Decidable p]
@[simp] theorem if_ok_true (d : Bool) : (if p then Rs.ok true else Rs.ok d) = Rs.ok (decide p || d) := by by_cases h : p <;> simp [h]
@[simp] theorem if_ok_false (d : Bool) : (if p then Rs.ok d else Rs.ok false) = Rs.ok (decide p && d) := by by_cases h : p <;> simp [h]
@[simp] theorem bind_if {α β : Type} (a b : Rs α) (k : α → Rs β) : (if p then a else b).bind k = if p then a.bind k else b.bind k := by by_cases h : p <;> simp [h]
@[simp] theorem eS_if {α : Type} (ρ : En) (a b : Rs α) (k : α → SRes) : eS ρ (if p then a else b) k = if p then eS ρ a k else eS ρ b k := by by_cases h : p <;> simp [h]
@[simp] theorem then_if (a b : SRes) (k : En → SRes) : sThen (if p then a else b) k = if p then sThen a k else sThen b k := by by_cases h : p <;> simp [h]
@[simp] theorem outS_if (a b : SRes) : outS (if p then a else b) = if p then outS a else outS b := by by_cases h : p <;> simp [h]
end
@[simp] theorem outS_ret (d : PyData) : outS (.ret d) = .ok d := Eq.trans rfl rfl
@[simp] theorem outS_nx (ρ : En) : outS (.nx ρ) = .ok .none := Eq.trans rfl rfl
@[simp] theorem outS_ex (e : Exn) (ρ : En) : outS (.ex e ρ) = .ex e := Eq.trans rfl rfl
@[simp] theorem outS_bad : outS .bad = .bad := Eq.trans rfl rfl
@[simp] theorem if_okb_true {p : Prop} [Decidable p] (d : Bool) : (if p then Rs.ok (PyData.bool true) else Rs.ok (.bool d)) = Rs.ok (.bool (decide p || d)) := by by_cases h : p <;> simp [h]
@[simp] theorem if_okb_false {p : Prop} [Decidable p] (d : Bool) : (if p then Rs.ok (PyData.bool d) else Rs.ok (.bool false)) = Rs.ok (.bool (decide p && d)) := by by_cases h : p <;> simp [h]
@[simp] theorem if_okb_f1 {p : Prop} [Decidable p] (d : Bool) : (if p then Rs.ok (PyData.bool false) else Rs.ok (.bool d)) = Rs.ok (.bool (!decide p && d)) := by by_cases h : p <;> simp [h]
@[simp] theorem if_okb_t2 {p : Prop} [Decidable p] (d : Bool) : (if p then Rs.ok (PyData.bool d) else Rs.ok (.bool true)) = Rs.ok (.bool (!decide p || d)) := by by_cases h : p <;> simp [h]
/-- a def that runs to its end -/
theorem runF_ret {n m : Nat} {b : En → SRes} {ds : List PyData} {d : PyData} (hl : ds.length = m) (h : b (ds.map (fun d => some (.val d)) ++ List.replicate (n - m) none) = .ret d) : runF n m b ds = .ok d := by
  unfold runF
  rw [if_pos hl, h]
  rfl
theorem runF_nx {n m : Nat} {b : En → SRes} {ds : List PyData} {ρ : En} (hl : ds.length = m) (h : b (ds.map (fun d => some (.val d)) ++ List.replicate (n - m) none) = .nx ρ) : runF n m b ds = .ok .none := by
  unfold runF
  rw [if_pos hl, h]
  rfl
end DL
namespace DL
open PySem PySem.Spec PyProof.Rows L2
/-! ### loops -/
/-- behind a turn -/
def AftD (r : SRes) (I : En → Prop) (R : SRes → Prop) : Prop := match r with
  | .nx ρ => I ρ
  | .ct ρ => I ρ
  | .brk ρ => R (.nx ρ)
  | r => R r
structure Aft (r : SRes) (I : En → Prop) (R : SRes → Prop) : Prop where
  out : AftD r I R
@[simp] theorem aft_nx (ρ : En) (I : En → Prop) (R : SRes → Prop) : Aft (.nx ρ) I R = I ρ := propext ⟨fun h => h.out, fun h => ⟨h⟩⟩
@[simp] theorem aft_ct (ρ : En) (I : En → Prop) (R : SRes → Prop) : Aft (.ct ρ) I R = I ρ := propext ⟨fun h => h.out, fun h => ⟨h⟩⟩
@[simp] theorem aft_brk (ρ : En) (I : En → Prop) (R : SRes → Prop) : Aft (.brk ρ) I R = R (.nx ρ) := propext ⟨fun h => h.out, fun h => ⟨h⟩⟩
@[simp] theorem aft_ret (d : PyData) (I : En → Prop) (R : SRes → Prop) : Aft (.ret d) I R = R (.ret d) := propext ⟨fun h => h.out, fun h => ⟨h⟩⟩
@[simp] theorem aft_ex (e : Exn) (ρ : En) (I : En → Prop) (R : SRes → Prop) : Aft (.ex e ρ) I R = R (.ex e ρ) := propext ⟨fun h => h.out, fun h => ⟨h⟩⟩
/-- by what is left -/
theorem for_ind {τ : TgD} {b : En → SRes} (I : List PyData → En → Prop) (R : SRes → Prop) (hs : ∀ d ds ρ, I (d :: ds) ρ → ∃ ρ1, τ d ρ = .ok ρ1 ∧ Aft (b ρ1) (I ds) R) (he : ∀ ρ, I [] ρ → R (.nx ρ)) : ∀ {ds : List PyData} {ρ : En}, I ds ρ → R (forS τ b ds ρ)
  | [], ρ, h => he ρ h
  | d :: ds, ρ, h => by
    obtain ⟨ρ1, e, q⟩ := hs d ds ρ h
    unfold forS
    rw [e]
    dsimp only
    have q := q.out
    cases eb : b ρ1 with
    | nx ρ' => rw [eb] at q; exact for_ind I R hs he q
    | ct ρ' => rw [eb] at q; exact for_ind I R hs he q
    | brk ρ' => rw [eb] at q; exact q
    | ret d => rw [eb] at q; exact q
    | ex x ρ' => rw [eb] at q; exact q
    | bad => rw [eb] at q; exact q
/-- over a range, one name -/
theorem for_rng {i : Nat} {b : En → SRes} (n : Nat) (I : Nat → En → Prop) (R : SRes → Prop) {ρ : En} (h0 : I 0 ρ) (hs : ∀ (k : Nat) ρ, k < n → I k ρ → Aft (b (ρ.set i (some (.val (.int (k : Int)))))) (I (k + 1)) R) (he : ∀ ρ, I n ρ → R (.nx ρ)) : R (forS (τName i) b ((List.range n).map fun (k : Nat) => .int (k : Int)) ρ) := by
  have go : ∀ (m k : Nat) (ρ : En), k + m = n → I k ρ → R (forS (τName i) b ((List.range' k m).map fun (k : Nat) => .int (k : Int)) ρ) := by
    intro m
    induction m with
    | zero => intro k ρ e h; exact he ρ (by rw [← e]; exact h)
    | succ m ih =>
      intro k ρ e h
      rw [List.range'_succ, List.map_cons]
      have q := (hs k ρ (by omega) h).out
      show R (match b (ρ.set i (some (.val (.int (k : Int))))) with
        | .nx ρ' => forS (τName i) b ((List.range' (k + 1) m).map fun (k : Nat) => .int (k : Int)) ρ'
        | .ct ρ' => forS (τName i) b ((List.range' (k + 1) m).map fun (k : Nat) => .int (k : Int)) ρ'
        | .brk ρ' => .nx ρ'
        | r => r)
      cases eb : b (ρ.set i (some (.val (.int (k : Int))))) with
      | nx ρ' => rw [eb] at q; exact ih (k + 1) ρ' (by omega) q
      | ct ρ' => rw [eb] at q; exact ih (k + 1) ρ' (by omega) q
      | brk ρ' => rw [eb] at q; exact q
      | ret d => rw [eb] at q; exact q
      | ex x ρ' => rw [eb] at q; exact q
      | bad => rw [eb] at q; exact q
  have e := go n 0 ρ (by omega) h0
  rwa [← List.range_eq_range'] at e
/-- draws: each below its size -/
inductive Dr : List Int → List Int → Prop
  | nil : Dr [] []
  | cons {o n : Int} {os ns : List Int} : 0 ≤ o → o < n → Dr os ns → Dr (o :: os) (n :: ns)
theorem Dr.length {os ns : List Int} (h : Dr os ns) : os.length = ns.length := by
  induction h with
  | nil => rfl
  | cons _ _ _ ih => rw [List.length_cons, List.length_cons, ih]
theorem Dr.get {os ns : List Int} (h : Dr os ns) {i : Nat} {n : Int} (e : ns[i]? = some n) : ∃ o, os[i]? = some o ∧ 0 ≤ o ∧ o < n := by
  induction h generalizing i with
  | nil => simp at e
  | cons h1 h2 _ ih =>
    cases i with
    | zero => simp at e; subst e; exact ⟨_, rfl, h1, h2⟩
    | succ i =>
      obtain ⟨o, q, r⟩ := ih (i := i) (by simpa using e)
      exact ⟨o, by simpa using q, r⟩
theorem Dr.snoc {os ns : List Int} {o n : Int} (h : Dr os ns) (h1 : 0 ≤ o) (h2 : o < n) : Dr (os ++ [o]) (ns ++ [n]) := by
  induction h with
  | nil => exact .cons h1 h2 .nil
  | cons a b _ ih => exact .cons a b ih
theorem at_int {α : Type} (xs : List α) {i : Int} (h : 0 ≤ i) : atI xs i = xs[i.toNat]? := by
  have e : i = ((i.toNat : Nat) : Int) := by omega
  rw [e, at_nat, Int.toNat_natCast]
theorem map_at {α β : Type} (f : α → β) (xs : List α) (i : Nat) : (xs.map f)[i]? = (xs[i]?).map f := List.getElem?_map
theorem ints_app (a : List Int) (x : Int) : a.map PyData.int ++ [.int x] = (a ++ [x]).map PyData.int := by rw [List.map_append]; rfl
end DL

/-! DM2: what every law draws, and how it compares. -/
namespace DL
open PySem PySem.Spec PyProof.Rows L2
@[simp] theorem mx_1 : (1 : Nat) ≤ mx := by decide
@[simp] theorem mx_2 : (2 : Nat) ≤ mx := by decide
@[simp] theorem mx_3 : (3 : Nat) ≤ mx := by decide
@[simp] theorem mx_4 : (4 : Nat) ≤ mx := by decide
@[simp] theorem mx_5 : (5 : Nat) ≤ mx := by decide
@[simp] theorem mx_6 : (6 : Nat) ≤ mx := by decide
@[simp] theorem mx_7 : (7 : Nat) ≤ mx := by decide
@[simp] theorem mx_8 : (8 : Nat) ≤ mx := by decide
@[simp] theorem mx_9 : (9 : Nat) ≤ mx := by decide
@[simp] theorem mx_10 : (10 : Nat) ≤ mx := by decide
@[simp] theorem mx_11 : (11 : Nat) ≤ mx := by decide
@[simp] theorem mx_12 : (12 : Nat) ≤ mx := by decide
@[simp] theorem mx_13 : (13 : Nat) ≤ mx := by decide
@[simp] theorem mx_14 : (14 : Nat) ≤ mx := by decide
@[simp] theorem mx_15 : (15 : Nat) ≤ mx := by decide
@[simp] theorem mx_16 : (16 : Nat) ≤ mx := by decide
@[simp] theorem mx_17 : (17 : Nat) ≤ mx := by decide
@[simp] theorem mx_18 : (18 : Nat) ≤ mx := by decide
@[simp] theorem mx_19 : (19 : Nat) ≤ mx := by decide
@[simp] theorem mx_20 : (20 : Nat) ≤ mx := by decide
@[simp] theorem mx_21 : (21 : Nat) ≤ mx := by decide
@[simp] theorem mx_22 : (22 : Nat) ≤ mx := by decide
@[simp] theorem mx_23 : (23 : Nat) ≤ mx := by decide
@[simp] theorem mx_24 : (24 : Nat) ≤ mx := by decide
@[simp] theorem mx_25 : (25 : Nat) ≤ mx := by decide
@[simp] theorem mx_26 : (26 : Nat) ≤ mx := by decide
@[simp] theorem mx_27 : (27 : Nat) ≤ mx := by decide
@[simp] theorem mx_28 : (28 : Nat) ≤ mx := by decide
@[simp] theorem mx_29 : (29 : Nat) ≤ mx := by decide
@[simp] theorem mx_30 : (30 : Nat) ≤ mx := by decide
@[simp] theorem mx_31 : (31 : Nat) ≤ mx := by decide
@[simp] theorem mx_32 : (32 : Nat) ≤ mx := by decide
@[simp] theorem mx_33 : (33 : Nat) ≤ mx := by decide
@[simp] theorem mx_34 : (34 : Nat) ≤ mx := by decide
@[simp] theorem mx_35 : (35 : Nat) ≤ mx := by decide
@[simp] theorem mx_36 : (36 : Nat) ≤ mx := by decide
@[simp] theorem mx_37 : (37 : Nat) ≤ mx := by decide
@[simp] theorem mx_38 : (38 : Nat) ≤ mx := by decide
@[simp] theorem mx_39 : (39 : Nat) ≤ mx := by decide
@[simp] theorem mx_40 : (40 : Nat) ≤ mx := by decide
@[simp] theorem mx_0 : (0 : Nat) < mx := by decide
def c_cell : En → SRes :=
  (sSeq (sIf (tst (b2 oLt (dVar 1) (b1 oLen (dVar 0))))
  (sRet (b1 oInt (b2 oIx (dVar 0) (dVar 1))))
  sNil)
  (sRet (dC (.int 0))))
def g_cell : List PyData → Rs PyData := runF 2 2 c_cell
def c_draws_1 : En → SRes :=
  (sSeq (sApp 2 (b2 oMod (b1 oInt (dVar 3)) (dVar 4)))
  (sSet 3 (b2 oDiv (dVar 3) (dVar 4))))
def c_draws_2 : En → SRes :=
  (sSeq (sSet 5 (b2 oMod (b1 oInt (b2 oAdd (b2 oAdd (b2 oMul (dVar 5) (dC (.int 39373))) (b2 oMul (dC (.int 6007)) (dVar 6))) (dC (.int 91)))) (dC (.int 2147483647))))
  (sSeq (sSet 7 (b2 oMod (b1 oInt (b2 oAdd (b2 oAdd (b2 oMul (b2 oDiv (dVar 5) (dC (.int 5))) (dC (.int 40692))) (b2 oMul (dC (.int 211)) (dVar 6))) (dC (.int 3)))) (dC (.int 2147483399))))
  (sApp 2 (b2 oMod (b1 oInt (dVar 7)) (b2 oIx (dVar 1) (dVar 6))))))
def c_draws : En → SRes :=
  (sSeq (sSetO 2 (mkL aNil))
  (sSeq (sIf (tst (b2 oGe (dVar 0) (b2 oPow (dC (.int 10)) (dC (.int 18)))))
  (sSeq (sSet 3 (b1 oInt (dVar 0)))
  (sSeq (sFor (iOf oAny (dVar 1)) (τName 4) c_draws_1)
  (sFrz 2 (sRet (dVar 2)))))
  sNil)
  (sSeq (sSet 5 (b2 oMod (b1 oInt (dVar 0)) (dC (.int 2147483647))))
  (sSeq (sFor (iRange1 (b1 oLen (dVar 1))) (τName 6) c_draws_2)
  (sFrz 2 (sRet (dVar 2)))))))
def g_draws : List PyData → Rs PyData := runF 8 2 c_draws
def c_same_1 (self : List PyData → Rs PyData) : En → SRes :=
  (sIf (tNotD (tst (dCall self (aCons (b2 oIx (dVar 0) (dVar 2)) (aCons (b2 oIx (dVar 1) (dVar 2)) aNil)))))
  (sRet (dC (.bool false)))
  sNil)
def c_same (self : List PyData → Rs PyData) : En → SRes :=
  (sSeq (sIf (tst (b1 oIsTup (dVar 1)))
  (sSeq (sIf (tOrD (tNotD (tst (b1 oIsTup (dVar 0)))) (tst (b2 oNe (b1 oLen (dVar 0)) (b1 oLen (dVar 1)))))
  (sRet (dC (.bool false)))
  sNil)
  (sSeq (sFor (iRange1 (b1 oLen (dVar 1))) (τName 2) (c_same_1 self))
  (sRet (dC (.bool true)))))
  sNil)
  (sSeq (sIf (tst (b2 oIs (dVar 1) (dC .none)))
  (sRet (b2 oIs (dVar 0) (dC .none)))
  sNil)
  (sSeq (sIf (tst (b1 oIsBool (dVar 1)))
  (sRet (vAnd (b1 oIsBool (dVar 0)) (b2 oEq (dVar 0) (dVar 1))))
  sNil)
  (sSeq (sIf (tst (b1 oIsInt (dVar 1)))
  (sRet (vAnd (b1 oIsInt (dVar 0)) (vAnd (b1 oNot (b1 oIsBool (dVar 0))) (b2 oEq (dVar 0) (dVar 1)))))
  sNil)
  (sRet (vAnd (b1 oIsStr (dVar 0)) (b2 oEq (dVar 0) (dVar 1))))))))
def g_same : Nat → List PyData → Rs PyData
  | 0 => fun _ => .bad
  | n + 1 => runF 3 2 (c_same (g_same n))
/-- over a list, by place -/
theorem for_at {τ : TgD} {b : En → SRes} (xs : List PyData) (I : Nat → En → Prop) (R : SRes → Prop) {ρ : En} (h0 : I 0 ρ) (hs : ∀ (k : Nat) d ρ, xs[k]? = some d → I k ρ → ∃ ρ1, τ d ρ = .ok ρ1 ∧ Aft (b ρ1) (I (k + 1)) R) (he : ∀ ρ, I xs.length ρ → R (.nx ρ)) : R (forS τ b xs ρ) := by
  refine for_ind (fun ds ρ => ∃ k, xs.drop k = ds ∧ k ≤ xs.length ∧ I k ρ) R ?_ ?_ ⟨0, rfl, Nat.zero_le _, h0⟩
  · rintro d ds ρ ⟨k, e, hk, hi⟩
    have hk' : k < xs.length := by
      rcases Nat.lt_or_ge k xs.length with h | h
      · exact h
      · rw [List.drop_eq_nil_of_le h] at e
        cases e
    have ek : xs[k]? = some d := by
      have := congrArg (·[0]?) e
      simpa using this
    obtain ⟨ρ1, t, q⟩ := hs k d ρ ek hi
    refine ⟨ρ1, t, ?_⟩
    have ed : xs.drop (k + 1) = ds := by
      have h2 := congrArg List.tail e
      rw [List.tail_drop] at h2
      exact h2
    have q := q.out
    refine ⟨?_⟩
    cases eb : b ρ1 with
    | nx ρ' => rw [eb] at q; exact ⟨k + 1, ed, hk', q⟩
    | ct ρ' => rw [eb] at q; exact ⟨k + 1, ed, hk', q⟩
    | brk ρ' => rw [eb] at q; exact q
    | ret d => rw [eb] at q; exact q
    | ex x ρ' => rw [eb] at q; exact q
    | bad => rw [eb] at q; exact q
  · rintro ρ ⟨k, e, hk, hi⟩
    have : k = xs.length := by
      have := congrArg List.length e
      simp at this
      omega
    subst this
    exact he ρ hi
theorem cell_ok (ns : List Int) (k : Nat) : ∃ c : Int, g_cell [scr ns, .int (k : Int)] = .ok (.int c) := by
  by_cases h : k < ns.length
  · refine ⟨ns[k], ?_⟩
    have h' : (k : Int) < (ns.length : Int) := by omega
    simp [g_cell, runF, c_cell, at_nat, h, List.getElem?_eq_getElem h]
  · refine ⟨0, ?_⟩
    have h' : ¬ (k : Int) < (ns.length : Int) := by omega
    simp [g_cell, runF, c_cell, h]
def Szs (ns : List Int) : Prop := ∀ n ∈ ns, 0 < n ∧ n < 1000000000
theorem Szs.app {a b : List Int} (h : Szs a) (g : Szs b) : Szs (a ++ b) := fun n hn => (List.mem_append.mp hn).elim (h n) (g n)
theorem szs_cons {n : Int} {ns : List Int} (h : Szs (n :: ns)) : (0 < n ∧ n < 1000000000) ∧ Szs ns := ⟨h n List.mem_cons_self, fun m hm => h m (List.mem_cons_of_mem _ hm)⟩
/-- the first loop: the number's digits -/
theorem huge_turn (c s z5 z6 z7 : Option SV) (acc : List Int) (rest n : Int) (h1 : 0 < n) (h2 : n < 1000000000) (hm : acc.length < mx) :
    c_draws_1 [c, s, some (.own (.list (acc.map .int))), some (.val (.int rest)), some (.val (.int n)), z5, z6, z7] = .nx [c, s, some (.own (.list ((acc ++ [rest % n]).map .int))), some (.val (.int (rest / n))), some (.val (.int n)), z5, z6, z7] := by
  have h3 : n < 1073741824 := by omega
  simp [c_draws_1, x_app, h1, h3, hm]
theorem huge_loop (c s z5 z6 z7 : Option SV) : ∀ (ns acc : List Int) (rest : Int) (z4 : Option SV), Szs ns → acc.length + ns.length ≤ 100000 →
    ∃ (os : List Int) (rest' : Int) (y4 : Option SV), forS (τName 4) c_draws_1 (ns.map .int)
      [c, s, some (.own (.list (acc.map .int))), some (.val (.int rest)), z4, z5, z6, z7] = .nx [c, s, some (.own (.list ((acc ++ os).map .int))), some (.val (.int rest')), y4, z5, z6, z7] ∧ Dr os ns
  | [], acc, rest, z4, _, _ => ⟨[], rest, z4, by rw [List.append_nil]; rfl, .nil⟩
  | n :: ns, acc, rest, z4, hs, hl => by
    obtain ⟨⟨h1, h2⟩, hs'⟩ := szs_cons hs
    have hl' : acc.length + (ns.length + 1) ≤ 100000 := hl
    have hm : acc.length < mx := by show _ < 16777216; omega
    obtain ⟨os, r', y4, e, d⟩ := huge_loop c s z5 z6 z7 ns (acc ++ [rest % n]) (rest / n) (some (.val (.int n))) hs' (by rw [List.length_append]; simp; omega)
    refine ⟨rest % n :: os, r', y4, ?_, .cons (Int.emod_nonneg _ (by omega)) (Int.emod_lt_of_pos _ h1) d⟩
    rw [List.append_assoc] at e
    rw [List.map_cons]
    unfold forS
    show (match c_draws_1 [c, s, some (.own (.list (acc.map .int))), some (.val (.int rest)), some (.val (.int n)), z5, z6, z7] with
      | .nx ρ' => forS (τName 4) c_draws_1 (ns.map .int) ρ'
      | .ct ρ' => forS (τName 4) c_draws_1 (ns.map .int) ρ'
      | .brk ρ' => .nx ρ'
      | r => r) = _
    rw [huge_turn c s z5 z6 z7 acc rest n h1 h2 hm]
    exact e
/-- the second loop -/
theorem mix_turn (c z3 z4 y7 : Option SV) (ns os : List Int) (m n : Int) (k : Nat) (hk : ns[k]? = some n) (h1 : 0 < n) (lo : os.length < mx) :
    ∃ m' o o', c_draws_2 [c, some (.val (.list (ns.map .int))), some (.own (.list (os.map .int))), z3, z4, some (.val (.int m)), some (.val (.int (k : Int))), y7] = .nx [c, some (.val (.list (ns.map .int))), some (.own (.list ((os ++ [o % n]).map .int))), z3, z4, some (.val (.int m')), some (.val (.int (k : Int))), some (.val (.int o'))] := by
  refine ⟨(m * 39373 + 6007 * (k : Int) + 91) % 2147483647, (((m * 39373 + 6007 * (k : Int) + 91) % 2147483647) / 5 * 40692 + 211 * (k : Int) + 3) % 2147483399, (((m * 39373 + 6007 * (k : Int) + 91) % 2147483647) / 5 * 40692 + 211 * (k : Int) + 3) % 2147483399, ?_⟩
  simp [c_draws_2, x_app, at_nat, hk, h1, lo, mulOk_l]
theorem mix_loop (c z3 z4 : Option SV) (ns : List Int) (hs : Szs ns) (hl : ns.length ≤ 100000) (m0 : Int) :
    ∃ (os : List Int) (y5 y6 y7 : Option SV), forS (τName 6) c_draws_2 ((List.range ns.length).map fun (k : Nat) => .int (k : Int))
      [c, some (.val (.list (ns.map .int))), some (.own (.list [])), z3, z4, some (.val (.int m0)), none, none] = .nx [c, some (.val (.list (ns.map .int))), some (.own (.list (os.map .int))), z3, z4, y5, y6, y7] ∧ Dr os ns := by
  refine for_rng ns.length (fun k ρ => ∃ (os : List Int) (m : Int) (y6 y7 : Option SV), ρ = [c, some (.val (.list (ns.map .int))), some (.own (.list (os.map .int))), z3, z4, some (.val (.int m)), y6, y7] ∧ Dr os (ns.take k))
    (fun r => ∃ (os : List Int) (y5 y6 y7 : Option SV), r = .nx [c, some (.val (.list (ns.map .int))), some (.own (.list (os.map .int))), z3, z4, y5, y6, y7] ∧ Dr os ns) ⟨[], m0, none, none, rfl, .nil⟩ ?_ ?_
  · rintro k ρ hk ⟨os, m, y6, y7, rfl, d⟩
    have en : ns[k]? = some ns[k] := List.getElem?_eq_getElem hk
    obtain ⟨hp, hp2⟩ := hs ns[k] (List.getElem_mem hk)
    have lo : os.length < mx := by
      rw [d.length, List.length_take]
      show _ < 16777216
      omega
    have tk : ns.take (k + 1) = ns.take k ++ [ns[k]] := by rw [List.take_add_one, en]; rfl
    obtain ⟨m', o, o', e⟩ := mix_turn c z3 z4 y7 ns os m ns[k] k en hp lo
    show Aft (c_draws_2 [c, some (.val (.list (ns.map .int))), some (.own (.list (os.map .int))), z3, z4, some (.val (.int m)), some (.val (.int (k : Int))), y7]) _ _
    rw [e, aft_nx]
    exact ⟨_, _, _, _, rfl, by rw [tk]; exact d.snoc (Int.emod_nonneg _ (by omega)) (Int.emod_lt_of_pos _ hp)⟩
  · rintro ρ ⟨os, m, y6, y7, rfl, d⟩
    rw [List.take_length] at d
    exact ⟨os, _, y6, y7, rfl, d⟩
theorem draws_ok (cell : Int) (ns : List Int) (hs : Szs ns) (hl : ns.length ≤ 100000) : ∃ os : List Int, g_draws [.int cell, .list (ns.map .int)] = .ok (.list (os.map .int)) ∧ Dr os ns := by
  by_cases h : 1000000000000000000 ≤ cell
  · obtain ⟨os, r', y4, e1, d1⟩ := huge_loop (some (.val (.int cell))) (some (.val (.list (ns.map .int)))) none none none ns [] cell none hs (by simpa using hl)
    refine ⟨os, ?_, d1⟩
    simp at e1
    simp [g_draws, runF, c_draws, h, e1]
  · obtain ⟨os, y5, y6, y7, e1, d1⟩ := mix_loop (some (.val (.int cell))) none none ns hs hl (cell % 2147483647)
    refine ⟨os, ?_, d1⟩
    simp [g_draws, runF, c_draws, h, rng_nat (show ns.length ≤ 1000000000 by omega), e1]
/-! ### same -/
def okD : Nat → PyData → Bool
  | 0, _ => false
  | n + 1, .tuple ds => ds.all (okD n) && decide (ds.length ≤ 1000000)
  | _ + 1, .list _ => false
  | _ + 1, .dict _ => false
  | _ + 1, _ => true
theorem same_tup (n : Nat) (ds : List PyData) (hl : ds.length ≤ 1000000) (ih : ∀ d ∈ ds, g_same n [d, d] = .ok (.bool true)) : g_same (n + 1) [.tuple ds, .tuple ds] = .ok (.bool true) := by
  have lp : ∃ z, forS (τName 2) (c_same_1 (g_same n)) ((List.range ds.length).map fun (k : Nat) => .int (k : Int)) [some (.val (.tuple ds)), some (.val (.tuple ds)), none] = .nx [some (.val (.tuple ds)), some (.val (.tuple ds)), z] := by
    refine for_rng ds.length (fun k ρ => ∃ z, ρ = [some (.val (.tuple ds)), some (.val (.tuple ds)), z]) (fun r => ∃ z, r = .nx [some (.val (.tuple ds)), some (.val (.tuple ds)), z]) ⟨none, rfl⟩ ?_ ?_
    · rintro k ρ hk ⟨z, rfl⟩
      have en : ds[k]? = some ds[k] := List.getElem?_eq_getElem hk
      have ih := ih ds[k] (List.getElem_mem hk)
      simp [c_same_1, at_nat, en, ih]
    · rintro ρ ⟨z, rfl⟩
      exact ⟨z, rfl⟩
  obtain ⟨z, e⟩ := lp
  simp [g_same, runF, c_same, rng_nat (show ds.length ≤ 1000000000 by omega), e]
theorem same_ok (n : Nat) : ∀ (d : PyData), okD n d = true → g_same n [d, d] = .ok (.bool true) := by
  induction n with
  | zero => intro d h; simp [okD] at h
  | succ n ih =>
    intro d h
    cases d with
    | none => simp [g_same, runF, c_same]
    | bool b => simp [g_same, runF, c_same]
    | int b => simp [g_same, runF, c_same]
    | str b => simp [g_same, runF, c_same]
    | list b => simp [okD] at h
    | dict b => simp [okD] at h
    | tuple ds =>
      unfold okD at h
      simp only [Bool.and_eq_true, List.all_eq_true, decide_eq_true_eq] at h
      exact same_tup n ds h.2 fun d hd => ih d (h.1 d hd)
theorem fits {i : Int} (h : -9223372036854775808 ≤ i ∧ i < 9223372036854775808) : Builtin.Range.rangeFitsLong i = true := by
  unfold Builtin.Range.rangeFitsLong
  have e : (2 : Int) ^ 63 = 9223372036854775808 := by decide +kernel
  rw [e, Bool.and_eq_true, decide_eq_true_eq, decide_eq_true_eq]
  exact h
/-- a rising range of few turns -/
theorem rng3_nat {n : Nat} {c : Int} (h : n ≤ 1000000) (hc : 0 < c ∧ c < 1000000) : ∃ ks : List Nat, rng3 0 (n : Int) c = .ok (ks.map fun (k : Nat) => .int (k : Int)) ∧ ∀ k ∈ ks, k < n := by
  have hs : Builtin.Range.rangeSize 0 (n : Int) c = if (0 : Int) < n then ((n : Int) - 0 - 1) / c + 1 else 0 := by
    unfold Builtin.Range.rangeSize
    rw [if_pos hc.1]
  have b : 0 ≤ Builtin.Range.rangeSize 0 (n : Int) c ∧ Builtin.Range.rangeSize 0 (n : Int) c ≤ n ∧ (Builtin.Range.rangeSize 0 (n : Int) c = 0 ∨ (Builtin.Range.rangeSize 0 (n : Int) c - 1) * c ≤ n - 1) := by
    rw [hs]
    split
    · have d1 : 0 ≤ ((n : Int) - 0 - 1) / c := Int.ediv_nonneg (by omega) (by omega)
      have d2 : ((n : Int) - 0 - 1) / c ≤ ((n : Int) - 0 - 1) := Int.ediv_le_self _ (by omega)
      have d3 : ((n : Int) - 0 - 1) / c * c ≤ ((n : Int) - 0 - 1) := Int.ediv_mul_le _ (by omega)
      refine ⟨by omega, by omega, .inr ?_⟩
      rw [Int.add_sub_cancel]
      omega
    · exact ⟨by omega, by omega, .inl rfl⟩
  have sm : Builtin.Range.small 0 (n : Int) c = true := by
    unfold Builtin.Range.small
    rw [if_pos hc.1, fits (by omega), fits (i := (n : Int)) (by omega), fits (i := c) (by omega), fits (i := Builtin.Range.rangeSize 0 (n : Int) c) (by omega), fits (i := (n : Int) + (c - 1)) (by omega)]
    simp
  unfold rng3
  generalize Builtin.Range.rangeSize 0 (n : Int) c = z at *
  rw [if_pos]
  · refine ⟨(List.range z.toNat).map fun k => k * c.toNat, ?_, ?_⟩
    · rw [List.map_map]
      refine congrArg Rs.ok (List.map_congr_left fun k _ => ?_)
      show PyData.int _ = PyData.int _
      rw [Int.zero_add, Int.natCast_mul, Int.toNat_of_nonneg (by omega)]
    · intro k hk
      obtain ⟨i, hi, rfl⟩ := List.mem_map.mp hk
      have hi' := List.mem_range.mp hi
      have q : (i : Int) * c ≤ (z - 1) * c := Int.mul_le_mul_of_nonneg_right (by omega) (by omega)
      have q2 : ((i * c.toNat : Nat) : Int) = (i : Int) * c := by rw [Int.natCast_mul, Int.toNat_of_nonneg (by omega)]
      omega
  · rw [sm]
    simp only [Bool.and_eq_true, decide_eq_true_eq]
    refine ⟨⟨⟨⟨?_, ?_⟩, trivial⟩, ?_⟩, ?_⟩ <;> omega
theorem cut_map {α β : Type} (f : α → β) (xs : List α) (lo hi : Option Int) : cutD (xs.map f) lo hi = (cutD xs lo hi).map f := by
  unfold cutD
  rw [List.length_map, List.map_take, List.map_drop]
theorem cut_len {α : Type} (xs : List α) (lo hi : Option Int) : (cutD xs lo hi).length ≤ xs.length := by
  unfold cutD
  rw [List.length_take, List.length_drop]
  omega
theorem cut_mem {α : Type} {xs : List α} {lo hi : Option Int} {x : α} (h : x ∈ cutD xs lo hi) : x ∈ xs := List.mem_of_mem_drop (List.mem_of_mem_take h)
theorem lcL_map {α : Type} {τ : TgD} {tt : En → Rs Bool} {te : En → Rs PyData} {ρ : En} (f g : α → PyData) (p : α → Bool) (ρ1 : α → En) : ∀ (xs : List α), (∀ x ∈ xs, τ (f x) ρ = .ok (ρ1 x) ∧ tt (ρ1 x) = .ok (p x) ∧ (p x = true → te (ρ1 x) = .ok (g x))) → lcL τ tt te (xs.map f) ρ = .ok ((xs.filter p).map g)
  | [], _ => rfl
  | x :: xs, h => by
    obtain ⟨h1, h2, h3⟩ := h x List.mem_cons_self
    have ih := lcL_map f g p ρ1 xs fun y hy => h y (List.mem_cons_of_mem _ hy)
    rw [List.map_cons]
    unfold lcL
    rw [h1]
    dsimp only
    rw [h2]
    cases hp : p x with
    | true =>
      dsimp only
      rw [h3 hp, ih, List.filter_cons_of_pos hp]
      rfl
    | false =>
      dsimp only
      rw [ih, List.filter_cons_of_neg (by rw [hp]; exact Bool.false_ne_true)]
end DL

/-! DM3: names (many laws draw them). -/
namespace DL
open PySem PySem.Spec PyProof.Rows L2
/-! ### texts -/
theorem len_app (a b : Str) : (a ++ b).length = a.length + b.length := by
  show (a.cps ++ b.cps).size = _
  rw [Array.size_append]
  rfl
theorem len_one (c : Nat) : (⟨#[c]⟩ : Str).length = 1 := rfl
theorem cutS_len (z : Str) (lo hi : Option Int) : (cutS z lo hi).length ≤ z.length := by
  show (List.toArray _).size ≤ z.cps.size
  rw [List.size_toArray, List.length_take, List.length_drop, Array.length_toList]
  show _ ≤ z.length
  have : z.cps.size = z.length := rfl
  omega
theorem join_len (ys : List Str) (h : ∀ y ∈ ys, y.length ≤ 1) : (ys.map (·.length)).sum ≤ ys.length := by
  induction ys with
  | nil => exact Nat.le_refl _
  | cons y ys ih =>
    rw [List.map_cons, List.sum_cons, List.length_cons]
    have h1 := h y List.mem_cons_self
    have h2 := ih fun z hz => h z (List.mem_cons_of_mem _ hz)
    omega
theorem txt_join_len (a : Str) (ys : List Str) : (Txt.join a ys).length ≤ (ys.map (·.length)).sum + ys.length * a.length := by
  unfold Txt.join
  rw [StrLaws.glued_eq_join]
  exact StrLaws.join_length_le a ys
@[simp] theorem cut_s (lo hi : Option Int) (z : Str) : oCut lo hi (.str z) = if z.length ≤ mx then .ok (.str (cutS z lo hi)) else .bad := Eq.trans rfl rfl
theorem ix_str {z : Str} {n : Nat} (hz : z.cps.toList.length = n) (hn : n ≤ 1000) {i : Int} (h0 : 0 ≤ i) (h1 : i < n) : ∃ c : Nat, oIx (.str z) (.int i) = .ok (.str ⟨#[c]⟩) := by
  have hl : z.length ≤ mx := by
    have : z.length = z.cps.toList.length := by rw [Array.length_toList]; rfl
    rw [this, hz]
    show _ ≤ 16777216
    omega
  have e : atI z.cps.toList i = z.cps.toList[i.toNat]? := at_int _ h0
  have hi : i.toNat < z.cps.toList.length := by omega
  refine ⟨z.cps.toList[i.toNat], ?_⟩
  have q : oIx (.str z) (.int i) = if z.length ≤ mx then (match atI z.cps.toList i with | some c => .ok (.str ⟨#[c]⟩) | none => .bad) else .bad := rfl
  rw [q, if_pos hl, e, List.getElem?_eq_getElem hi]
theorem ix_str0 {z : Str} (h : 1 ≤ z.length) (h2 : z.length ≤ 1000) : ∃ c : Nat, oIx (.str z) (.int 0) = .ok (.str ⟨#[c]⟩) := by
  refine ix_str (n := z.length) (by rw [Array.length_toList]; rfl) h2 (Int.le_refl 0) (by omega)
theorem oStr_of {i : Int} (h : i.natAbs.log2 < 1920) : oStr (.int i) = .ok (.str (toString i)) := by
  simp only [oStr]
  exact if_pos h
theorem str_small {i : Int} (h0 : 0 ≤ i) (h1 : i < 10) : ∃ z : Str, oStr (.int i) = .ok (.str z) ∧ z.length = 1 := by
  have : i = 0 ∨ i = 1 ∨ i = 2 ∨ i = 3 ∨ i = 4 ∨ i = 5 ∨ i = 6 ∨ i = 7 ∨ i = 8 ∨ i = 9 := by omega
  rcases this with rfl | rfl | rfl | rfl | rfl | rfl | rfl | rfl | rfl | rfl <;> exact ⟨_, oStr_of (by decide +kernel), by decide +kernel⟩
theorem lcL_ex {τ : TgD} {te : En → Rs PyData} {ρ : En} (P : PyData → Prop) : ∀ (xs : List PyData), (∀ d ∈ xs, ∃ ρ1 y, τ d ρ = .ok ρ1 ∧ te ρ1 = .ok y ∧ P y) → ∃ ys, lcL τ tY te xs ρ = .ok ys ∧ ys.length = xs.length ∧ ∀ y ∈ ys, P y
  | [], _ => ⟨[], rfl, rfl, fun y h => by cases h⟩
  | d :: ds, h => by
    obtain ⟨ρ1, y, e1, e2, p⟩ := h d List.mem_cons_self
    obtain ⟨ys, e, l, q⟩ := lcL_ex P ds fun z hz => h z (List.mem_cons_of_mem _ hz)
    refine ⟨y :: ys, ?_, by rw [List.length_cons, List.length_cons, l], fun z hz => ?_⟩
    · unfold lcL
      rw [e1]
      show (match te ρ1 with
        | .ok y => (lcL τ tY te ds ρ).bind fun r => .ok (y :: r)
        | _ => .bad) = _
      rw [e2, e]
      rfl
    · rcases List.mem_cons.mp hz with h | h
      · rw [h]; exact p
      · exact q z h
/-! ### names -/
def ce_names : En → Rs PyData :=
  (b2 oIx (dVar 3) (b2 oIx (dVar 4) (b2 oAdd (dC (.int 5)) (dVar 6))))
def cl_names : En → SRes :=
  (sSeq (sSet 9 (b2 oAdd (b2 oIx (dVar 2) (b2 oMod (b1 oInt (b2 oAdd (b2 oMul (dVar 6) (dC (.int 5))) (b2 oIx (dVar 4) (dC (.int 4))))) (dC (.int 26)))) (b1 oStr (b2 oDiv (dVar 6) (dC (.int 26))))))
  (sSeq (sSet 10 (dCut (dVar 5) pNo (pSo (b2 oMod (b1 oInt (b2 oAdd (b2 oIx (dVar 4) (dC (.int 1))) (b2 oMul (dC (.int 3)) (dVar 6)))) (dC (.int 11))))))
  (sIf (tAndD (tst (b2 oEq (b2 oIx (dVar 4) (dC (.int 0))) (dC (.int 0)))) (tst (b2 oLe (dVar 1) (dC (.int 26)))))
  (sApp 8 (b2 oIx (dVar 9) (dC (.int 0))))
  (sIf (tst (b2 oLe (b2 oIx (dVar 4) (dC (.int 0))) (dC (.int 1))))
  (sApp 8 (b2 oAdd (b2 oAdd (dCut (dVar 5) pNo (pSo (dVar 7))) (dVar 9)) (dCut (dVar 5) (pSo (dVar 7)) (pSo (b2 oIx (dVar 4) (dC (.int 1)))))))
  (sIf (tst (b2 oEq (b2 oIx (dVar 4) (dC (.int 0))) (dC (.int 2))))
  (sApp 8 (b2 oAdd (dVar 10) (dVar 9)))
  (sApp 8 (b2 oAdd (dVar 9) (dVar 10))))))))
def c_names : En → SRes :=
  (sSeq (sSet 2 (dC (.str "qwertzuiopasdfghjklyxcvbnm")))
  (sSeq (sSet 3 (dC (.str "abcdefghijklmnopqrstuvwxyz0123456789")))
  (sSeq (sSet 4 (dCall g_draws (aCons (dVar 0) (aCons (b2 oAdd (mkL (aCons (dC (.int 4)) (aCons (dC (.int 11)) (aCons (dC (.int 11)) (aCons (dC (.int 26)) (aCons (dC (.int 26)) aNil)))))) (b2 oMul (mkL (aCons (dC (.int 36)) aNil)) (dC (.int 9)))) aNil))))
  (sSeq (sSet 5 (b2 oAdd (b2 oIx (dVar 2) (b2 oIx (dVar 4) (dC (.int 3)))) (strM oJoin (dC (.str "")) (lcD [6] (iRange1 (dC (.int 9))) (τName 6) tY ce_names))))
  (sSeq (sSet 7 (b2 oMod (b1 oInt (b2 oIx (dVar 4) (dC (.int 2)))) (b2 oAdd (b2 oIx (dVar 4) (dC (.int 1))) (dC (.int 1)))))
  (sSeq (sSetO 8 (mkL aNil))
  (sSeq (sFor (iRange1 (dVar 1)) (τName 6) cl_names)
  (sFrz 8 (sRet (dVar 8))))))))))
def g_names : List PyData → Rs PyData := runF 11 2 c_names
abbrev L26 : Str := "qwertzuiopasdfghjklyxcvbnm"
abbrev S36 : Str := "abcdefghijklmnopqrstuvwxyz0123456789"
theorem l26 : L26.cps.toList.length = 26 := by decide +kernel
theorem s36 : S36.cps.toList.length = 36 := by decide +kernel
def name1 (z : Str) : Prop := 1 ≤ z.length ∧ z.length ≤ 30
theorem names_turn {A B : Str} (hA : A.cps.toList.length = 26) (cell zm z6 z7 z9 z10 : Option SV) (os : List Int) (stem : Str) (zs : List Str) (k many : Nat) (d0 d1 d4 pl : Int) (h0 : os[0]? = some d0) (h1 : os[1]? = some d1) (h4 : os[4]? = some d4) (hs : stem.length ≤ 10) (hk : k < 200) (lz : zs.length < mx) :
    ∃ z y9 y10, cl_names [cell, some (.val (.int (many : Int))), some (.val (.str A)), some (.val (.str B)), some (.val (.list (os.map .int))), some (.val (.str stem)), some (.val (.int (k : Int))), some (.val (.int pl)), some (.own (.list (zs.map .str))), z9, z10]
      = .nx [cell, some (.val (.int (many : Int))), some (.val (.str A)), some (.val (.str B)), some (.val (.list (os.map .int))), some (.val (.str stem)), some (.val (.int (k : Int))), some (.val (.int pl)), some (.own (.list ((zs ++ [z]).map .str))), y9, y10] ∧ name1 z := by
  have a0 : atI (os.map PyData.int) 0 = some (.int d0) := by rw [show (0 : Int) = ((0 : Nat) : Int) from rfl, at_nat, map_at, h0]; rfl
  have a1 : atI (os.map PyData.int) 1 = some (.int d1) := by rw [show (1 : Int) = ((1 : Nat) : Int) from rfl, at_nat, map_at, h1]; rfl
  have a4 : atI (os.map PyData.int) 4 = some (.int d4) := by rw [show (4 : Int) = ((4 : Nat) : Int) from rfl, at_nat, map_at, h4]; rfl
  obtain ⟨c, hc⟩ := ix_str (z := A) hA (by decide) (i := ((k : Int) * 5 + d4) % 26) (Int.emod_nonneg _ (by omega)) (Int.emod_lt_of_pos _ (by omega))
  obtain ⟨n, hn, ln⟩ := str_small (i := (k : Int) / 26) (Int.ediv_nonneg (by omega) (by omega)) (by omega)
  have cl : ((⟨#[c]⟩ : Str) ++ n).length = 2 := by rw [len_app, ln]; rfl
  have m1 : (⟨#[c]⟩ : Str).length + n.length ≤ mx := by rw [ln, len_one]; decide
  have m2 : stem.length ≤ mx := by show _ ≤ 16777216; omega
  obtain ⟨c2, hc2⟩ := ix_str0 (z := (⟨#[c]⟩ : Str) ++ n) (by rw [cl]; omega) (by rw [cl]; omega)
  have q1 := cutS_len stem none (some ((d1 + 3 * (k : Int)) % 11))
  have q2 := cutS_len stem none (some pl)
  have q3 := cutS_len stem (some pl) (some d1)
  have m3 : (cutS stem none (some ((d1 + 3 * (k : Int)) % 11))).length + ((⟨#[c]⟩ : Str) ++ n).length ≤ mx := by rw [cl]; show _ ≤ 16777216; omega
  have m4 : ((⟨#[c]⟩ : Str) ++ n).length + (cutS stem none (some ((d1 + 3 * (k : Int)) % 11))).length ≤ mx := by rw [cl]; show _ ≤ 16777216; omega
  have m5 : (cutS stem none (some pl)).length + ((⟨#[c]⟩ : Str) ++ n).length ≤ mx := by rw [cl]; show _ ≤ 16777216; omega
  have m6 : (cutS stem none (some pl) ++ ((⟨#[c]⟩ : Str) ++ n)).length + (cutS stem (some pl) (some d1)).length ≤ mx := by rw [len_app, cl]; show _ ≤ 16777216; omega
  by_cases e1 : d0 = 0 ∧ (many : Int) ≤ 26
  · refine ⟨⟨#[c2]⟩, some (.val (.str ((⟨#[c]⟩ : Str) ++ n))), some (.val (.str (cutS stem none (some ((d1 + 3 * (k : Int)) % 11))))), ?_, by rw [len_one]; decide, by rw [len_one]; decide⟩
    simp [cl_names, x_app, a0, a1, a4, hc, hn, m1, m2, hc2, lz, e1.1, e1.2, mulOk_l]
  · by_cases e2 : d0 ≤ 1
    · refine ⟨(cutS stem none (some pl) ++ ((⟨#[c]⟩ : Str) ++ n)) ++ cutS stem (some pl) (some d1), some (.val (.str ((⟨#[c]⟩ : Str) ++ n))), some (.val (.str (cutS stem none (some ((d1 + 3 * (k : Int)) % 11))))), ?_, ?_, ?_⟩
      · simp [cl_names, x_app, a0, a1, a4, hc, hn, m1, m2, lz, e2, mulOk_l, e1, m5, m6]
      · rw [len_app, len_app, cl]; omega
      · rw [len_app, len_app, cl]; omega
    · by_cases e3 : d0 = 2
      · refine ⟨cutS stem none (some ((d1 + 3 * (k : Int)) % 11)) ++ ((⟨#[c]⟩ : Str) ++ n), some (.val (.str ((⟨#[c]⟩ : Str) ++ n))), some (.val (.str (cutS stem none (some ((d1 + 3 * (k : Int)) % 11))))), ?_, ?_, ?_⟩
        · simp [cl_names, x_app, a0, a1, a4, hc, hn, m1, m2, lz, e2, mulOk_l, e1, m3, e3]
        · rw [len_app, cl]; omega
        · rw [len_app, cl]; omega
      · refine ⟨((⟨#[c]⟩ : Str) ++ n) ++ cutS stem none (some ((d1 + 3 * (k : Int)) % 11)), some (.val (.str ((⟨#[c]⟩ : Str) ++ n))), some (.val (.str (cutS stem none (some ((d1 + 3 * (k : Int)) % 11))))), ?_, ?_, ?_⟩
        · simp [cl_names, x_app, a0, a1, a4, hc, hn, m1, m2, lz, e2, mulOk_l, e1, m4, e3]
        · rw [len_app, cl]; omega
        · rw [len_app, cl]; omega
theorem names_loop {A B : Str} (hA : A.cps.toList.length = 26) (cell : Int) (many : Nat) (os : List Int) (stem : Str) (d0 d1 d4 pl : Int) (h0 : os[0]? = some d0) (h1 : os[1]? = some d1) (h4 : os[4]? = some d4) (hs : stem.length ≤ 10) (hm : many ≤ 200) :
    ∃ (zs : List Str) (z6 z9 z10 : Option SV), forS (τName 6) cl_names ((List.range many).map fun (k : Nat) => .int (k : Int)) [some (.val (.int cell)), some (.val (.int (many : Int))), some (.val (.str A)), some (.val (.str B)), some (.val (.list (os.map .int))), some (.val (.str stem)), none, some (.val (.int pl)), some (.own (.list [])), none, none]
      = .nx [some (.val (.int cell)), some (.val (.int (many : Int))), some (.val (.str A)), some (.val (.str B)), some (.val (.list (os.map .int))), some (.val (.str stem)), z6, some (.val (.int pl)), some (.own (.list (zs.map .str))), z9, z10] ∧ zs.length = many ∧ ∀ z ∈ zs, name1 z := by
  refine for_rng many (fun k ρ => ∃ (zs : List Str) (z6 z9 z10 : Option SV), ρ = [some (.val (.int cell)), some (.val (.int (many : Int))), some (.val (.str A)), some (.val (.str B)), some (.val (.list (os.map .int))), some (.val (.str stem)), z6, some (.val (.int pl)), some (.own (.list (zs.map .str))), z9, z10] ∧ zs.length = k ∧ ∀ z ∈ zs, name1 z)
    (fun r => ∃ (zs : List Str) (z6 z9 z10 : Option SV), r = .nx [some (.val (.int cell)), some (.val (.int (many : Int))), some (.val (.str A)), some (.val (.str B)), some (.val (.list (os.map .int))), some (.val (.str stem)), z6, some (.val (.int pl)), some (.own (.list (zs.map .str))), z9, z10] ∧ zs.length = many ∧ ∀ z ∈ zs, name1 z)
    ⟨[], none, none, none, rfl, rfl, fun z h => by cases h⟩ ?_ ?_
  · intro k ρ hk hI
    have step : ∀ (zs : List Str) (z6 z9 z10 : Option SV), zs.length = k → (∀ z ∈ zs, name1 z) → Aft (cl_names [some (.val (.int cell)), some (.val (.int (many : Int))), some (.val (.str A)), some (.val (.str B)), some (.val (.list (os.map .int))), some (.val (.str stem)), some (.val (.int (k : Int))), some (.val (.int pl)), some (.own (.list (zs.map .str))), z9, z10]) (fun ρ => ∃ (zs : List Str) (z6 z9 z10 : Option SV), ρ = [some (.val (.int cell)), some (.val (.int (many : Int))), some (.val (.str A)), some (.val (.str B)), some (.val (.list (os.map .int))), some (.val (.str stem)), z6, some (.val (.int pl)), some (.own (.list (zs.map .str))), z9, z10] ∧ zs.length = k + 1 ∧ ∀ z ∈ zs, name1 z)
        (fun r => ∃ (zs : List Str) (z6 z9 z10 : Option SV), r = .nx [some (.val (.int cell)), some (.val (.int (many : Int))), some (.val (.str A)), some (.val (.str B)), some (.val (.list (os.map .int))), some (.val (.str stem)), z6, some (.val (.int pl)), some (.own (.list (zs.map .str))), z9, z10] ∧ zs.length = many ∧ ∀ z ∈ zs, name1 z) := fun zs z6 z9 z10 lz hz => by
      obtain ⟨z, y9, y10, t, n1⟩ := names_turn hA (some (.val (.int cell))) z6 z6 none z9 z10 os stem zs k many d0 d1 d4 pl h0 h1 h4 hs (by omega) (by show _ < 16777216; omega)
      rw [t, aft_nx]
      refine ⟨_, _, _, _, rfl, by simp [lz], fun v hv => ?_⟩
      rcases List.mem_append.mp hv with h | h
      · exact hz v h
      · rw [List.mem_singleton.mp h]; exact n1
    exact hI.elim fun zs h => h.elim fun z6 h => h.elim fun z9 h => h.elim fun z10 h => by
      rw [h.1]
      exact step zs z6 z9 z10 h.2.1 h.2.2
  · intro ρ h
    exact h.elim fun zs h => h.elim fun z6 h => h.elim fun z9 h => h.elim fun z10 h => ⟨zs, z6, z9, z10, by rw [h.1], h.2⟩
theorem names_ok (cell : Int) (many : Nat) (hm : many ≤ 200) : ∃ zs : List Str, g_names [.int cell, .int (many : Int)] = .ok (.list (zs.map .str)) ∧ zs.length = many ∧ ∀ z ∈ zs, name1 z := by
  have hsz : Szs [4, 11, 11, 26, 26, 36, 36, 36, 36, 36, 36, 36, 36, 36] := by intro m hm; simp at hm; omega
  obtain ⟨os, e, d⟩ := draws_ok cell _ hsz (by decide)
  obtain ⟨d0, h0, _, _⟩ := d.get (i := 0) rfl
  obtain ⟨d1, h1, g1, _⟩ := d.get (i := 1) rfl
  obtain ⟨d2, h2, g2, _⟩ := d.get (i := 2) rfl
  obtain ⟨d3, h3, g3, g3'⟩ := d.get (i := 3) rfl
  obtain ⟨d4, h4, _, _⟩ := d.get (i := 4) rfl
  have at_ : ∀ {i : Nat} {x : Int}, os[i]? = some x → atI (os.map PyData.int) (i : Int) = some (.int x) := fun {i x} h => by rw [at_nat, map_at, h]; rfl
  have a1 := at_ h1
  have a2 := at_ h2
  have a3 := at_ h3
  simp at a1 a2 a3
  obtain ⟨c, hc⟩ := ix_str (z := L26) l26 (by decide) g3 g3'
  -- the signs
  obtain ⟨ys, ey, ly, py⟩ := lcL_ex (τ := τName 6) (te := ce_names) (ρ := [some (.val (.int cell)), some (.val (.int (many : Int))), some (.val (.str L26)), some (.val (.str S36)), some (.val (.list (os.map .int))), none, none, none, none, none, none])
    (fun y => ∃ c : Nat, y = .str ⟨#[c]⟩) ((List.range 9).map fun (k : Nat) => .int (k : Int)) (fun d' hd => by
      obtain ⟨k, hk, rfl⟩ := List.mem_map.mp hd
      have hk' := List.mem_range.mp hk
      have hx : ([4, 11, 11, 26, 26, 36, 36, 36, 36, 36, 36, 36, 36, 36] : List Int)[5 + k]? = some 36 := by
        have : k = 0 ∨ k = 1 ∨ k = 2 ∨ k = 3 ∨ k = 4 ∨ k = 5 ∨ k = 6 ∨ k = 7 ∨ k = 8 := by omega
        rcases this with rfl | rfl | rfl | rfl | rfl | rfl | rfl | rfl | rfl <;> rfl
      obtain ⟨x, ex, gx, gx'⟩ := d.get hx
      obtain ⟨c, hc⟩ := ix_str (z := S36) s36 (by decide) gx gx'
      have ax : atI (os.map PyData.int) (5 + (k : Int)) = some (.int x) := by rw [show (5 + (k : Int)) = ((5 + k : Nat) : Int) by omega]; exact at_ ex
      exact ⟨_, .str ⟨#[c]⟩, rfl, by simp [ce_names, ax, hc], c, rfl⟩)
  have hzs : ∃ zs : List Str, ys = zs.map .str ∧ ∀ z ∈ zs, z.length ≤ 1 := by
    clear ey ly
    induction ys with
    | nil => exact ⟨[], rfl, fun z h => by cases h⟩
    | cons y ys ih =>
      obtain ⟨c, rfl⟩ := py y List.mem_cons_self
      obtain ⟨zs, rfl, h⟩ := ih fun y hy => py y (List.mem_cons_of_mem _ hy)
      refine ⟨⟨#[c]⟩ :: zs, rfl, fun z hz => ?_⟩
      rcases List.mem_cons.mp hz with q | q
      · rw [q, len_one]; decide
      · exact h z q
  obtain ⟨gs, rfl, hg⟩ := hzs
  have lg : gs.length = 9 := by simpa using ly
  have sm := join_len gs hg
  have tj := txt_join_len "" gs
  have l0 : ("" : Str).length = 0 := by decide
  rw [l0] at tj
  have jz : oJoin (.str "") (.list (gs.map .str)) = .ok (.str (Txt.join "" gs)) := by
    simp only [oJoin, strsOf_map]
    rw [if_pos]
    rw [l0]
    show _ ≤ 16777216
    omega
  have ls : ((⟨#[c]⟩ : Str) ++ Txt.join "" gs).length ≤ 10 := by rw [len_app, len_one]; omega
  have m1 : (⟨#[c]⟩ : Str).length + (Txt.join "" gs).length ≤ mx := by rw [len_one]; show _ ≤ 16777216; omega
  have p1 : (0 : Int) < d1 + 1 := by omega
  have em : oMul (.list [.int 36]) (.int 9) = .ok (.list [.int 36, .int 36, .int 36, .int 36, .int 36, .int 36, .int 36, .int 36, .int 36]) := by
    simp only [oMul]
    rw [if_pos (by decide)]
    rfl
  have lp := names_loop (B := S36) l26 cell many os ((⟨#[c]⟩ : Str) ++ Txt.join "" gs) d0 d1 d4 (d2 % (d1 + 1)) h0 h1 h4 ls hm
  obtain ⟨zs, z6, z9, z10, e2, lz, hz⟩ := lp
  refine ⟨zs, ?_, lz, hz⟩
  have r9 : rngD 0 9 = .ok ((List.range 9).map fun (k : Nat) => .int (k : Int)) := rng_nat (n := 9) (by decide)
  have no9 : noOwn [some (.val (.int cell)), some (.val (.int (many : Int))), some (.val (.str L26)), some (.val (.str S36)), some (.val (.list (os.map .int))), none, none, none, none, none, none] [6] = true := rfl
  have w9 : wipeE [some (.val (.int cell)), some (.val (.int (many : Int))), some (.val (.str L26)), some (.val (.str S36)), some (.val (.list (os.map .int))), none, none, none, none, none, none] [6] = [some (.val (.int cell)), some (.val (.int (many : Int))), some (.val (.str L26)), some (.val (.str S36)), some (.val (.list (os.map .int))), none, none, none, none, none, none] := rfl
  simp at e
  simp [g_names, runF, c_names, em, e, a1, a2, a3, hc, r9, no9, w9, ey, jz, m1, strM, p1, rng_nat (show many ≤ 1000000000 by omega), e2]
end DL

namespace K02
open PySem PySem.Spec PyProof.Rows L2 DL
/-! ### the text -/
def topS (i : Nat) : Stmt := PySem.Challenge.pw_roundsfare_k02_errors_and_limits.main.body.getD i (.Pass ⟨0, 0, 0, 0⟩)
abbrev s__law_cell : Stmt := topS 34
theorem sc__law_cell : FnScope ["script", "k"] ["script", "k"] (defScope s__law_cell) := ⟨rfl, rfl, rfl, by decide +kernel, rfl, by decide +kernel, by decide +kernel⟩
abbrev s__law_draws : Stmt := topS 35
theorem sc__law_draws : FnScope ["cell", "sizes", "draws", "rest", "size", "mixed", "k", "other"] ["cell", "sizes"] (defScope s__law_draws) := ⟨rfl, rfl, rfl, by decide +kernel, rfl, by decide +kernel, by decide +kernel⟩
abbrev s__law_error : Stmt := topS 39
theorem sc__law_error : FnScope ["e", "told"] ["e"] (defScope s__law_error) := ⟨rfl, rfl, rfl, by decide +kernel, rfl, by decide +kernel, by decide +kernel⟩
abbrev s__law_limits : Stmt := topS 41
theorem sc__law_limits : FnScope ["cities", "tickets"] [] (defScope s__law_limits) := ⟨rfl, rfl, rfl, by decide +kernel, rfl, by decide +kernel, by decide +kernel⟩
abbrev s__law_names : Stmt := topS 37
theorem sc__law_names : FnScope ["cell", "many", "letters", "signs", "draws", "stem", "k", "place", "names", "code", "part"] ["cell", "many"] (defScope s__law_names) := ⟨rfl, rfl, rfl, by decide +kernel, rfl, by decide +kernel, by decide +kernel⟩
abbrev s__law_raise : Stmt := topS 38
theorem sc__law_raise : FnScope ["which", "one", "two", "text"] ["which", "one", "two", "text"] (defScope s__law_raise) := ⟨rfl, rfl, rfl, by decide +kernel, rfl, by decide +kernel, by decide +kernel⟩
abbrev s__law_caught : Stmt := topS 40
theorem sc__law_caught : FnScope ["which", "one", "two", "text", "e"] ["which", "one", "two", "text"] (defScope s__law_caught) := ⟨rfl, rfl, rfl, by decide +kernel, rfl, by decide +kernel, by decide +kernel⟩
abbrev s__law_same : Stmt := topS 36
theorem sc__law_same : FnScope ["actual", "due", "k"] ["actual", "due"] (defScope s__law_same) := ⟨rfl, rfl, rfl, by decide +kernel, rfl, by decide +kernel, by decide +kernel⟩
abbrev s_law : Stmt := topS 42
theorem sc_law : FnScope ["script", "due", "one", "two", "text", "fields", "which"] ["script"] (defScope s_law) := ⟨rfl, rfl, rfl, by decide +kernel, rfl, by decide +kernel, by decide +kernel⟩
/-! ### classes -/
def rz : List Str := ["BadNeed", "BadRide", "BadRow", "BadSplit", "Clash", "NoDeed", "NoRide", "NoTicket", "NotTold", "OtherWindows", "OutOfOrder", "TooMany", "TwiceTold"]
def tb_BadRow : List (Str × Bool) := [("BadNeed", false), ("BadRide", false), ("BadRow", true), ("BadSplit", false), ("Clash", false), ("NoDeed", false), ("NoRide", false), ("NoTicket", false), ("NotTold", false), ("OtherWindows", false), ("OutOfOrder", false), ("TooMany", false), ("TwiceTold", false)]
def tb_OutOfOrder : List (Str × Bool) := [("BadNeed", false), ("BadRide", false), ("BadRow", false), ("BadSplit", false), ("Clash", false), ("NoDeed", false), ("NoRide", false), ("NoTicket", false), ("NotTold", false), ("OtherWindows", false), ("OutOfOrder", true), ("TooMany", false), ("TwiceTold", false)]
def tb_TwiceTold : List (Str × Bool) := [("BadNeed", false), ("BadRide", false), ("BadRow", false), ("BadSplit", false), ("Clash", false), ("NoDeed", false), ("NoRide", false), ("NoTicket", false), ("NotTold", false), ("OtherWindows", false), ("OutOfOrder", false), ("TooMany", false), ("TwiceTold", true)]
def tb_NotTold : List (Str × Bool) := [("BadNeed", false), ("BadRide", false), ("BadRow", false), ("BadSplit", false), ("Clash", false), ("NoDeed", false), ("NoRide", false), ("NoTicket", false), ("NotTold", true), ("OtherWindows", false), ("OutOfOrder", false), ("TooMany", false), ("TwiceTold", false)]
def tb_TooMany : List (Str × Bool) := [("BadNeed", false), ("BadRide", false), ("BadRow", false), ("BadSplit", false), ("Clash", false), ("NoDeed", false), ("NoRide", false), ("NoTicket", false), ("NotTold", false), ("OtherWindows", false), ("OutOfOrder", false), ("TooMany", true), ("TwiceTold", false)]
def tb_Clash : List (Str × Bool) := [("BadNeed", false), ("BadRide", false), ("BadRow", false), ("BadSplit", false), ("Clash", true), ("NoDeed", false), ("NoRide", false), ("NoTicket", false), ("NotTold", false), ("OtherWindows", false), ("OutOfOrder", false), ("TooMany", false), ("TwiceTold", false)]
def tb_BadRide : List (Str × Bool) := [("BadNeed", false), ("BadRide", true), ("BadRow", false), ("BadSplit", false), ("Clash", false), ("NoDeed", false), ("NoRide", false), ("NoTicket", false), ("NotTold", false), ("OtherWindows", false), ("OutOfOrder", false), ("TooMany", false), ("TwiceTold", false)]
def tb_BadNeed : List (Str × Bool) := [("BadNeed", true), ("BadRide", false), ("BadRow", false), ("BadSplit", false), ("Clash", false), ("NoDeed", false), ("NoRide", false), ("NoTicket", false), ("NotTold", false), ("OtherWindows", false), ("OutOfOrder", false), ("TooMany", false), ("TwiceTold", false)]
def tb_NoTicket : List (Str × Bool) := [("BadNeed", false), ("BadRide", false), ("BadRow", false), ("BadSplit", false), ("Clash", false), ("NoDeed", false), ("NoRide", false), ("NoTicket", true), ("NotTold", false), ("OtherWindows", false), ("OutOfOrder", false), ("TooMany", false), ("TwiceTold", false)]
def tb_NoRide : List (Str × Bool) := [("BadNeed", false), ("BadRide", false), ("BadRow", false), ("BadSplit", false), ("Clash", false), ("NoDeed", false), ("NoRide", true), ("NoTicket", false), ("NotTold", false), ("OtherWindows", false), ("OutOfOrder", false), ("TooMany", false), ("TwiceTold", false)]
def tb_NoDeed : List (Str × Bool) := [("BadNeed", false), ("BadRide", false), ("BadRow", false), ("BadSplit", false), ("Clash", false), ("NoDeed", true), ("NoRide", false), ("NoTicket", false), ("NotTold", false), ("OtherWindows", false), ("OutOfOrder", false), ("TooMany", false), ("TwiceTold", false)]
def tb_OtherWindows : List (Str × Bool) := [("BadNeed", false), ("BadRide", false), ("BadRow", false), ("BadSplit", false), ("Clash", false), ("NoDeed", false), ("NoRide", false), ("NoTicket", false), ("NotTold", false), ("OtherWindows", true), ("OutOfOrder", false), ("TooMany", false), ("TwiceTold", false)]
def tb_BadSplit : List (Str × Bool) := [("BadNeed", false), ("BadRide", false), ("BadRow", false), ("BadSplit", true), ("Clash", false), ("NoDeed", false), ("NoRide", false), ("NoTicket", false), ("NotTold", false), ("OtherWindows", false), ("OutOfOrder", false), ("TooMany", false), ("TwiceTold", false)]
def tb_ValueError : List (Str × Bool) := [("BadNeed", true), ("BadRide", true), ("BadRow", true), ("BadSplit", true), ("Clash", true), ("NoDeed", true), ("NoRide", true), ("NoTicket", true), ("NotTold", true), ("OtherWindows", true), ("OutOfOrder", true), ("TooMany", true), ("TwiceTold", true)]
def tb_FareError : List (Str × Bool) := [("BadNeed", true), ("BadRide", true), ("BadRow", true), ("BadSplit", true), ("Clash", true), ("NoDeed", true), ("NoRide", true), ("NoTicket", true), ("NotTold", true), ("OtherWindows", true), ("OutOfOrder", true), ("TooMany", true), ("TwiceTold", true)]
abbrev s_i_BadNeed : Stmt := clsDef (topS 9) 0
theorem tx_BadNeed : Txt1 s_i_BadNeed "self" "need" "need" := ⟨⟨_, _, _, _, _, _, _, _, _, _, _, _, rfl, ⟨fun _ => ⟨_, rfl⟩, fun _ => rfl⟩⟩, NdefX.nscope_by (by decide +kernel), by decide +kernel, ⟨_, rfl, rfl⟩⟩
abbrev s_i_BadRide : Stmt := clsDef (topS 8) 0
theorem tx_BadRide : Txt2 s_i_BadRide "self" "row" "row" "leg" "leg" := ⟨⟨_, _, _, _, _, _, _, _, _, _, _, _, _, _, _, _, rfl, ⟨fun _ => ⟨_, rfl⟩, fun _ => rfl⟩⟩, NdefX.nscope_by (by decide +kernel), by decide +kernel, ⟨_, rfl, rfl⟩⟩
abbrev s_i_BadRow : Stmt := clsDef (topS 2) 0
theorem tx_BadRow : Txt1 s_i_BadRow "self" "row" "row" := ⟨⟨_, _, _, _, _, _, _, _, _, _, _, _, rfl, ⟨fun _ => ⟨_, rfl⟩, fun _ => rfl⟩⟩, NdefX.nscope_by (by decide +kernel), by decide +kernel, ⟨_, rfl, rfl⟩⟩
abbrev s_i_BadSplit : Stmt := clsDef (topS 14) 0
theorem tx_BadSplit : Txt0 s_i_BadSplit "self" := ⟨⟨_, _, _, _, _, _, _, _, rfl, ⟨fun _ => ⟨_, rfl⟩, fun _ => rfl⟩⟩, NdefX.nscope_by (by decide +kernel), by decide +kernel, ⟨_, rfl, rfl⟩⟩
abbrev s_i_Clash : Stmt := clsDef (topS 7) 0
theorem tx_Clash : Txt2 s_i_Clash "self" "first" "first" "second" "second" := ⟨⟨_, _, _, _, _, _, _, _, _, _, _, _, _, _, _, _, rfl, ⟨fun _ => ⟨_, rfl⟩, fun _ => rfl⟩⟩, NdefX.nscope_by (by decide +kernel), by decide +kernel, ⟨_, rfl, rfl⟩⟩
abbrev s_i_NoDeed : Stmt := clsDef (topS 12) 0
theorem tx_NoDeed : Txt0 s_i_NoDeed "self" := ⟨⟨_, _, _, _, _, _, _, _, rfl, ⟨fun _ => ⟨_, rfl⟩, fun _ => rfl⟩⟩, NdefX.nscope_by (by decide +kernel), by decide +kernel, ⟨_, rfl, rfl⟩⟩
abbrev s_i_NoRide : Stmt := clsDef (topS 11) 0
theorem tx_NoRide : Txt1 s_i_NoRide "self" "number" "number" := ⟨⟨_, _, _, _, _, _, _, _, _, _, _, _, rfl, ⟨fun _ => ⟨_, rfl⟩, fun _ => rfl⟩⟩, NdefX.nscope_by (by decide +kernel), by decide +kernel, ⟨_, rfl, rfl⟩⟩
abbrev s_i_NoTicket : Stmt := clsDef (topS 10) 0
theorem tx_NoTicket : Txt2 s_i_NoTicket "self" "ride" "ride" "leg" "leg" := ⟨⟨_, _, _, _, _, _, _, _, _, _, _, _, _, _, _, _, rfl, ⟨fun _ => ⟨_, rfl⟩, fun _ => rfl⟩⟩, NdefX.nscope_by (by decide +kernel), by decide +kernel, ⟨_, rfl, rfl⟩⟩
abbrev s_i_NotTold : Stmt := clsDef (topS 5) 0
theorem tx_NotTold : Txt2 s_i_NotTold "self" "row" "row" "word" "word" := ⟨⟨_, _, _, _, _, _, _, _, _, _, _, _, _, _, _, _, rfl, ⟨fun _ => ⟨_, rfl⟩, fun _ => rfl⟩⟩, NdefX.nscope_by (by decide +kernel), by decide +kernel, ⟨_, rfl, rfl⟩⟩
abbrev s_i_OtherWindows : Stmt := clsDef (topS 13) 0
theorem tx_OtherWindows : Txt0 s_i_OtherWindows "self" := ⟨⟨_, _, _, _, _, _, _, _, rfl, ⟨fun _ => ⟨_, rfl⟩, fun _ => rfl⟩⟩, NdefX.nscope_by (by decide +kernel), by decide +kernel, ⟨_, rfl, rfl⟩⟩
abbrev s_i_OutOfOrder : Stmt := clsDef (topS 3) 0
theorem tx_OutOfOrder : Txt1 s_i_OutOfOrder "self" "row" "row" := ⟨⟨_, _, _, _, _, _, _, _, _, _, _, _, rfl, ⟨fun _ => ⟨_, rfl⟩, fun _ => rfl⟩⟩, NdefX.nscope_by (by decide +kernel), by decide +kernel, ⟨_, rfl, rfl⟩⟩
abbrev s_i_TooMany : Stmt := clsDef (topS 6) 0
theorem tx_TooMany : Txt1 s_i_TooMany "self" "limit" "limit" := ⟨⟨_, _, _, _, _, _, _, _, _, _, _, _, rfl, ⟨fun _ => ⟨_, rfl⟩, fun _ => rfl⟩⟩, NdefX.nscope_by (by decide +kernel), by decide +kernel, ⟨_, rfl, rfl⟩⟩
abbrev s_i_TwiceTold : Stmt := clsDef (topS 4) 0
theorem tx_TwiceTold : Txt2 s_i_TwiceTold "self" "row" "row" "word" "word" := ⟨⟨_, _, _, _, _, _, _, _, _, _, _, _, _, _, _, _, rfl, ⟨fun _ => ⟨_, rfl⟩, fun _ => rfl⟩⟩, NdefX.nscope_by (by decide +kernel), by decide +kernel, ⟨_, rfl, rfl⟩⟩
/-! ### the denotations -/
def b__law_cell : En → SRes :=
  (sSeq (sIf (tst (b2 oLt (dVar 1) (b1 oLen (dVar 0))))
  (sRet (b1 oInt (b2 oIx (dVar 0) (dVar 1))))
  sNil)
  (sRet (dC (.int 0))))
def g__law_cell : List PyData → Rs PyData := runF 2 2 b__law_cell
def l__law_draws_1 : En → SRes :=
  (sSeq (sApp 2 (b2 oMod (b1 oInt (dVar 3)) (dVar 4)))
  (sSet 3 (b2 oDiv (dVar 3) (dVar 4))))
def l__law_draws_2 : En → SRes :=
  (sSeq (sSet 5 (b2 oMod (b1 oInt (b2 oAdd (b2 oAdd (b2 oMul (dVar 5) (dC (.int 39373))) (b2 oMul (dC (.int 6007)) (dVar 6))) (dC (.int 91)))) (dC (.int 2147483647))))
  (sSeq (sSet 7 (b2 oMod (b1 oInt (b2 oAdd (b2 oAdd (b2 oMul (b2 oDiv (dVar 5) (dC (.int 5))) (dC (.int 40692))) (b2 oMul (dC (.int 211)) (dVar 6))) (dC (.int 3)))) (dC (.int 2147483399))))
  (sApp 2 (b2 oMod (b1 oInt (dVar 7)) (b2 oIx (dVar 1) (dVar 6))))))
def b__law_draws : En → SRes :=
  (sSeq (sSetO 2 (mkL aNil))
  (sSeq (sIf (tst (b2 oGe (dVar 0) (b2 oPow (dC (.int 10)) (dC (.int 18)))))
  (sSeq (sSet 3 (b1 oInt (dVar 0)))
  (sSeq (sFor (iOf oAny (dVar 1)) (τName 4) l__law_draws_1)
  (sFrz 2 (sRet (dVar 2)))))
  sNil)
  (sSeq (sSet 5 (b2 oMod (b1 oInt (dVar 0)) (dC (.int 2147483647))))
  (sSeq (sFor (iRange1 (b1 oLen (dVar 1))) (τName 6) l__law_draws_2)
  (sFrz 2 (sRet (dVar 2)))))))
def g__law_draws : List PyData → Rs PyData := runF 8 2 b__law_draws
def b__law_error : En → SRes :=
  (sSeq (sSetO 1 (mkL aNil))
  (sSeq (sIf (tst (b1 (oIsE tb_BadRow) (dVar 0)))
  (sApp 1 (mkT (aCons (dC (.int 0)) (aCons (b1 (oFld rz "row") (dVar 0)) aNil))))
  sNil)
  (sSeq (sIf (tst (b1 (oIsE tb_OutOfOrder) (dVar 0)))
  (sApp 1 (mkT (aCons (dC (.int 1)) (aCons (b1 (oFld rz "row") (dVar 0)) aNil))))
  sNil)
  (sSeq (sIf (tst (b1 (oIsE tb_TwiceTold) (dVar 0)))
  (sApp 1 (mkT (aCons (dC (.int 2)) (aCons (b1 (oFld rz "row") (dVar 0)) (aCons (b1 (oFld rz "word") (dVar 0)) aNil)))))
  sNil)
  (sSeq (sIf (tst (b1 (oIsE tb_NotTold) (dVar 0)))
  (sApp 1 (mkT (aCons (dC (.int 3)) (aCons (b1 (oFld rz "row") (dVar 0)) (aCons (b1 (oFld rz "word") (dVar 0)) aNil)))))
  sNil)
  (sSeq (sIf (tst (b1 (oIsE tb_TooMany) (dVar 0)))
  (sApp 1 (mkT (aCons (dC (.int 4)) (aCons (b1 (oFld rz "limit") (dVar 0)) aNil))))
  sNil)
  (sSeq (sIf (tst (b1 (oIsE tb_Clash) (dVar 0)))
  (sApp 1 (mkT (aCons (dC (.int 5)) (aCons (b1 (oFld rz "first") (dVar 0)) (aCons (b1 (oFld rz "second") (dVar 0)) aNil)))))
  sNil)
  (sSeq (sIf (tst (b1 (oIsE tb_BadRide) (dVar 0)))
  (sApp 1 (mkT (aCons (dC (.int 6)) (aCons (b1 (oFld rz "row") (dVar 0)) (aCons (b1 (oFld rz "leg") (dVar 0)) aNil)))))
  sNil)
  (sSeq (sIf (tst (b1 (oIsE tb_BadNeed) (dVar 0)))
  (sApp 1 (mkT (aCons (dC (.int 7)) (aCons (b1 (oFld rz "need") (dVar 0)) aNil))))
  sNil)
  (sSeq (sIf (tst (b1 (oIsE tb_NoTicket) (dVar 0)))
  (sApp 1 (mkT (aCons (dC (.int 8)) (aCons (b1 (oFld rz "ride") (dVar 0)) (aCons (b1 (oFld rz "leg") (dVar 0)) aNil)))))
  sNil)
  (sSeq (sIf (tst (b1 (oIsE tb_NoRide) (dVar 0)))
  (sApp 1 (mkT (aCons (dC (.int 9)) (aCons (b1 (oFld rz "number") (dVar 0)) aNil))))
  sNil)
  (sSeq (sIf (tst (b1 (oIsE tb_NoDeed) (dVar 0)))
  (sApp 1 (mkT (aCons (dC (.int 10)) aNil)))
  sNil)
  (sSeq (sIf (tst (b1 (oIsE tb_OtherWindows) (dVar 0)))
  (sApp 1 (mkT (aCons (dC (.int 11)) aNil)))
  sNil)
  (sSeq (sIf (tst (b1 (oIsE tb_BadSplit) (dVar 0)))
  (sApp 1 (mkT (aCons (dC (.int 12)) aNil)))
  sNil)
  (sRet (mkT (aCons (b1 (oIsE tb_ValueError) (dVar 0)) (aCons (b1 oTuple (bVar 1)) aNil))))))))))))))))))
def g__law_error : List PyData → Rs PyData := runF 2 1 b__law_error
def b__law_limits : En → SRes :=
  (sSeq (sSet 0 (mkT (aCons (dC (.int 30)) (aCons (dC (.int 16)) (aCons (dC (.int 12)) (aCons (dC (.int 5)) (aCons (dC (.int 6)) (aCons (dC (.int 40)) (aCons (dC (.int 6)) (aCons (dC (.int 9999)) aNil))))))))))
  (sSeq (sSet 1 (mkT (aCons (dC (.int 36)) (aCons (dC (.int 999999)) (aCons (dC (.int 60)) (aCons (dC (.int 4)) (aCons (dC (.int 240)) (aCons (dC (.int 100)) (aCons (dC (.int 999999999)) aNil)))))))))
  (sRet (b2 oAdd (b2 oAdd (dVar 0) (dVar 1)) (mkT (aCons (dC (.int 30)) (aCons (dC (.int 999)) (aCons (dC (.int 5)) aNil))))))))
def g__law_limits : List PyData → Rs PyData := runF 2 0 b__law_limits
def e__law_names_1 : En → Rs PyData :=
  (b2 oIx (dVar 3) (b2 oIx (dVar 4) (b2 oAdd (dC (.int 5)) (dVar 6))))
def l__law_names_1 : En → SRes :=
  (sSeq (sSet 9 (b2 oAdd (b2 oIx (dVar 2) (b2 oMod (b1 oInt (b2 oAdd (b2 oMul (dVar 6) (dC (.int 5))) (b2 oIx (dVar 4) (dC (.int 4))))) (dC (.int 26)))) (b1 oStr (b2 oDiv (dVar 6) (dC (.int 26))))))
  (sSeq (sSet 10 (dCut (dVar 5) pNo (pSo (b2 oMod (b1 oInt (b2 oAdd (b2 oIx (dVar 4) (dC (.int 1))) (b2 oMul (dC (.int 3)) (dVar 6)))) (dC (.int 11))))))
  (sIf (tAndD (tst (b2 oEq (b2 oIx (dVar 4) (dC (.int 0))) (dC (.int 0)))) (tst (b2 oLe (dVar 1) (dC (.int 26)))))
  (sApp 8 (b2 oIx (dVar 9) (dC (.int 0))))
  (sIf (tst (b2 oLe (b2 oIx (dVar 4) (dC (.int 0))) (dC (.int 1))))
  (sApp 8 (b2 oAdd (b2 oAdd (dCut (dVar 5) pNo (pSo (dVar 7))) (dVar 9)) (dCut (dVar 5) (pSo (dVar 7)) (pSo (b2 oIx (dVar 4) (dC (.int 1)))))))
  (sIf (tst (b2 oEq (b2 oIx (dVar 4) (dC (.int 0))) (dC (.int 2))))
  (sApp 8 (b2 oAdd (dVar 10) (dVar 9)))
  (sApp 8 (b2 oAdd (dVar 9) (dVar 10))))))))
def b__law_names : En → SRes :=
  (sSeq (sSet 2 (dC (.str "qwertzuiopasdfghjklyxcvbnm")))
  (sSeq (sSet 3 (dC (.str "abcdefghijklmnopqrstuvwxyz0123456789")))
  (sSeq (sSet 4 (dCall g__law_draws (aCons (dVar 0) (aCons (b2 oAdd (mkL (aCons (dC (.int 4)) (aCons (dC (.int 11)) (aCons (dC (.int 11)) (aCons (dC (.int 26)) (aCons (dC (.int 26)) aNil)))))) (b2 oMul (mkL (aCons (dC (.int 36)) aNil)) (dC (.int 9)))) aNil))))
  (sSeq (sSet 5 (b2 oAdd (b2 oIx (dVar 2) (b2 oIx (dVar 4) (dC (.int 3)))) (strM oJoin (dC (.str "")) (lcD [6] (iRange1 (dC (.int 9))) (τName 6) tY e__law_names_1))))
  (sSeq (sSet 7 (b2 oMod (b1 oInt (b2 oIx (dVar 4) (dC (.int 2)))) (b2 oAdd (b2 oIx (dVar 4) (dC (.int 1))) (dC (.int 1)))))
  (sSeq (sSetO 8 (mkL aNil))
  (sSeq (sFor (iRange1 (dVar 1)) (τName 6) l__law_names_1)
  (sFrz 8 (sRet (dVar 8))))))))))
def g__law_names : List PyData → Rs PyData := runF 11 2 b__law_names
def b__law_raise : En → SRes :=
  (sSeq (sIf (tst (b2 oEq (dVar 0) (dC (.int 0))))
  (sRaise "BadRow" ["row"] (aCons (dVar 1) aNil))
  sNil)
  (sSeq (sIf (tst (b2 oEq (dVar 0) (dC (.int 1))))
  (sRaise "OutOfOrder" ["row"] (aCons (dVar 1) aNil))
  sNil)
  (sSeq (sIf (tst (b2 oEq (dVar 0) (dC (.int 2))))
  (sRaise "TwiceTold" ["row", "word"] (aCons (dVar 1) (aCons (dVar 3) aNil)))
  sNil)
  (sSeq (sIf (tst (b2 oEq (dVar 0) (dC (.int 3))))
  (sRaise "NotTold" ["row", "word"] (aCons (dVar 1) (aCons (dVar 3) aNil)))
  sNil)
  (sSeq (sIf (tst (b2 oEq (dVar 0) (dC (.int 4))))
  (sRaise "TooMany" ["limit"] (aCons (dVar 1) aNil))
  sNil)
  (sSeq (sIf (tst (b2 oEq (dVar 0) (dC (.int 5))))
  (sRaise "Clash" ["first", "second"] (aCons (dVar 1) (aCons (dVar 2) aNil)))
  sNil)
  (sSeq (sIf (tst (b2 oEq (dVar 0) (dC (.int 6))))
  (sRaise "BadRide" ["row", "leg"] (aCons (dVar 1) (aCons (dVar 2) aNil)))
  sNil)
  (sSeq (sIf (tst (b2 oEq (dVar 0) (dC (.int 7))))
  (sRaise "BadNeed" ["need"] (aCons (dVar 1) aNil))
  sNil)
  (sSeq (sIf (tst (b2 oEq (dVar 0) (dC (.int 8))))
  (sRaise "NoTicket" ["ride", "leg"] (aCons (dVar 1) (aCons (dVar 2) aNil)))
  sNil)
  (sSeq (sIf (tst (b2 oEq (dVar 0) (dC (.int 9))))
  (sRaise "NoRide" ["number"] (aCons (dVar 1) aNil))
  sNil)
  (sSeq (sIf (tst (b2 oEq (dVar 0) (dC (.int 10))))
  (sRaise0 "NoDeed")
  sNil)
  (sSeq (sIf (tst (b2 oEq (dVar 0) (dC (.int 11))))
  (sRaise0 "OtherWindows")
  sNil)
  (sRaise0 "BadSplit")))))))))))))
def g__law_raise : List PyData → Rs PyData := runF 4 4 b__law_raise
def y__law_caught_1 : En → SRes :=
  (sDrop (dCall g__law_raise (aCons (dVar 0) (aCons (dVar 1) (aCons (dVar 2) (aCons (dVar 3) aNil))))))
def h__law_caught_1_0 : En → SRes :=
  (sRet (dCall g__law_error (aCons (dVar 4) aNil)))
def b__law_caught : En → SRes :=
  (sSeq (sTry [⟨tb_FareError, some 4, h__law_caught_1_0⟩] y__law_caught_1)
  (sRet (dC .none)))
def g__law_caught : List PyData → Rs PyData := runF 5 4 b__law_caught
def l__law_same_1 (self : List PyData → Rs PyData) : En → SRes :=
  (sIf (tNotD (tst (dCall self (aCons (b2 oIx (dVar 0) (dVar 2)) (aCons (b2 oIx (dVar 1) (dVar 2)) aNil)))))
  (sRet (dC (.bool false)))
  sNil)
def b__law_same (self : List PyData → Rs PyData) : En → SRes :=
  (sSeq (sIf (tst (b1 oIsTup (dVar 1)))
  (sSeq (sIf (tOrD (tNotD (tst (b1 oIsTup (dVar 0)))) (tst (b2 oNe (b1 oLen (dVar 0)) (b1 oLen (dVar 1)))))
  (sRet (dC (.bool false)))
  sNil)
  (sSeq (sFor (iRange1 (b1 oLen (dVar 1))) (τName 2) (l__law_same_1 self))
  (sRet (dC (.bool true)))))
  sNil)
  (sSeq (sIf (tst (b2 oIs (dVar 1) (dC .none)))
  (sRet (b2 oIs (dVar 0) (dC .none)))
  sNil)
  (sSeq (sIf (tst (b1 oIsBool (dVar 1)))
  (sRet (vAnd (b1 oIsBool (dVar 0)) (b2 oEq (dVar 0) (dVar 1))))
  sNil)
  (sSeq (sIf (tst (b1 oIsInt (dVar 1)))
  (sRet (vAnd (b1 oIsInt (dVar 0)) (vAnd (b1 oNot (b1 oIsBool (dVar 0))) (b2 oEq (dVar 0) (dVar 1)))))
  sNil)
  (sRet (vAnd (b1 oIsStr (dVar 0)) (b2 oEq (dVar 0) (dVar 1))))))))
def g__law_same : Nat → List PyData → Rs PyData
  | 0 => fun _ => .bad
  | n + 1 => runF 3 2 (b__law_same (g__law_same n))
def l_law_1 : En → SRes :=
  (sIf (tNotD (tst (dCall (g__law_same 6) (aCons (dCall g__law_caught (aCons (dVar 6) (aCons (dVar 2) (aCons (dVar 3) (aCons (dVar 4) aNil))))) (aCons (mkT (aCons (dC (.bool true)) (aCons (mkT (aCons (b2 oAdd (mkT (aCons (dVar 6) aNil)) (b2 oIx (dVar 5) (dVar 6))) aNil)) aNil))) aNil)))))
  (sRet (dC (.bool false)))
  sNil)
def b_law : En → SRes :=
  (sSeq (sSet 1 (mkT (aCons (dC (.int 30)) (aCons (dC (.int 16)) (aCons (dC (.int 12)) (aCons (dC (.int 5)) (aCons (dC (.int 6)) (aCons (dC (.int 40)) (aCons (dC (.int 6)) (aCons (dC (.int 9999)) (aCons (dC (.int 36)) (aCons (dC (.int 999999)) (aCons (dC (.int 60)) (aCons (dC (.int 4)) (aCons (dC (.int 240)) (aCons (dC (.int 100)) (aCons (dC (.int 999999999)) (aCons (dC (.int 30)) (aCons (dC (.int 999)) (aCons (dC (.int 5)) aNil))))))))))))))))))))
  (sSeq (sIf (tNotD (tst (dCall (g__law_same 6) (aCons (dCall0 g__law_limits) (aCons (dVar 1) aNil)))))
  (sRet (dC (.bool false)))
  sNil)
  (sSeq (sSet 2 (dCall g__law_cell (aCons (dVar 0) (aCons (dC (.int 0)) aNil))))
  (sSeq (sSet 3 (b2 oAdd (b2 oAdd (dVar 2) (dC (.int 1))) (b2 oIx (dCall g__law_draws (aCons (dCall g__law_cell (aCons (dVar 0) (aCons (dC (.int 1)) aNil))) (aCons (mkL (aCons (dC (.int 1000)) aNil)) aNil))) (dC (.int 0)))))
  (sSeq (sSet 4 (b2 oIx (dCall g__law_names (aCons (dCall g__law_cell (aCons (dVar 0) (aCons (dC (.int 2)) aNil))) (aCons (dC (.int 1)) aNil))) (dC (.int 0))))
  (sSeq (sSet 5 (mkL (aCons (mkT (aCons (dVar 2) aNil)) (aCons (mkT (aCons (dVar 2) aNil)) (aCons (mkT (aCons (dVar 2) (aCons (dVar 4) aNil))) (aCons (mkT (aCons (dVar 2) (aCons (dVar 4) aNil))) (aCons (mkT (aCons (dVar 2) aNil)) (aCons (mkT (aCons (dVar 2) (aCons (dVar 3) aNil))) (aCons (mkT (aCons (dVar 2) (aCons (dVar 3) aNil))) (aCons (mkT (aCons (dVar 2) aNil)) (aCons (mkT (aCons (dVar 2) (aCons (dVar 3) aNil))) (aCons (mkT (aCons (dVar 2) aNil)) (aCons (mkT aNil) (aCons (mkT aNil) (aCons (mkT aNil) aNil)))))))))))))))
  (sSeq (sFor (iRange1 (dC (.int 13))) (τName 6) l_law_1)
  (sRet (dCall (g__law_same 6) (aCons (dCall g__law_caught (aCons (dC (.int 5)) (aCons (dVar 3) (aCons (dVar 2) (aCons (dVar 4) aNil))))) (aCons (mkT (aCons (dC (.bool true)) (aCons (mkT (aCons (mkT (aCons (dC (.int 5)) (aCons (dVar 3) (aCons (dVar 2) aNil)))) aNil)) aNil))) aNil)))))))))))
def g_law : List PyData → Rs PyData := runF 7 1 b_law
end K02

namespace K02
open PySem PySem.Spec PyProof.Rows L2 DL
/-! ### the walk -/
section
variable {P : Program} {w : World} {K : PySem.W.Frag} {mg : Str → Option Value} {base : Heap}
theorem ok__law_cell {f : Addr} {fd : FuncData}  (F : L2.Fun K "_law_cell" "_law_cell" s__law_cell f fd) (bn : Binds K fd ["script", "k"] []) (hm : mg "_law_cell" = some (.ref f)) (m_int : mg "int" = none) (m_len : mg "len" = none)        : Fn P w K mg base 1 "_law_cell" g__law_cell :=
  fn_mk F sc__law_cell bn hm fun cdv A outer s H E hr tk po => (dss_cons (ds_if (dt_cmp op_lt ok_lt (de_var 1).be (DE.be (de_call1 call_len ok_len (de_var 0).be m_len bt_len)) (nomark _))
  (dss_one (ds_ret (de_callT1 call_int1 ok_int (DE.be (de_ix (de_var 0).be (de_var 1).be)) m_int bt_int)))
  dss_nil)
  (dss_one (ds_ret de_int)))
theorem ok__law_draws {f : Addr} {fd : FuncData}  (F : L2.Fun K "_law_draws" "_law_draws" s__law_draws f fd) (bn : Binds K fd ["cell", "sizes"] []) (hm : mg "_law_draws" = some (.ref f)) (m_int : mg "int" = none) (m_len : mg "len" = none) (m_range : mg "range" = none)        : Fn P w K mg base 1 "_law_draws" g__law_draws :=
  fn_mk F sc__law_draws bn hm fun cdv A outer s H E hr tk po => (dss_cons (ds_setO 2 sc__law_draws.nd (oe_lst da_nil))
  (dss_cons (ds_if (dt_cmp op_ge ok_ge (de_var 0).be (DE.be (de_op op_pow ok_pow (DE.be de_int) (DE.be de_int))) (nomark _))
  (dss_cons (ds_set 3 sc__law_draws.nd (de_callT1 call_int1 ok_int (de_var 0).be m_int bt_int))
  (dss_cons (ds_for po rfl (di_any (de_var 1)) (dg_name 4 sc__law_draws.nd)
  (dss_cons (ds_app 2 (de_op op_mod ok_mod (DE.be (de_callT1 call_int1 ok_int (de_var 3).be m_int bt_int)) (de_var 4).be))
  (dss_one (ds_set 3 sc__law_draws.nd (de_op op_fdiv ok_div (de_var 3).be (de_var 4).be)))))
  (dss_one (ds_frz 2 (ds_ret (de_var 2))))))
  dss_nil)
  (dss_cons (ds_set 5 sc__law_draws.nd (de_op op_mod ok_mod (DE.be (de_callT1 call_int1 ok_int (de_var 0).be m_int bt_int)) (DE.be de_int)))
  (dss_cons (ds_for po rfl (di_range1 false (DE.be (de_call1 call_len ok_len (de_var 1).be m_len bt_len)) m_range) (dg_name 6 sc__law_draws.nd)
  (dss_cons (ds_set 5 sc__law_draws.nd (de_op op_mod ok_mod (DE.be (de_callT1 call_int1 ok_int (DE.be (de_op op_addD ok_add (DE.be (de_op op_addD ok_add (DE.be (de_op op_mulD ok_mul (de_var 5).be (DE.be de_int))) (DE.be (de_op op_mulD ok_mul (DE.be de_int) (de_var 6).be)))) (DE.be de_int))) m_int bt_int)) (DE.be de_int)))
  (dss_cons (ds_set 7 sc__law_draws.nd (de_op op_mod ok_mod (DE.be (de_callT1 call_int1 ok_int (DE.be (de_op op_addD ok_add (DE.be (de_op op_addD ok_add (DE.be (de_op op_mulD ok_mul (DE.be (de_op op_fdiv ok_div (de_var 5).be (DE.be de_int))) (DE.be de_int))) (DE.be (de_op op_mulD ok_mul (DE.be de_int) (de_var 6).be)))) (DE.be de_int))) m_int bt_int)) (DE.be de_int)))
  (dss_one (ds_app 2 (de_op op_mod ok_mod (DE.be (de_callT1 call_int1 ok_int (de_var 7).be m_int bt_int)) (DE.be (de_ix (de_var 1).be (de_var 6).be))))))))
  (dss_one (ds_frz 2 (ds_ret (de_var 2))))))))
theorem ok__law_error {f : Addr} {fd : FuncData}  (F : L2.Fun K "_law_error" "_law_error" s__law_error f fd) (bn : Binds K fd ["e"] []) (hm : mg "_law_error" = some (.ref f)) (m_ValueError : mg "ValueError" = none) (m_isinstance : mg "isinstance" = none) (m_tuple : mg "tuple" = none)   (q_BadNeed : AskC K mg "BadNeed" tb_BadNeed) (q_BadRide : AskC K mg "BadRide" tb_BadRide) (q_BadRow : AskC K mg "BadRow" tb_BadRow) (q_BadSplit : AskC K mg "BadSplit" tb_BadSplit) (q_Clash : AskC K mg "Clash" tb_Clash) (q_NoDeed : AskC K mg "NoDeed" tb_NoDeed) (q_NoRide : AskC K mg "NoRide" tb_NoRide) (q_NoTicket : AskC K mg "NoTicket" tb_NoTicket) (q_NotTold : AskC K mg "NotTold" tb_NotTold) (q_OtherWindows : AskC K mg "OtherWindows" tb_OtherWindows) (q_OutOfOrder : AskC K mg "OutOfOrder" tb_OutOfOrder) (q_TooMany : AskC K mg "TooMany" tb_TooMany) (q_TwiceTold : AskC K mg "TwiceTold" tb_TwiceTold) (q_ValueError : IsTbl K (.type "ValueError") tb_ValueError)  (f_first : FldOk K rz "first") (f_leg : FldOk K rz "leg") (f_limit : FldOk K rz "limit") (f_need : FldOk K rz "need") (f_number : FldOk K rz "number") (f_ride : FldOk K rz "ride") (f_row : FldOk K rz "row") (f_second : FldOk K rz "second") (f_word : FldOk K rz "word")   : Fn P w K mg base 1 "_law_error" g__law_error :=
  fn_mk F sc__law_error bn hm fun cdv A outer s H E hr tk po => (dss_cons (ds_setO 1 sc__law_error.nd (oe_lst da_nil))
  (dss_cons (ds_if (dt_val (de_isC q_BadRow (de_var 0) m_isinstance))
  (dss_one (ds_app 1 (de_tup (da_cons de_int (da_cons (de_fld f_row (de_var 0)) da_nil)))))
  dss_nil)
  (dss_cons (ds_if (dt_val (de_isC q_OutOfOrder (de_var 0) m_isinstance))
  (dss_one (ds_app 1 (de_tup (da_cons de_int (da_cons (de_fld f_row (de_var 0)) da_nil)))))
  dss_nil)
  (dss_cons (ds_if (dt_val (de_isC q_TwiceTold (de_var 0) m_isinstance))
  (dss_one (ds_app 1 (de_tup (da_cons de_int (da_cons (de_fld f_row (de_var 0)) (da_cons (de_fld f_word (de_var 0)) da_nil))))))
  dss_nil)
  (dss_cons (ds_if (dt_val (de_isC q_NotTold (de_var 0) m_isinstance))
  (dss_one (ds_app 1 (de_tup (da_cons de_int (da_cons (de_fld f_row (de_var 0)) (da_cons (de_fld f_word (de_var 0)) da_nil))))))
  dss_nil)
  (dss_cons (ds_if (dt_val (de_isC q_TooMany (de_var 0) m_isinstance))
  (dss_one (ds_app 1 (de_tup (da_cons de_int (da_cons (de_fld f_limit (de_var 0)) da_nil)))))
  dss_nil)
  (dss_cons (ds_if (dt_val (de_isC q_Clash (de_var 0) m_isinstance))
  (dss_one (ds_app 1 (de_tup (da_cons de_int (da_cons (de_fld f_first (de_var 0)) (da_cons (de_fld f_second (de_var 0)) da_nil))))))
  dss_nil)
  (dss_cons (ds_if (dt_val (de_isC q_BadRide (de_var 0) m_isinstance))
  (dss_one (ds_app 1 (de_tup (da_cons de_int (da_cons (de_fld f_row (de_var 0)) (da_cons (de_fld f_leg (de_var 0)) da_nil))))))
  dss_nil)
  (dss_cons (ds_if (dt_val (de_isC q_BadNeed (de_var 0) m_isinstance))
  (dss_one (ds_app 1 (de_tup (da_cons de_int (da_cons (de_fld f_need (de_var 0)) da_nil)))))
  dss_nil)
  (dss_cons (ds_if (dt_val (de_isC q_NoTicket (de_var 0) m_isinstance))
  (dss_one (ds_app 1 (de_tup (da_cons de_int (da_cons (de_fld f_ride (de_var 0)) (da_cons (de_fld f_leg (de_var 0)) da_nil))))))
  dss_nil)
  (dss_cons (ds_if (dt_val (de_isC q_NoRide (de_var 0) m_isinstance))
  (dss_one (ds_app 1 (de_tup (da_cons de_int (da_cons (de_fld f_number (de_var 0)) da_nil)))))
  dss_nil)
  (dss_cons (ds_if (dt_val (de_isC q_NoDeed (de_var 0) m_isinstance))
  (dss_one (ds_app 1 (de_tup (da_cons de_int da_nil))))
  dss_nil)
  (dss_cons (ds_if (dt_val (de_isC q_OtherWindows (de_var 0) m_isinstance))
  (dss_one (ds_app 1 (de_tup (da_cons de_int da_nil))))
  dss_nil)
  (dss_cons (ds_if (dt_val (de_isC q_BadSplit (de_var 0) m_isinstance))
  (dss_one (ds_app 1 (de_tup (da_cons de_int da_nil))))
  dss_nil)
  (dss_one (ds_ret (de_tup (da_cons (de_isBlt q_ValueError (de_var 0) m_isinstance m_ValueError PyProof.Rows.Boot.«ValueError») (da_cons (de_callT1 call_tuple_of ok_tuple (be_var 1) m_tuple bt_tuple) da_nil)))))))))))))))))))
theorem okS__law_error {f : Addr} {fd : FuncData}  (F : L2.Fun K "_law_error" "_law_error" s__law_error f fd) (bn : Binds K fd ["e"] []) (hm : mg "_law_error" = some (.ref f)) (m_ValueError : mg "ValueError" = none) (m_isinstance : mg "isinstance" = none) (m_tuple : mg "tuple" = none)   (q_BadNeed : AskC K mg "BadNeed" tb_BadNeed) (q_BadRide : AskC K mg "BadRide" tb_BadRide) (q_BadRow : AskC K mg "BadRow" tb_BadRow) (q_BadSplit : AskC K mg "BadSplit" tb_BadSplit) (q_Clash : AskC K mg "Clash" tb_Clash) (q_NoDeed : AskC K mg "NoDeed" tb_NoDeed) (q_NoRide : AskC K mg "NoRide" tb_NoRide) (q_NoTicket : AskC K mg "NoTicket" tb_NoTicket) (q_NotTold : AskC K mg "NotTold" tb_NotTold) (q_OtherWindows : AskC K mg "OtherWindows" tb_OtherWindows) (q_OutOfOrder : AskC K mg "OutOfOrder" tb_OutOfOrder) (q_TooMany : AskC K mg "TooMany" tb_TooMany) (q_TwiceTold : AskC K mg "TwiceTold" tb_TwiceTold) (q_ValueError : IsTbl K (.type "ValueError") tb_ValueError)  (f_first : FldOk K rz "first") (f_leg : FldOk K rz "leg") (f_limit : FldOk K rz "limit") (f_need : FldOk K rz "need") (f_number : FldOk K rz "number") (f_ride : FldOk K rz "ride") (f_row : FldOk K rz "row") (f_second : FldOk K rz "second") (f_word : FldOk K rz "word")  : FnS P w K mg base 1 "_law_error" g__law_error :=
  fns_mk F sc__law_error bn hm fun cdv A outer s H E o hr tk => (dss_cons (ds_setO 1 sc__law_error.nd (oe_lst da_nil))
  (dss_cons (ds_if (dt_val (de_isC q_BadRow (de_var 0) m_isinstance))
  (dss_one (ds_app 1 (de_tup (da_cons de_int (da_cons (de_fld f_row (de_var 0)) da_nil)))))
  dss_nil)
  (dss_cons (ds_if (dt_val (de_isC q_OutOfOrder (de_var 0) m_isinstance))
  (dss_one (ds_app 1 (de_tup (da_cons de_int (da_cons (de_fld f_row (de_var 0)) da_nil)))))
  dss_nil)
  (dss_cons (ds_if (dt_val (de_isC q_TwiceTold (de_var 0) m_isinstance))
  (dss_one (ds_app 1 (de_tup (da_cons de_int (da_cons (de_fld f_row (de_var 0)) (da_cons (de_fld f_word (de_var 0)) da_nil))))))
  dss_nil)
  (dss_cons (ds_if (dt_val (de_isC q_NotTold (de_var 0) m_isinstance))
  (dss_one (ds_app 1 (de_tup (da_cons de_int (da_cons (de_fld f_row (de_var 0)) (da_cons (de_fld f_word (de_var 0)) da_nil))))))
  dss_nil)
  (dss_cons (ds_if (dt_val (de_isC q_TooMany (de_var 0) m_isinstance))
  (dss_one (ds_app 1 (de_tup (da_cons de_int (da_cons (de_fld f_limit (de_var 0)) da_nil)))))
  dss_nil)
  (dss_cons (ds_if (dt_val (de_isC q_Clash (de_var 0) m_isinstance))
  (dss_one (ds_app 1 (de_tup (da_cons de_int (da_cons (de_fld f_first (de_var 0)) (da_cons (de_fld f_second (de_var 0)) da_nil))))))
  dss_nil)
  (dss_cons (ds_if (dt_val (de_isC q_BadRide (de_var 0) m_isinstance))
  (dss_one (ds_app 1 (de_tup (da_cons de_int (da_cons (de_fld f_row (de_var 0)) (da_cons (de_fld f_leg (de_var 0)) da_nil))))))
  dss_nil)
  (dss_cons (ds_if (dt_val (de_isC q_BadNeed (de_var 0) m_isinstance))
  (dss_one (ds_app 1 (de_tup (da_cons de_int (da_cons (de_fld f_need (de_var 0)) da_nil)))))
  dss_nil)
  (dss_cons (ds_if (dt_val (de_isC q_NoTicket (de_var 0) m_isinstance))
  (dss_one (ds_app 1 (de_tup (da_cons de_int (da_cons (de_fld f_ride (de_var 0)) (da_cons (de_fld f_leg (de_var 0)) da_nil))))))
  dss_nil)
  (dss_cons (ds_if (dt_val (de_isC q_NoRide (de_var 0) m_isinstance))
  (dss_one (ds_app 1 (de_tup (da_cons de_int (da_cons (de_fld f_number (de_var 0)) da_nil)))))
  dss_nil)
  (dss_cons (ds_if (dt_val (de_isC q_NoDeed (de_var 0) m_isinstance))
  (dss_one (ds_app 1 (de_tup (da_cons de_int da_nil))))
  dss_nil)
  (dss_cons (ds_if (dt_val (de_isC q_OtherWindows (de_var 0) m_isinstance))
  (dss_one (ds_app 1 (de_tup (da_cons de_int da_nil))))
  dss_nil)
  (dss_cons (ds_if (dt_val (de_isC q_BadSplit (de_var 0) m_isinstance))
  (dss_one (ds_app 1 (de_tup (da_cons de_int da_nil))))
  dss_nil)
  (dss_one (ds_ret (de_tup (da_cons (de_isBlt q_ValueError (de_var 0) m_isinstance m_ValueError PyProof.Rows.Boot.«ValueError») (da_cons (de_callT1 call_tuple_of ok_tuple (be_var 1) m_tuple bt_tuple) da_nil)))))))))))))))))))
theorem ok__law_limits {f : Addr} {fd : FuncData} {t_MOST_AMOUNT : Tok} {t_MOST_CARRIERS : Tok} {t_MOST_DEEDS : Tok} {t_MOST_DEPTH : Tok} {t_MOST_LEGS : Tok} {t_MOST_LINES : Tok} {t_MOST_LINE_STOPS : Tok} {t_MOST_MEMBERS : Tok} {t_MOST_NEEDS : Tok} {t_MOST_PRICE : Tok} {t_MOST_RIDES : Tok} {t_MOST_RING : Tok} {t_MOST_RUNS : Tok} {t_MOST_STEP : Tok} {t_MOST_STOPS : Tok} {t_MOST_TICKETS : Tok} {t_MOST_TIME : Tok} {t_MOST_WINDOWS : Tok} (F : L2.Fun K "_law_limits" "_law_limits" s__law_limits f fd) (bn : Binds K fd [] []) (hm : mg "_law_limits" = some (.ref f))  (k_MOST_AMOUNT : mg "MOST_AMOUNT" = some (.int 999999999 t_MOST_AMOUNT)) (k_MOST_CARRIERS : mg "MOST_CARRIERS" = some (.int 5 t_MOST_CARRIERS)) (k_MOST_DEEDS : mg "MOST_DEEDS" = some (.int 100 t_MOST_DEEDS)) (k_MOST_DEPTH : mg "MOST_DEPTH" = some (.int 6 t_MOST_DEPTH)) (k_MOST_LEGS : mg "MOST_LEGS" = some (.int 4 t_MOST_LEGS)) (k_MOST_LINES : mg "MOST_LINES" = some (.int 16 t_MOST_LINES)) (k_MOST_LINE_STOPS : mg "MOST_LINE_STOPS" = some (.int 12 t_MOST_LINE_STOPS)) (k_MOST_MEMBERS : mg "MOST_MEMBERS" = some (.int 5 t_MOST_MEMBERS)) (k_MOST_NEEDS : mg "MOST_NEEDS" = some (.int 240 t_MOST_NEEDS)) (k_MOST_PRICE : mg "MOST_PRICE" = some (.int 999999 t_MOST_PRICE)) (k_MOST_RIDES : mg "MOST_RIDES" = some (.int 60 t_MOST_RIDES)) (k_MOST_RING : mg "MOST_RING" = some (.int 6 t_MOST_RING)) (k_MOST_RUNS : mg "MOST_RUNS" = some (.int 30 t_MOST_RUNS)) (k_MOST_STEP : mg "MOST_STEP" = some (.int 999 t_MOST_STEP)) (k_MOST_STOPS : mg "MOST_STOPS" = some (.int 30 t_MOST_STOPS)) (k_MOST_TICKETS : mg "MOST_TICKETS" = some (.int 36 t_MOST_TICKETS)) (k_MOST_TIME : mg "MOST_TIME" = some (.int 9999 t_MOST_TIME)) (k_MOST_WINDOWS : mg "MOST_WINDOWS" = some (.int 40 t_MOST_WINDOWS))       : Fn P w K mg base 1 "_law_limits" g__law_limits :=
  fn_mk F sc__law_limits bn hm fun cdv A outer s H E hr tk po => (dss_cons (ds_set 0 sc__law_limits.nd (de_tup (da_cons (de_globI (by rfl) k_MOST_STOPS) (da_cons (de_globI (by rfl) k_MOST_LINES) (da_cons (de_globI (by rfl) k_MOST_LINE_STOPS) (da_cons (de_globI (by rfl) k_MOST_CARRIERS) (da_cons (de_globI (by rfl) k_MOST_RING) (da_cons (de_globI (by rfl) k_MOST_WINDOWS) (da_cons (de_globI (by rfl) k_MOST_DEPTH) (da_cons (de_globI (by rfl) k_MOST_TIME) da_nil))))))))))
  (dss_cons (ds_set 1 sc__law_limits.nd (de_tup (da_cons (de_globI (by rfl) k_MOST_TICKETS) (da_cons (de_globI (by rfl) k_MOST_PRICE) (da_cons (de_globI (by rfl) k_MOST_RIDES) (da_cons (de_globI (by rfl) k_MOST_LEGS) (da_cons (de_globI (by rfl) k_MOST_NEEDS) (da_cons (de_globI (by rfl) k_MOST_DEEDS) (da_cons (de_globI (by rfl) k_MOST_AMOUNT) da_nil)))))))))
  (dss_one (ds_ret (de_op op_addD ok_add (DE.be (de_op op_addD ok_add (de_var 0).be (de_var 1).be)) (DE.be (de_tup (da_cons (de_globI (by rfl) k_MOST_RUNS) (da_cons (de_globI (by rfl) k_MOST_STEP) (da_cons (de_globI (by rfl) k_MOST_MEMBERS) da_nil))))))))))
theorem ok__law_names {f : Addr} {fd : FuncData}  (F : L2.Fun K "_law_names" "_law_names" s__law_names f fd) (bn : Binds K fd ["cell", "many"] []) (hm : mg "_law_names" = some (.ref f)) (m_int : mg "int" = none) (m_range : mg "range" = none) (m_str : mg "str" = none)       (c__law_draws : Fn P w K mg base 1 "_law_draws" g__law_draws) : Fn P w K mg base 2 "_law_names" g__law_names :=
  fn_mk F sc__law_names bn hm fun cdv A outer s H E hr tk po => (dss_cons (ds_set 2 sc__law_names.nd de_str)
  (dss_cons (ds_set 3 sc__law_names.nd de_str (hx := .inr rfl))
  (dss_cons (ds_set 4 sc__law_names.nd (de_call c__law_draws (hr.mono (by decide)) tk (da_cons (de_var 0) (da_cons (de_op op_addD ok_add (DE.be (OE.de (oe_lst (da_cons de_int (da_cons de_int (da_cons de_int (da_cons de_int (da_cons de_int da_nil)))))))) (DE.be (de_op op_mulD ok_mul (DE.be (OE.de (oe_lst (da_cons de_int da_nil)))) (DE.be de_int)))) da_nil))) (hx := .inr rfl))
  (dss_cons (ds_set 5 sc__law_names.nd (de_op op_addD ok_add (DE.be (de_ix (de_var 2).be (DE.be (de_ix (de_var 4).be (DE.be de_int))))) (DE.be (de_join (DE.be de_str) (DE.be (OE.de (oe_lc [("k", 6)] rfl sc__law_names.nd (di_range1 true (DE.be de_int) m_range) (blkOk_by (N := ["cell", "many", "letters", "signs", "draws", "stem", "k", "place", "names", "code", "part"]) (sc := defScope s__law_names) (by decide +kernel)) (fun _ _ _ _ _ => (dg_name 6 sc__law_names.nd)) (tok_name 6) (fun _ _ _ _ _ => dts_nil) (fun _ _ _ _ _ => (de_ix (de_var 3).be (DE.be (de_ix (de_var 4).be (DE.be (de_op op_addD ok_add (DE.be de_int) (de_var 6).be)))))))))))))
  (dss_cons (ds_set 7 sc__law_names.nd (de_op op_mod ok_mod (DE.be (de_callT1 call_int1 ok_int (DE.be (de_ix (de_var 4).be (DE.be de_int))) m_int bt_int)) (DE.be (de_op op_addD ok_add (DE.be (de_ix (de_var 4).be (DE.be de_int))) (DE.be de_int)))))
  (dss_cons (ds_setO 8 sc__law_names.nd (oe_lst da_nil))
  (dss_cons (ds_for po rfl (di_range1 false (de_var 1).be m_range) (dg_name 6 sc__law_names.nd)
  (dss_cons (ds_set 9 sc__law_names.nd (de_op op_addD ok_add (DE.be (de_ix (de_var 2).be (DE.be (de_op op_mod ok_mod (DE.be (de_callT1 call_int1 ok_int (DE.be (de_op op_addD ok_add (DE.be (de_op op_mulD ok_mul (de_var 6).be (DE.be de_int))) (DE.be (de_ix (de_var 4).be (DE.be de_int))))) m_int bt_int)) (DE.be de_int))))) (DE.be (de_callT1 call_str_int ok_str (DE.be (de_op op_fdiv ok_div (de_var 6).be (DE.be de_int))) m_str bt_str))))
  (dss_cons (ds_set 10 sc__law_names.nd (de_cut (de_var 5).be do_none (do_some (DE.be (de_op op_mod ok_mod (DE.be (de_callT1 call_int1 ok_int (DE.be (de_op op_addD ok_add (DE.be (de_ix (de_var 4).be (DE.be de_int))) (DE.be (de_op op_mulD ok_mul (DE.be de_int) (de_var 6).be)))) m_int bt_int)) (DE.be de_int))))))
  (dss_one (ds_if (dt_w (dw_and (dt_cmp (op_eqP hr.units) ok_eq (DE.be (de_ix (de_var 4).be (DE.be de_int))) (DE.be de_int) (nomark _)) (dw_and1 (dt_cmp op_le ok_le (de_var 1).be (DE.be de_int) (nomark _)))))
  (dss_one (ds_app 8 (de_ix (de_var 9).be (DE.be de_int))))
  (dss_one (ds_if (dt_cmp op_le ok_le (DE.be (de_ix (de_var 4).be (DE.be de_int))) (DE.be de_int) (nomark _))
  (dss_one (ds_app 8 (de_op op_addD ok_add (DE.be (de_op op_addD ok_add (DE.be (de_cut (de_var 5).be do_none (do_some (de_var 7).be))) (de_var 9).be)) (DE.be (de_cut (de_var 5).be (do_some (de_var 7).be) (do_some (DE.be (de_ix (de_var 4).be (DE.be de_int)))))))))
  (dss_one (ds_if (dt_cmp (op_eqP hr.units) ok_eq (DE.be (de_ix (de_var 4).be (DE.be de_int))) (DE.be de_int) (nomark _))
  (dss_one (ds_app 8 (de_op op_addD ok_add (de_var 10).be (de_var 9).be)))
  (dss_one (ds_app 8 (de_op op_addD ok_add (de_var 9).be (de_var 10).be))))))))))))
  (dss_one (ds_frz 8 (ds_ret (de_var 8)))))))))))
theorem ok__law_raise {f : Addr} {fd : FuncData}  (F : L2.Fun K "_law_raise" "_law_raise" s__law_raise f fd) (bn : Binds K fd ["which", "one", "two", "text"] []) (hm : mg "_law_raise" = some (.ref f))   (x_BadNeed : ExcK P w K mg base "BadNeed" ["need"]) (x_BadRide : ExcK P w K mg base "BadRide" ["row", "leg"]) (x_BadRow : ExcK P w K mg base "BadRow" ["row"]) (x_BadSplit : ExcK P w K mg base "BadSplit" []) (x_Clash : ExcK P w K mg base "Clash" ["first", "second"]) (x_NoDeed : ExcK P w K mg base "NoDeed" []) (x_NoRide : ExcK P w K mg base "NoRide" ["number"]) (x_NoTicket : ExcK P w K mg base "NoTicket" ["ride", "leg"]) (x_NotTold : ExcK P w K mg base "NotTold" ["row", "word"]) (x_OtherWindows : ExcK P w K mg base "OtherWindows" []) (x_OutOfOrder : ExcK P w K mg base "OutOfOrder" ["row"]) (x_TooMany : ExcK P w K mg base "TooMany" ["limit"]) (x_TwiceTold : ExcK P w K mg base "TwiceTold" ["row", "word"])      : Fn P w K mg base 3 "_law_raise" g__law_raise :=
  fn_mk F sc__law_raise bn hm fun cdv A outer s H E hr tk po => (dss_cons (ds_if (dt_cmp (op_eqP hr.units) ok_eq (de_var 0).be (DE.be de_int) (nomark _))
  (dss_one (ds_raise x_BadRow (by decide) (hr.mono (by decide)) rfl tk (da_cons (de_var 1) da_nil)))
  dss_nil)
  (dss_cons (ds_if (dt_cmp (op_eqP hr.units) ok_eq (de_var 0).be (DE.be de_int) (nomark _))
  (dss_one (ds_raise x_OutOfOrder (by decide) (hr.mono (by decide)) rfl tk (da_cons (de_var 1) da_nil)))
  dss_nil)
  (dss_cons (ds_if (dt_cmp (op_eqP hr.units) ok_eq (de_var 0).be (DE.be de_int) (nomark _))
  (dss_one (ds_raise x_TwiceTold (by decide) (hr.mono (by decide)) rfl tk (da_cons (de_var 1) (da_cons (de_var 3) da_nil))))
  dss_nil)
  (dss_cons (ds_if (dt_cmp (op_eqP hr.units) ok_eq (de_var 0).be (DE.be de_int) (nomark _))
  (dss_one (ds_raise x_NotTold (by decide) (hr.mono (by decide)) rfl tk (da_cons (de_var 1) (da_cons (de_var 3) da_nil))))
  dss_nil)
  (dss_cons (ds_if (dt_cmp (op_eqP hr.units) ok_eq (de_var 0).be (DE.be de_int) (nomark _))
  (dss_one (ds_raise x_TooMany (by decide) (hr.mono (by decide)) rfl tk (da_cons (de_var 1) da_nil)))
  dss_nil)
  (dss_cons (ds_if (dt_cmp (op_eqP hr.units) ok_eq (de_var 0).be (DE.be de_int) (nomark _))
  (dss_one (ds_raise x_Clash (by decide) (hr.mono (by decide)) rfl tk (da_cons (de_var 1) (da_cons (de_var 2) da_nil))))
  dss_nil)
  (dss_cons (ds_if (dt_cmp (op_eqP hr.units) ok_eq (de_var 0).be (DE.be de_int) (nomark _))
  (dss_one (ds_raise x_BadRide (by decide) (hr.mono (by decide)) rfl tk (da_cons (de_var 1) (da_cons (de_var 2) da_nil))))
  dss_nil)
  (dss_cons (ds_if (dt_cmp (op_eqP hr.units) ok_eq (de_var 0).be (DE.be de_int) (nomark _))
  (dss_one (ds_raise x_BadNeed (by decide) (hr.mono (by decide)) rfl tk (da_cons (de_var 1) da_nil)))
  dss_nil)
  (dss_cons (ds_if (dt_cmp (op_eqP hr.units) ok_eq (de_var 0).be (DE.be de_int) (nomark _))
  (dss_one (ds_raise x_NoTicket (by decide) (hr.mono (by decide)) rfl tk (da_cons (de_var 1) (da_cons (de_var 2) da_nil))))
  dss_nil)
  (dss_cons (ds_if (dt_cmp (op_eqP hr.units) ok_eq (de_var 0).be (DE.be de_int) (nomark _))
  (dss_one (ds_raise x_NoRide (by decide) (hr.mono (by decide)) rfl tk (da_cons (de_var 1) da_nil)))
  dss_nil)
  (dss_cons (ds_if (dt_cmp (op_eqP hr.units) ok_eq (de_var 0).be (DE.be de_int) (nomark _))
  (dss_one (ds_raise0 x_NoDeed (hr.mono (by decide)) rfl tk))
  dss_nil)
  (dss_cons (ds_if (dt_cmp (op_eqP hr.units) ok_eq (de_var 0).be (DE.be de_int) (nomark _))
  (dss_one (ds_raise0 x_OtherWindows (hr.mono (by decide)) rfl tk))
  dss_nil)
  (dss_one (ds_raise0 x_BadSplit (hr.mono (by decide)) rfl tk))))))))))))))
theorem ok__law_caught {f : Addr} {fd : FuncData}  (F : L2.Fun K "_law_caught" "_law_caught" s__law_caught f fd) (bn : Binds K fd ["which", "one", "two", "text"] []) (hm : mg "_law_caught" = some (.ref f))     (w_FareError : TakeC K mg "FareError" tb_FareError)  (h__law_error : FnS P w K mg base 1 "_law_error" g__law_error) (c__law_raise : Fn P w K mg base 3 "_law_raise" g__law_raise) : Fn P w K mg base 4 "_law_caught" g__law_caught :=
  fn_mk F sc__law_caught bn hm fun cdv A outer s H E hr tk po => (dss_cons (ds_try rfl rfl rfl sc__law_caught.nd tk (fun W1 pn1 xe1 tk1 po1 => (dss_one (ds_expr (de_call c__law_raise (hr.mono (by decide)) tk1 (da_cons (de_var 0) (da_cons (de_var 1) (da_cons (de_var 2) (da_cons (de_var 3) da_nil))))))))
  (cs_as 4 w_FareError (fun a pn => (dss_one (ds_ret (de_callS h__law_error ((roomS_suite hr).mono (by decide)) takes0 (da_cons (de_var 4) da_nil)))))
  .nil))
  (dss_one (ds_ret de_non)))
theorem ok__law_same {f : Addr} {fd : FuncData}  (F : L2.Fun K "_law_same" "_law_same" s__law_same f fd) (bn : Binds K fd ["actual", "due"] []) (hm : mg "_law_same" = some (.ref f)) (m_bool : mg "bool" = none) (m_int : mg "int" = none) (m_isinstance : mg "isinstance" = none) (m_len : mg "len" = none) (m_range : mg "range" = none) (m_str : mg "str" = none) (m_tuple : mg "tuple" = none)        : ∀ n : Nat, Fn P w K mg base (0 + n) "_law_same" (g__law_same n)
  | 0 => fn_zero F.kp bn hm
  | n + 1 => by
    have c__law_same := ok__law_same F bn hm m_bool m_int m_isinstance m_len m_range m_str m_tuple n
    exact fn_mk (k := 0 + n) F sc__law_same bn hm fun cdv A outer s H E hr tk po => (dss_cons (ds_if (dt_val (de_isi isi_tup (de_var 1).be m_isinstance m_tuple bt_tuple))
  (dss_cons (ds_if (dt_w (dw_or (dt_not (dt_val (de_isi isi_tup (de_var 0).be m_isinstance m_tuple bt_tuple))) (dw_or1 (dt_cmp (op_neP hr.units) ok_ne (DE.be (de_call1 call_len ok_len (de_var 0).be m_len bt_len)) (DE.be (de_call1 call_len ok_len (de_var 1).be m_len bt_len)) (nomark _)))))
  (dss_one (ds_ret de_bl))
  dss_nil)
  (dss_cons (ds_for po rfl (di_range1 false (DE.be (de_call1 call_len ok_len (de_var 1).be m_len bt_len)) m_range) (dg_name 2 sc__law_same.nd)
  (dss_one (ds_if (dt_not (dt_val (de_call c__law_same (hr.mono (by omega)) tk (da_cons (de_ix (de_var 0).be (de_var 2).be) (da_cons (de_ix (de_var 1).be (de_var 2).be) da_nil)))))
  (dss_one (ds_ret de_bl))
  dss_nil)))
  (dss_one (ds_ret de_bl))))
  dss_nil)
  (dss_cons (ds_if (dt_cmp op_isN ok_is (de_var 1).be (DE.be de_non) (nomark _))
  (dss_one (ds_ret (de_cmp op_isN ok_is (de_var 0).be (DE.be de_non) (nomark _))))
  dss_nil)
  (dss_cons (ds_if (dt_val (de_isi isi_bool (de_var 1).be m_isinstance m_bool bt_bool))
  (dss_one (ds_ret (de_and (de_isi isi_bool (de_var 0).be m_isinstance m_bool bt_bool) (de_one (de_cmp (op_eqP hr.units) ok_eq (de_var 0).be (de_var 1).be (nomark _))))))
  dss_nil)
  (dss_cons (ds_if (dt_val (de_isi isi_int (de_var 1).be m_isinstance m_int bt_int))
  (dss_one (ds_ret (de_and (de_isi isi_int (de_var 0).be m_isinstance m_int bt_int) (de_and (de_not (de_isi isi_bool (de_var 0).be m_isinstance m_bool bt_bool)) (de_one (de_cmp (op_eqP hr.units) ok_eq (de_var 0).be (de_var 1).be (nomark _)))))))
  dss_nil)
  (dss_one (ds_ret (de_and (de_isi isi_str (de_var 0).be m_isinstance m_str bt_str) (de_one (de_cmp (op_eqP hr.units) ok_eq (de_var 0).be (de_var 1).be (nomark _))))))))))
theorem ok_law {f : Addr} {fd : FuncData}  (F : L2.Fun K "law" "law" s_law f fd) (m_range : mg "range" = none)       (c__law_caught : Fn P w K mg base 4 "_law_caught" g__law_caught) (c__law_cell : Fn P w K mg base 1 "_law_cell" g__law_cell) (c__law_draws : Fn P w K mg base 1 "_law_draws" g__law_draws) (c__law_limits : Fn P w K mg base 1 "_law_limits" g__law_limits) (c__law_names : Fn P w K mg base 2 "_law_names" g__law_names) (c__law_same : Fn P w K mg base 6 "_law_same" (g__law_same 6)) : FnOk P w K mg base (L2.CX P w) 7 f fd ["script"] (spD K mg g_law) :=
  fnok_mk F sc_law fun cdv A outer s H E hr tk po => (dss_cons (ds_set 1 sc_law.nd (de_tup (da_cons de_int (da_cons de_int (da_cons de_int (da_cons de_int (da_cons de_int (da_cons de_int (da_cons de_int (da_cons de_int (da_cons de_int (da_cons de_int (da_cons de_int (da_cons de_int (da_cons de_int (da_cons de_int (da_cons de_int (da_cons de_int (da_cons de_int (da_cons de_int da_nil))))))))))))))))))))
  (dss_cons (ds_if (dt_not (dt_val (de_call c__law_same (hr.mono (by decide)) tk (da_cons (de_call0 c__law_limits (hr.mono (by decide)) tk) (da_cons (de_var 1) da_nil)))))
  (dss_one (ds_ret de_bl))
  dss_nil)
  (dss_cons (ds_set 2 sc_law.nd (de_call c__law_cell (hr.mono (by decide)) tk (da_cons (de_var 0) (da_cons de_int da_nil))))
  (dss_cons (ds_set 3 sc_law.nd (de_op op_addD ok_add (DE.be (de_op op_addD ok_add (de_var 2).be (DE.be de_int))) (DE.be (de_ix (DE.be (de_call c__law_draws (hr.mono (by decide)) tk (da_cons (de_call c__law_cell (hr.mono (by decide)) tk (da_cons (de_var 0) (da_cons de_int da_nil))) (da_cons (OE.de (oe_lst (da_cons de_int da_nil))) da_nil)))) (DE.be de_int)))))
  (dss_cons (ds_set 4 sc_law.nd (de_ix (DE.be (de_call c__law_names (hr.mono (by decide)) tk (da_cons (de_call c__law_cell (hr.mono (by decide)) tk (da_cons (de_var 0) (da_cons de_int da_nil))) (da_cons de_int da_nil)))) (DE.be de_int)))
  (dss_cons (ds_set 5 sc_law.nd (OE.de (oe_lst (da_cons (de_tup (da_cons (de_var 2) da_nil)) (da_cons (de_tup (da_cons (de_var 2) da_nil)) (da_cons (de_tup (da_cons (de_var 2) (da_cons (de_var 4) da_nil))) (da_cons (de_tup (da_cons (de_var 2) (da_cons (de_var 4) da_nil))) (da_cons (de_tup (da_cons (de_var 2) da_nil)) (da_cons (de_tup (da_cons (de_var 2) (da_cons (de_var 3) da_nil))) (da_cons (de_tup (da_cons (de_var 2) (da_cons (de_var 3) da_nil))) (da_cons (de_tup (da_cons (de_var 2) da_nil)) (da_cons (de_tup (da_cons (de_var 2) (da_cons (de_var 3) da_nil))) (da_cons (de_tup (da_cons (de_var 2) da_nil)) (da_cons (de_tup da_nil) (da_cons (de_tup da_nil) (da_cons (de_tup da_nil) da_nil))))))))))))))))
  (dss_cons (ds_for po rfl (di_range1 false (DE.be de_int) m_range) (dg_name 6 sc_law.nd)
  (dss_one (ds_if (dt_not (dt_val (de_call c__law_same (hr.mono (by decide)) tk (da_cons (de_call c__law_caught (hr.mono (by decide)) tk (da_cons (de_var 6) (da_cons (de_var 2) (da_cons (de_var 3) (da_cons (de_var 4) da_nil))))) (da_cons (de_tup (da_cons de_bl (da_cons (de_tup (da_cons (de_op op_addD ok_add (DE.be (de_tup (da_cons (de_var 6) da_nil))) (DE.be (de_ix (de_var 5).be (de_var 6).be))) da_nil)) da_nil))) da_nil)))))
  (dss_one (ds_ret de_bl))
  dss_nil)))
  (dss_one (ds_ret (de_call c__law_same (hr.mono (by decide)) tk (da_cons (de_call c__law_caught (hr.mono (by decide)) tk (da_cons de_int (da_cons (de_var 3) (da_cons (de_var 2) (da_cons (de_var 4) da_nil))))) (da_cons (de_tup (da_cons de_bl (da_cons (de_tup (da_cons (de_tup (da_cons de_int (da_cons (de_var 3) (da_cons (de_var 2) da_nil)))) da_nil)) da_nil))) da_nil))))))))))))
end
end K02

namespace K02
open PySem PySem.Spec PyProof.Rows L2 DL
theorem e_cell : g__law_cell = g_cell := rfl
theorem e_draws : g__law_draws = g_draws := rfl
theorem e_names : g__law_names = g_names := rfl
theorem e_same : ∀ n, g__law_same n = g_same n
  | 0 => rfl
  | n + 1 => by
    show runF 3 2 (b__law_same (g__law_same n)) = runF 3 2 (c_same (g_same n))
    rw [e_same n]
    rfl
theorem caught_0 (a b : Int) (t : Str) : g__law_caught [.int 0, .int a, .int b, .str t] = .ok (.tuple [.bool true, .tuple [.tuple [.int 0, .int a]]]) := by kernel_rfl
theorem caught_1 (a b : Int) (t : Str) : g__law_caught [.int 1, .int a, .int b, .str t] = .ok (.tuple [.bool true, .tuple [.tuple [.int 1, .int a]]]) := by kernel_rfl
theorem caught_2 (a b : Int) (t : Str) : g__law_caught [.int 2, .int a, .int b, .str t] = .ok (.tuple [.bool true, .tuple [.tuple [.int 2, .int a, .str t]]]) := by kernel_rfl
theorem caught_3 (a b : Int) (t : Str) : g__law_caught [.int 3, .int a, .int b, .str t] = .ok (.tuple [.bool true, .tuple [.tuple [.int 3, .int a, .str t]]]) := by kernel_rfl
theorem caught_4 (a b : Int) (t : Str) : g__law_caught [.int 4, .int a, .int b, .str t] = .ok (.tuple [.bool true, .tuple [.tuple [.int 4, .int a]]]) := by kernel_rfl
theorem caught_5 (a b : Int) (t : Str) : g__law_caught [.int 5, .int a, .int b, .str t] = .ok (.tuple [.bool true, .tuple [.tuple [.int 5, .int a, .int b]]]) := by kernel_rfl
theorem caught_6 (a b : Int) (t : Str) : g__law_caught [.int 6, .int a, .int b, .str t] = .ok (.tuple [.bool true, .tuple [.tuple [.int 6, .int a, .int b]]]) := by kernel_rfl
theorem caught_7 (a b : Int) (t : Str) : g__law_caught [.int 7, .int a, .int b, .str t] = .ok (.tuple [.bool true, .tuple [.tuple [.int 7, .int a]]]) := by kernel_rfl
theorem caught_8 (a b : Int) (t : Str) : g__law_caught [.int 8, .int a, .int b, .str t] = .ok (.tuple [.bool true, .tuple [.tuple [.int 8, .int a, .int b]]]) := by kernel_rfl
theorem caught_9 (a b : Int) (t : Str) : g__law_caught [.int 9, .int a, .int b, .str t] = .ok (.tuple [.bool true, .tuple [.tuple [.int 9, .int a]]]) := by kernel_rfl
theorem caught_10 (a b : Int) (t : Str) : g__law_caught [.int 10, .int a, .int b, .str t] = .ok (.tuple [.bool true, .tuple [.tuple [.int 10]]]) := by kernel_rfl
theorem caught_11 (a b : Int) (t : Str) : g__law_caught [.int 11, .int a, .int b, .str t] = .ok (.tuple [.bool true, .tuple [.tuple [.int 11]]]) := by kernel_rfl
theorem caught_12 (a b : Int) (t : Str) : g__law_caught [.int 12, .int a, .int b, .str t] = .ok (.tuple [.bool true, .tuple [.tuple [.int 12]]]) := by kernel_rfl
def fieldsD (a b : Int) (t : Str) : List PyData := [.tuple [.int a], .tuple [.int a], .tuple [.int a, .str t], .tuple [.int a, .str t], .tuple [.int a], .tuple [.int a, .int b], .tuple [.int a, .int b], .tuple [.int a], .tuple [.int a, .int b], .tuple [.int a], .tuple [], .tuple [], .tuple []]
def dueD : PyData := .tuple [.int 30, .int 16, .int 12, .int 5, .int 6, .int 40, .int 6, .int 9999, .int 36, .int 999999, .int 60, .int 4, .int 240, .int 100, .int 999999999, .int 30, .int 999, .int 5]
theorem limits_ok : g__law_limits [] = .ok dueD := by kernel_rfl
theorem due_same : g__law_same 6 [dueD, dueD] = .ok (.bool true) := by rw [e_same]; exact same_ok 6 _ rfl
theorem same_of {d : PyData} (h : okD 6 d = true) : g__law_same 6 [d, d] = .ok (.bool true) := by rw [e_same]; exact same_ok 6 _ h
theorem turn (k : Nat) (fs : List PyData) (s0 s1 : Option SV) (a b : Int) (t : Str) (F : List PyData) (hF : F[k]? = some (.tuple fs)) (hl : 1 + fs.length ≤ mx) (hc : g__law_caught [.int (k : Int), .int a, .int b, .str t] = .ok (.tuple [.bool true, .tuple [.tuple (.int (k : Int) :: fs)]]))
    (hs : okD 6 (.tuple [.bool true, .tuple [.tuple (.int (k : Int) :: fs)]]) = true) :
    l_law_1 [s0, s1, some (.val (.int a)), some (.val (.int b)), some (.val (.str t)), some (.val (.list F)), some (.val (.int (k : Int)))] = .nx [s0, s1, some (.val (.int a)), some (.val (.int b)), some (.val (.str t)), some (.val (.list F)), some (.val (.int (k : Int)))] := by
  have e := same_of hs
  simp [l_law_1, at_nat, hF, hl, hc, e]
theorem loop (s0 s1 : Option SV) (a b : Int) (t : Str) : ∃ z, forS (τName 6) l_law_1 ((List.range 13).map fun (k : Nat) => .int (k : Int)) [s0, s1, some (.val (.int a)), some (.val (.int b)), some (.val (.str t)), some (.val (.list (fieldsD a b t))), none]
    = .nx [s0, s1, some (.val (.int a)), some (.val (.int b)), some (.val (.str t)), some (.val (.list (fieldsD a b t))), z] := by
  refine for_rng 13 (fun _ ρ => ∃ z, ρ = [s0, s1, some (.val (.int a)), some (.val (.int b)), some (.val (.str t)), some (.val (.list (fieldsD a b t))), z]) (fun r => ∃ z, r = .nx [s0, s1, some (.val (.int a)), some (.val (.int b)), some (.val (.str t)), some (.val (.list (fieldsD a b t))), z]) ⟨none, rfl⟩ ?_ ?_
  · rintro k ρ hk ⟨z, rfl⟩
    have step : l_law_1 [s0, s1, some (.val (.int a)), some (.val (.int b)), some (.val (.str t)), some (.val (.list (fieldsD a b t))), some (.val (.int (k : Int)))] = .nx [s0, s1, some (.val (.int a)), some (.val (.int b)), some (.val (.str t)), some (.val (.list (fieldsD a b t))), some (.val (.int (k : Int)))] := by
      have h : k = 0 ∨ k = 1 ∨ k = 2 ∨ k = 3 ∨ k = 4 ∨ k = 5 ∨ k = 6 ∨ k = 7 ∨ k = 8 ∨ k = 9 ∨ k = 10 ∨ k = 11 ∨ k = 12 := by omega
      rcases h with rfl | rfl | rfl | rfl | rfl | rfl | rfl | rfl | rfl | rfl | rfl | rfl | rfl
      · exact turn 0 _ _ _ a b t _ rfl (by show _ ≤ 16777216; simp) (caught_0 a b t) rfl
      · exact turn 1 _ _ _ a b t _ rfl (by show _ ≤ 16777216; simp) (caught_1 a b t) rfl
      · exact turn 2 _ _ _ a b t _ rfl (by show _ ≤ 16777216; simp) (caught_2 a b t) rfl
      · exact turn 3 _ _ _ a b t _ rfl (by show _ ≤ 16777216; simp) (caught_3 a b t) rfl
      · exact turn 4 _ _ _ a b t _ rfl (by show _ ≤ 16777216; simp) (caught_4 a b t) rfl
      · exact turn 5 _ _ _ a b t _ rfl (by show _ ≤ 16777216; simp) (caught_5 a b t) rfl
      · exact turn 6 _ _ _ a b t _ rfl (by show _ ≤ 16777216; simp) (caught_6 a b t) rfl
      · exact turn 7 _ _ _ a b t _ rfl (by show _ ≤ 16777216; simp) (caught_7 a b t) rfl
      · exact turn 8 _ _ _ a b t _ rfl (by show _ ≤ 16777216; simp) (caught_8 a b t) rfl
      · exact turn 9 _ _ _ a b t _ rfl (by show _ ≤ 16777216; simp) (caught_9 a b t) rfl
      · exact turn 10 _ _ _ a b t _ rfl (by show _ ≤ 16777216; simp) (caught_10 a b t) rfl
      · exact turn 11 _ _ _ a b t _ rfl (by show _ ≤ 16777216; simp) (caught_11 a b t) rfl
      · exact turn 12 _ _ _ a b t _ rfl (by show _ ≤ 16777216; simp) (caught_12 a b t) rfl
    show Aft (l_law_1 [s0, s1, some (.val (.int a)), some (.val (.int b)), some (.val (.str t)), some (.val (.list (fieldsD a b t))), some (.val (.int (k : Int)))]) _ _
    rw [step, aft_nx]
    exact ⟨_, rfl⟩
  · rintro ρ ⟨z, rfl⟩
    exact ⟨z, rfl⟩
theorem law_true (ns : List Int) (hn : ns.length ≤ 63) : g_law [scr ns] = .ok (.bool true) := by
  obtain ⟨c0, h0⟩ := cell_ok ns 0
  obtain ⟨c1, h1⟩ := cell_ok ns 1
  obtain ⟨c2, h2⟩ := cell_ok ns 2
  rw [← e_cell] at h0 h1 h2
  simp at h0 h1 h2
  obtain ⟨os, ed, d⟩ := draws_ok c1 [1000] (by intro m hm; simp at hm; omega) (by decide)
  obtain ⟨o, ho, _, _⟩ := d.get (i := 0) rfl
  rw [← e_draws] at ed
  simp at ed
  have ao : atI (os.map PyData.int) 0 = some (.int o) := by rw [show (0 : Int) = ((0 : Nat) : Int) from rfl, at_nat, map_at, ho]; rfl
  obtain ⟨zs, ez, lz, _⟩ := names_ok c2 1 (by decide)
  rw [← e_names] at ez
  obtain ⟨t, rfl⟩ : ∃ t, zs = [t] := by
    match zs, lz with
    | [t], _ => exact ⟨t, rfl⟩
  simp at ez
  have r13 : rngD 0 13 = .ok ((List.range 13).map fun (k : Nat) => .int (k : Int)) := rng_nat (n := 13) (by decide)
  have dl := due_same
  have ll := limits_ok
  unfold dueD at dl ll
  obtain ⟨z, el⟩ := loop (some (.val (scr ns))) (some (.val dueD)) c0 (c0 + 1 + o) t
  unfold dueD fieldsD at el
  have c5 := caught_5 (c0 + 1 + o) c0 t
  have s5 := same_of (d := .tuple [.bool true, .tuple [.tuple [.int 5, .int (c0 + 1 + o), .int c0]]]) rfl
  simp [g_law, runF, b_law, dCall0, ll, dl, h0, h1, h2, ed, ao, ez, r13, el, c5, s5]
end K02

namespace K02
open PySem PySem.Spec PyProof.Rows L2 DL
/-! ### what the top has written -/
theorem all_mk {l : PySem.W.OpenLaw} {w : World} {K : PySem.W.Frag} {h : Heap} {mg : Str → Option Value} {fa f0 f1 f2 f3 f4 f5 f6 f7 f8 : Addr} (X : K.In h) (G : h.Ns mainGlobals mg) (hfa : mg "law" = some (.ref fa))
    {od0 an0 : Option Addr} {sl0 : Array (Option Value)} {oc0 kV0 dc0 pm0 cd0 ct0 : Value}
    {od1 an1 : Option Addr} {sl1 : Array (Option Value)} {oc1 kV1 dc1 pm1 cd1 ct1 : Value}
    {od2 an2 : Option Addr} {sl2 : Array (Option Value)} {oc2 kV2 dc2 pm2 cd2 ct2 : Value}
    {od3 an3 : Option Addr} {sl3 : Array (Option Value)} {oc3 kV3 dc3 pm3 cd3 ct3 : Value}
    {od4 an4 : Option Addr} {sl4 : Array (Option Value)} {oc4 kV4 dc4 pm4 cd4 ct4 : Value}
    {od5 an5 : Option Addr} {sl5 : Array (Option Value)} {oc5 kV5 dc5 pm5 cd5 ct5 : Value}
    {od6 an6 : Option Addr} {sl6 : Array (Option Value)} {oc6 kV6 dc6 pm6 cd6 ct6 : Value}
    {od7 an7 : Option Addr} {sl7 : Array (Option Value)} {oc7 kV7 dc7 pm7 cd7 ct7 : Value}
    {od8 an8 : Option Addr} {sl8 : Array (Option Value)} {oc8 kV8 dc8 pm8 cd8 ct8 : Value}
    {t_MOST_AMOUNT : Tok}
    {t_MOST_CARRIERS : Tok}
    {t_MOST_DEEDS : Tok}
    {t_MOST_DEPTH : Tok}
    {t_MOST_LEGS : Tok}
    {t_MOST_LINES : Tok}
    {t_MOST_LINE_STOPS : Tok}
    {t_MOST_MEMBERS : Tok}
    {t_MOST_NEEDS : Tok}
    {t_MOST_PRICE : Tok}
    {t_MOST_RIDES : Tok}
    {t_MOST_RING : Tok}
    {t_MOST_RUNS : Tok}
    {t_MOST_STEP : Tok}
    {t_MOST_STOPS : Tok}
    {t_MOST_TICKETS : Tok}
    {t_MOST_TIME : Tok}
    {t_MOST_WINDOWS : Tok}
    {C0 : Addr}
    {C1 : Addr}
    {C2 : Addr}
    {C3 : Addr}
    {C4 : Addr}
    {C5 : Addr}
    {C6 : Addr}
    {C7 : Addr}
    {C8 : Addr}
    {C9 : Addr}
    {C10 : Addr}
    {C11 : Addr}
    {C12 : Addr}
    {C13 : Addr}
    {I0 cc0 cda0 Nc0 : Addr} {nm0 q0 : Str} {bs0 bm0 sub0 : List Value} {sn0 : List Str} {ab0 : Bool} {col0 : Option Bool} {dd0 : Option Addr} {ka0 kb0 kc0 kd0 ke0 : Option Value}
    {io0 ik0 ix0 ip0 it0 if0 ig0 : Value} {id0 ia0 ih0 ii0 : Option Addr} {is0 ij0 il0 : Array (Option Value)} {vs0 : Array Value} {file0 : Str} {tf0 : Tok}
    {I1 cc1 cda1 Nc1 : Addr} {nm1 q1 : Str} {bs1 bm1 sub1 : List Value} {sn1 : List Str} {ab1 : Bool} {col1 : Option Bool} {dd1 : Option Addr} {ka1 kb1 kc1 kd1 ke1 : Option Value}
    {io1 ik1 ix1 ip1 it1 if1 ig1 : Value} {id1 ia1 ih1 ii1 : Option Addr} {is1 ij1 il1 : Array (Option Value)} {vs1 : Array Value} {file1 : Str} {tf1 : Tok}
    {I2 cc2 cda2 Nc2 : Addr} {nm2 q2 : Str} {bs2 bm2 sub2 : List Value} {sn2 : List Str} {ab2 : Bool} {col2 : Option Bool} {dd2 : Option Addr} {ka2 kb2 kc2 kd2 ke2 : Option Value}
    {io2 ik2 ix2 ip2 it2 if2 ig2 : Value} {id2 ia2 ih2 ii2 : Option Addr} {is2 ij2 il2 : Array (Option Value)} {vs2 : Array Value} {file2 : Str} {tf2 : Tok}
    {I3 cc3 cda3 Nc3 : Addr} {nm3 q3 : Str} {bs3 bm3 sub3 : List Value} {sn3 : List Str} {ab3 : Bool} {col3 : Option Bool} {dd3 : Option Addr} {ka3 kb3 kc3 kd3 ke3 : Option Value}
    {io3 ik3 ix3 ip3 it3 if3 ig3 : Value} {id3 ia3 ih3 ii3 : Option Addr} {is3 ij3 il3 : Array (Option Value)} {vs3 : Array Value} {file3 : Str} {tf3 : Tok}
    {I4 cc4 cda4 Nc4 : Addr} {nm4 q4 : Str} {bs4 bm4 sub4 : List Value} {sn4 : List Str} {ab4 : Bool} {col4 : Option Bool} {dd4 : Option Addr} {ka4 kb4 kc4 kd4 ke4 : Option Value}
    {io4 ik4 ix4 ip4 it4 if4 ig4 : Value} {id4 ia4 ih4 ii4 : Option Addr} {is4 ij4 il4 : Array (Option Value)} {vs4 : Array Value} {file4 : Str} {tf4 : Tok}
    {I5 cc5 cda5 Nc5 : Addr} {nm5 q5 : Str} {bs5 bm5 sub5 : List Value} {sn5 : List Str} {ab5 : Bool} {col5 : Option Bool} {dd5 : Option Addr} {ka5 kb5 kc5 kd5 ke5 : Option Value}
    {io5 ik5 ix5 ip5 it5 if5 ig5 : Value} {id5 ia5 ih5 ii5 : Option Addr} {is5 ij5 il5 : Array (Option Value)} {vs5 : Array Value} {file5 : Str} {tf5 : Tok}
    {I6 cc6 cda6 Nc6 : Addr} {nm6 q6 : Str} {bs6 bm6 sub6 : List Value} {sn6 : List Str} {ab6 : Bool} {col6 : Option Bool} {dd6 : Option Addr} {ka6 kb6 kc6 kd6 ke6 : Option Value}
    {io6 ik6 ix6 ip6 it6 if6 ig6 : Value} {id6 ia6 ih6 ii6 : Option Addr} {is6 ij6 il6 : Array (Option Value)} {vs6 : Array Value} {file6 : Str} {tf6 : Tok}
    {I7 cc7 cda7 Nc7 : Addr} {nm7 q7 : Str} {bs7 bm7 sub7 : List Value} {sn7 : List Str} {ab7 : Bool} {col7 : Option Bool} {dd7 : Option Addr} {ka7 kb7 kc7 kd7 ke7 : Option Value}
    {io7 ik7 ix7 ip7 it7 if7 ig7 : Value} {id7 ia7 ih7 ii7 : Option Addr} {is7 ij7 il7 : Array (Option Value)} {vs7 : Array Value} {file7 : Str} {tf7 : Tok}
    {I8 cc8 cda8 Nc8 : Addr} {nm8 q8 : Str} {bs8 bm8 sub8 : List Value} {sn8 : List Str} {ab8 : Bool} {col8 : Option Bool} {dd8 : Option Addr} {ka8 kb8 kc8 kd8 ke8 : Option Value}
    {io8 ik8 ix8 ip8 it8 if8 ig8 : Value} {id8 ia8 ih8 ii8 : Option Addr} {is8 ij8 il8 : Array (Option Value)} {vs8 : Array Value} {file8 : Str} {tf8 : Tok}
    {I9 cc9 cda9 Nc9 : Addr} {nm9 q9 : Str} {bs9 bm9 sub9 : List Value} {sn9 : List Str} {ab9 : Bool} {col9 : Option Bool} {dd9 : Option Addr} {ka9 kb9 kc9 kd9 ke9 : Option Value}
    {io9 ik9 ix9 ip9 it9 if9 ig9 : Value} {id9 ia9 ih9 ii9 : Option Addr} {is9 ij9 il9 : Array (Option Value)} {vs9 : Array Value} {file9 : Str} {tf9 : Tok}
    {I10 cc10 cda10 Nc10 : Addr} {nm10 q10 : Str} {bs10 bm10 sub10 : List Value} {sn10 : List Str} {ab10 : Bool} {col10 : Option Bool} {dd10 : Option Addr} {ka10 kb10 kc10 kd10 ke10 : Option Value}
    {io10 ik10 ix10 ip10 it10 if10 ig10 : Value} {id10 ia10 ih10 ii10 : Option Addr} {is10 ij10 il10 : Array (Option Value)} {vs10 : Array Value} {file10 : Str} {tf10 : Tok}
    {I11 cc11 cda11 Nc11 : Addr} {nm11 q11 : Str} {bs11 bm11 sub11 : List Value} {sn11 : List Str} {ab11 : Bool} {col11 : Option Bool} {dd11 : Option Addr} {ka11 kb11 kc11 kd11 ke11 : Option Value}
    {io11 ik11 ix11 ip11 it11 if11 ig11 : Value} {id11 ia11 ih11 ii11 : Option Addr} {is11 ij11 il11 : Array (Option Value)} {vs11 : Array Value} {file11 : Str} {tf11 : Tok}
    {I12 cc12 cda12 Nc12 : Addr} {nm12 q12 : Str} {bs12 bm12 sub12 : List Value} {sn12 : List Str} {ab12 : Bool} {col12 : Option Bool} {dd12 : Option Addr} {ka12 kb12 kc12 kd12 ke12 : Option Value}
    {io12 ik12 ix12 ip12 it12 if12 ig12 : Value} {id12 ia12 ih12 ii12 : Option Addr} {is12 ij12 il12 : Array (Option Value)} {vs12 : Array Value} {file12 : Str} {tf12 : Tok}
    (a0 : PySem.W.nsIn K mainGlobals "_law_cell" = some (some (.ref f0))) (l0 : K.lookup f0 = some ⟨oc0, od0, .func (PySem.W.fnOf "_law_cell" "_law_cell" (defArgs s__law_cell) (defBody s__law_cell) (defScope s__law_cell) .none kV0 dc0 pm0 an0 cd0 ct0), sl0⟩) (c0 : PySem.W.codeIn K cd0 "_law_cell" = true) (k0 : PySem.W.keepIn K (.ref f0) = true)
    (a1 : PySem.W.nsIn K mainGlobals "_law_draws" = some (some (.ref f1))) (l1 : K.lookup f1 = some ⟨oc1, od1, .func (PySem.W.fnOf "_law_draws" "_law_draws" (defArgs s__law_draws) (defBody s__law_draws) (defScope s__law_draws) .none kV1 dc1 pm1 an1 cd1 ct1), sl1⟩) (c1 : PySem.W.codeIn K cd1 "_law_draws" = true) (k1 : PySem.W.keepIn K (.ref f1) = true)
    (a2 : PySem.W.nsIn K mainGlobals "_law_error" = some (some (.ref f2))) (l2 : K.lookup f2 = some ⟨oc2, od2, .func (PySem.W.fnOf "_law_error" "_law_error" (defArgs s__law_error) (defBody s__law_error) (defScope s__law_error) .none kV2 dc2 pm2 an2 cd2 ct2), sl2⟩) (c2 : PySem.W.codeIn K cd2 "_law_error" = true) (k2 : PySem.W.keepIn K (.ref f2) = true)
    (a3 : PySem.W.nsIn K mainGlobals "_law_limits" = some (some (.ref f3))) (l3 : K.lookup f3 = some ⟨oc3, od3, .func (PySem.W.fnOf "_law_limits" "_law_limits" (defArgs s__law_limits) (defBody s__law_limits) (defScope s__law_limits) .none kV3 dc3 pm3 an3 cd3 ct3), sl3⟩) (c3 : PySem.W.codeIn K cd3 "_law_limits" = true) (k3 : PySem.W.keepIn K (.ref f3) = true)
    (a4 : PySem.W.nsIn K mainGlobals "_law_names" = some (some (.ref f4))) (l4 : K.lookup f4 = some ⟨oc4, od4, .func (PySem.W.fnOf "_law_names" "_law_names" (defArgs s__law_names) (defBody s__law_names) (defScope s__law_names) .none kV4 dc4 pm4 an4 cd4 ct4), sl4⟩) (c4 : PySem.W.codeIn K cd4 "_law_names" = true) (k4 : PySem.W.keepIn K (.ref f4) = true)
    (a5 : PySem.W.nsIn K mainGlobals "_law_raise" = some (some (.ref f5))) (l5 : K.lookup f5 = some ⟨oc5, od5, .func (PySem.W.fnOf "_law_raise" "_law_raise" (defArgs s__law_raise) (defBody s__law_raise) (defScope s__law_raise) .none kV5 dc5 pm5 an5 cd5 ct5), sl5⟩) (c5 : PySem.W.codeIn K cd5 "_law_raise" = true) (k5 : PySem.W.keepIn K (.ref f5) = true)
    (a6 : PySem.W.nsIn K mainGlobals "_law_caught" = some (some (.ref f6))) (l6 : K.lookup f6 = some ⟨oc6, od6, .func (PySem.W.fnOf "_law_caught" "_law_caught" (defArgs s__law_caught) (defBody s__law_caught) (defScope s__law_caught) .none kV6 dc6 pm6 an6 cd6 ct6), sl6⟩) (c6 : PySem.W.codeIn K cd6 "_law_caught" = true) (k6 : PySem.W.keepIn K (.ref f6) = true)
    (a7 : PySem.W.nsIn K mainGlobals "_law_same" = some (some (.ref f7))) (l7 : K.lookup f7 = some ⟨oc7, od7, .func (PySem.W.fnOf "_law_same" "_law_same" (defArgs s__law_same) (defBody s__law_same) (defScope s__law_same) .none kV7 dc7 pm7 an7 cd7 ct7), sl7⟩) (c7 : PySem.W.codeIn K cd7 "_law_same" = true) (k7 : PySem.W.keepIn K (.ref f7) = true)
    (a8 : PySem.W.nsIn K mainGlobals "law" = some (some (.ref f8))) (l8 : K.lookup f8 = some ⟨oc8, od8, .func (PySem.W.fnOf "law" "law" (defArgs s_law) (defBody s_law) (defScope s_law) .none kV8 dc8 pm8 an8 cd8 ct8), sl8⟩) (c8 : PySem.W.codeIn K cd8 "law" = true) (k8 : PySem.W.keepIn K (.ref f8) = true)
    (z_ValueError : PySem.W.nsIn K mainGlobals "ValueError" = some none)
    (z_bool : PySem.W.nsIn K mainGlobals "bool" = some none)
    (z_int : PySem.W.nsIn K mainGlobals "int" = some none)
    (z_isinstance : PySem.W.nsIn K mainGlobals "isinstance" = some none)
    (z_len : PySem.W.nsIn K mainGlobals "len" = some none)
    (z_range : PySem.W.nsIn K mainGlobals "range" = some none)
    (z_str : PySem.W.nsIn K mainGlobals "str" = some none)
    (z_tuple : PySem.W.nsIn K mainGlobals "tuple" = some none)
    (y_MOST_AMOUNT : PySem.W.nsIn K mainGlobals "MOST_AMOUNT" = some (some (.int 999999999 t_MOST_AMOUNT)))
    (y_MOST_CARRIERS : PySem.W.nsIn K mainGlobals "MOST_CARRIERS" = some (some (.int 5 t_MOST_CARRIERS)))
    (y_MOST_DEEDS : PySem.W.nsIn K mainGlobals "MOST_DEEDS" = some (some (.int 100 t_MOST_DEEDS)))
    (y_MOST_DEPTH : PySem.W.nsIn K mainGlobals "MOST_DEPTH" = some (some (.int 6 t_MOST_DEPTH)))
    (y_MOST_LEGS : PySem.W.nsIn K mainGlobals "MOST_LEGS" = some (some (.int 4 t_MOST_LEGS)))
    (y_MOST_LINES : PySem.W.nsIn K mainGlobals "MOST_LINES" = some (some (.int 16 t_MOST_LINES)))
    (y_MOST_LINE_STOPS : PySem.W.nsIn K mainGlobals "MOST_LINE_STOPS" = some (some (.int 12 t_MOST_LINE_STOPS)))
    (y_MOST_MEMBERS : PySem.W.nsIn K mainGlobals "MOST_MEMBERS" = some (some (.int 5 t_MOST_MEMBERS)))
    (y_MOST_NEEDS : PySem.W.nsIn K mainGlobals "MOST_NEEDS" = some (some (.int 240 t_MOST_NEEDS)))
    (y_MOST_PRICE : PySem.W.nsIn K mainGlobals "MOST_PRICE" = some (some (.int 999999 t_MOST_PRICE)))
    (y_MOST_RIDES : PySem.W.nsIn K mainGlobals "MOST_RIDES" = some (some (.int 60 t_MOST_RIDES)))
    (y_MOST_RING : PySem.W.nsIn K mainGlobals "MOST_RING" = some (some (.int 6 t_MOST_RING)))
    (y_MOST_RUNS : PySem.W.nsIn K mainGlobals "MOST_RUNS" = some (some (.int 30 t_MOST_RUNS)))
    (y_MOST_STEP : PySem.W.nsIn K mainGlobals "MOST_STEP" = some (some (.int 999 t_MOST_STEP)))
    (y_MOST_STOPS : PySem.W.nsIn K mainGlobals "MOST_STOPS" = some (some (.int 30 t_MOST_STOPS)))
    (y_MOST_TICKETS : PySem.W.nsIn K mainGlobals "MOST_TICKETS" = some (some (.int 36 t_MOST_TICKETS)))
    (y_MOST_TIME : PySem.W.nsIn K mainGlobals "MOST_TIME" = some (some (.int 9999 t_MOST_TIME)))
    (y_MOST_WINDOWS : PySem.W.nsIn K mainGlobals "MOST_WINDOWS" = some (some (.int 40 t_MOST_WINDOWS)))
    (zz_super : PySem.W.nsIn K mainGlobals "super" = some none)
    (zz_noc : PySem.W.nsIn K cStatics "thirdparty.any" = some none)
    (zz_top : (l.prog.main.scope.names.lookup ("super" : Str)).isSome = false)
    (zz_sp : PySem.W.specialIn K (.builtin "object.__class__") "__get__" = some (some (.builtin "getset_descriptor.__get__")))
    (zz_tk : PySem.W.takesIn K (.builtin "object.__class__") = some true)
    (ca0 : PySem.W.nsIn K mainGlobals "BadNeed" = some (some (.ref C0)))
    (ca1 : PySem.W.nsIn K mainGlobals "BadRide" = some (some (.ref C1)))
    (ca2 : PySem.W.nsIn K mainGlobals "BadRow" = some (some (.ref C2)))
    (ca3 : PySem.W.nsIn K mainGlobals "BadSplit" = some (some (.ref C3)))
    (ca4 : PySem.W.nsIn K mainGlobals "Clash" = some (some (.ref C4)))
    (ca5 : PySem.W.nsIn K mainGlobals "NoDeed" = some (some (.ref C5)))
    (ca6 : PySem.W.nsIn K mainGlobals "NoRide" = some (some (.ref C6)))
    (ca7 : PySem.W.nsIn K mainGlobals "NoTicket" = some (some (.ref C7)))
    (ca8 : PySem.W.nsIn K mainGlobals "NotTold" = some (some (.ref C8)))
    (ca9 : PySem.W.nsIn K mainGlobals "OtherWindows" = some (some (.ref C9)))
    (ca10 : PySem.W.nsIn K mainGlobals "OutOfOrder" = some (some (.ref C10)))
    (ca11 : PySem.W.nsIn K mainGlobals "TooMany" = some (some (.ref C11)))
    (ca12 : PySem.W.nsIn K mainGlobals "TwiceTold" = some (some (.ref C12)))
    (ca13 : PySem.W.nsIn K mainGlobals "FareError" = some (some (.ref C13)))
    (cx0 : excAt K "BadNeed" = some C0)
    (cl0 : K.lookup C0 = some (excClassObj nm0 q0 C0 Nc0 bs0 bm0 true sn0 sub0 ab0 col0 dd0 ka0 kb0 kc0 kd0 ke0 "ValueError.__new__"))
    (cr0 : PySem.HandSPX.refsVE bm0 = true)
    (cs0 : PySem.W.findIn K (.ref C0) "__setattr__" = some (some (.builtin "object.__setattr__")))
    (cb0 : PySem.W.subIn K (.ref C0) (.type "BaseException") = some true)
    (cT0 : PySem.W.typeIn K (.ref C0) = some (.type "type"))
    (ck0 : PySem.W.keepIn K (.ref C0) = true)
    (ci0 : PySem.W.findIn K (.ref C0) "__init__" = some (some (.ref I0)))
    (cj0 : PySem.W.typeIn K (.ref I0) = some (.type "function"))
    (cm0 : K.lookup I0 = some ⟨io0, id0, .func (PySem.W.fnX "__init__" "BadNeed.__init__" (defArgs s_i_BadNeed) (defBody s_i_BadNeed) (defScope s_i_BadNeed) [(("__class__" : Str), cc0)] .none ik0 ix0 ip0 ia0 (.ref cda0) it0), is0⟩)
    (cn0 : PySem.W.codeIn K (.ref cda0) "BadNeed.__init__" = true)
    (co0 : K.lookup cda0 = some ⟨if0, ih0, .fields vs0, ij0⟩)
    (cp0 : vs0[2]? = some (.str file0 tf0))
    (cq0 : ((l.prog.main.file : Str) == file0) = true)
    (cv0 : K.lookup cc0 = some ⟨ig0, ii0, .cell (some (.ref C0)), il0⟩)
    (cw0 : PySem.W.ks_superIn K C0 C0 "__init__" = some (some (.builtin "ValueError.__init__")))
    (cy0 : PySem.W.mroIn K C0 (.ref C0) = some true)
    (cz0 : PySem.W.subIn K (.ref C0) (.type "ValueError") = some true)
    (cf0_need : PySem.W.findIn K (.ref C0) "need" = some none)
    (cf0_row : PySem.W.findIn K (.ref C0) "row" = some none)
    (cf0_leg : PySem.W.findIn K (.ref C0) "leg" = some none)
    (cf0_first : PySem.W.findIn K (.ref C0) "first" = some none)
    (cf0_second : PySem.W.findIn K (.ref C0) "second" = some none)
    (cf0_number : PySem.W.findIn K (.ref C0) "number" = some none)
    (cf0_ride : PySem.W.findIn K (.ref C0) "ride" = some none)
    (cf0_word : PySem.W.findIn K (.ref C0) "word" = some none)
    (cf0_limit : PySem.W.findIn K (.ref C0) "limit" = some none)
    (ei0 : (PySem.W.clsIn K C0).isSome = true)
    (eg0 : PySem.W.findIn K (.ref C0) "__getattribute__" = some (some (.builtin "BaseException.__getattribute__")))
    (ek0 : PySem.W.findIn K (.ref C0) "__getattr__" = some none)
    (eh0 : PySem.W.hasDictIn K C0 = true)
    (ec0 : PySem.W.findIn K (.ref C0) "__class__" = some (some (.builtin "object.__class__")))
    (eo0 : PySem.W.mroIn K C0 (.type "object") = some true)
    (pq0_BadRow : PySem.W.kitOne K (.ref C0) (.ref C2) = some false)
    (pq0_OutOfOrder : PySem.W.kitOne K (.ref C0) (.ref C10) = some false)
    (pq0_TwiceTold : PySem.W.kitOne K (.ref C0) (.ref C12) = some false)
    (pq0_NotTold : PySem.W.kitOne K (.ref C0) (.ref C8) = some false)
    (pq0_TooMany : PySem.W.kitOne K (.ref C0) (.ref C11) = some false)
    (pq0_Clash : PySem.W.kitOne K (.ref C0) (.ref C4) = some false)
    (pq0_BadRide : PySem.W.kitOne K (.ref C0) (.ref C1) = some false)
    (pq0_BadNeed : PySem.W.kitOne K (.ref C0) (.ref C0) = some true)
    (pq0_NoTicket : PySem.W.kitOne K (.ref C0) (.ref C7) = some false)
    (pq0_NoRide : PySem.W.kitOne K (.ref C0) (.ref C6) = some false)
    (pq0_NoDeed : PySem.W.kitOne K (.ref C0) (.ref C5) = some false)
    (pq0_OtherWindows : PySem.W.kitOne K (.ref C0) (.ref C9) = some false)
    (pq0_BadSplit : PySem.W.kitOne K (.ref C0) (.ref C3) = some false)
    (pq0_ValueError : PySem.W.kitOne K (.ref C0) (.type "ValueError") = some true)
    (pw0_FareError : PySem.W.exmOne K (.ref C0) (.ref C13) = some true)
    (cx1 : excAt K "BadRide" = some C1)
    (cl1 : K.lookup C1 = some (excClassObj nm1 q1 C1 Nc1 bs1 bm1 true sn1 sub1 ab1 col1 dd1 ka1 kb1 kc1 kd1 ke1 "ValueError.__new__"))
    (cr1 : PySem.HandSPX.refsVE bm1 = true)
    (cs1 : PySem.W.findIn K (.ref C1) "__setattr__" = some (some (.builtin "object.__setattr__")))
    (cb1 : PySem.W.subIn K (.ref C1) (.type "BaseException") = some true)
    (cT1 : PySem.W.typeIn K (.ref C1) = some (.type "type"))
    (ck1 : PySem.W.keepIn K (.ref C1) = true)
    (ci1 : PySem.W.findIn K (.ref C1) "__init__" = some (some (.ref I1)))
    (cj1 : PySem.W.typeIn K (.ref I1) = some (.type "function"))
    (cm1 : K.lookup I1 = some ⟨io1, id1, .func (PySem.W.fnX "__init__" "BadRide.__init__" (defArgs s_i_BadRide) (defBody s_i_BadRide) (defScope s_i_BadRide) [(("__class__" : Str), cc1)] .none ik1 ix1 ip1 ia1 (.ref cda1) it1), is1⟩)
    (cn1 : PySem.W.codeIn K (.ref cda1) "BadRide.__init__" = true)
    (co1 : K.lookup cda1 = some ⟨if1, ih1, .fields vs1, ij1⟩)
    (cp1 : vs1[2]? = some (.str file1 tf1))
    (cq1 : ((l.prog.main.file : Str) == file1) = true)
    (cv1 : K.lookup cc1 = some ⟨ig1, ii1, .cell (some (.ref C1)), il1⟩)
    (cw1 : PySem.W.ks_superIn K C1 C1 "__init__" = some (some (.builtin "ValueError.__init__")))
    (cy1 : PySem.W.mroIn K C1 (.ref C1) = some true)
    (cz1 : PySem.W.subIn K (.ref C1) (.type "ValueError") = some true)
    (cf1_need : PySem.W.findIn K (.ref C1) "need" = some none)
    (cf1_row : PySem.W.findIn K (.ref C1) "row" = some none)
    (cf1_leg : PySem.W.findIn K (.ref C1) "leg" = some none)
    (cf1_first : PySem.W.findIn K (.ref C1) "first" = some none)
    (cf1_second : PySem.W.findIn K (.ref C1) "second" = some none)
    (cf1_number : PySem.W.findIn K (.ref C1) "number" = some none)
    (cf1_ride : PySem.W.findIn K (.ref C1) "ride" = some none)
    (cf1_word : PySem.W.findIn K (.ref C1) "word" = some none)
    (cf1_limit : PySem.W.findIn K (.ref C1) "limit" = some none)
    (ei1 : (PySem.W.clsIn K C1).isSome = true)
    (eg1 : PySem.W.findIn K (.ref C1) "__getattribute__" = some (some (.builtin "BaseException.__getattribute__")))
    (ek1 : PySem.W.findIn K (.ref C1) "__getattr__" = some none)
    (eh1 : PySem.W.hasDictIn K C1 = true)
    (ec1 : PySem.W.findIn K (.ref C1) "__class__" = some (some (.builtin "object.__class__")))
    (eo1 : PySem.W.mroIn K C1 (.type "object") = some true)
    (pq1_BadRow : PySem.W.kitOne K (.ref C1) (.ref C2) = some false)
    (pq1_OutOfOrder : PySem.W.kitOne K (.ref C1) (.ref C10) = some false)
    (pq1_TwiceTold : PySem.W.kitOne K (.ref C1) (.ref C12) = some false)
    (pq1_NotTold : PySem.W.kitOne K (.ref C1) (.ref C8) = some false)
    (pq1_TooMany : PySem.W.kitOne K (.ref C1) (.ref C11) = some false)
    (pq1_Clash : PySem.W.kitOne K (.ref C1) (.ref C4) = some false)
    (pq1_BadRide : PySem.W.kitOne K (.ref C1) (.ref C1) = some true)
    (pq1_BadNeed : PySem.W.kitOne K (.ref C1) (.ref C0) = some false)
    (pq1_NoTicket : PySem.W.kitOne K (.ref C1) (.ref C7) = some false)
    (pq1_NoRide : PySem.W.kitOne K (.ref C1) (.ref C6) = some false)
    (pq1_NoDeed : PySem.W.kitOne K (.ref C1) (.ref C5) = some false)
    (pq1_OtherWindows : PySem.W.kitOne K (.ref C1) (.ref C9) = some false)
    (pq1_BadSplit : PySem.W.kitOne K (.ref C1) (.ref C3) = some false)
    (pq1_ValueError : PySem.W.kitOne K (.ref C1) (.type "ValueError") = some true)
    (pw1_FareError : PySem.W.exmOne K (.ref C1) (.ref C13) = some true)
    (cx2 : excAt K "BadRow" = some C2)
    (cl2 : K.lookup C2 = some (excClassObj nm2 q2 C2 Nc2 bs2 bm2 true sn2 sub2 ab2 col2 dd2 ka2 kb2 kc2 kd2 ke2 "ValueError.__new__"))
    (cr2 : PySem.HandSPX.refsVE bm2 = true)
    (cs2 : PySem.W.findIn K (.ref C2) "__setattr__" = some (some (.builtin "object.__setattr__")))
    (cb2 : PySem.W.subIn K (.ref C2) (.type "BaseException") = some true)
    (cT2 : PySem.W.typeIn K (.ref C2) = some (.type "type"))
    (ck2 : PySem.W.keepIn K (.ref C2) = true)
    (ci2 : PySem.W.findIn K (.ref C2) "__init__" = some (some (.ref I2)))
    (cj2 : PySem.W.typeIn K (.ref I2) = some (.type "function"))
    (cm2 : K.lookup I2 = some ⟨io2, id2, .func (PySem.W.fnX "__init__" "BadRow.__init__" (defArgs s_i_BadRow) (defBody s_i_BadRow) (defScope s_i_BadRow) [(("__class__" : Str), cc2)] .none ik2 ix2 ip2 ia2 (.ref cda2) it2), is2⟩)
    (cn2 : PySem.W.codeIn K (.ref cda2) "BadRow.__init__" = true)
    (co2 : K.lookup cda2 = some ⟨if2, ih2, .fields vs2, ij2⟩)
    (cp2 : vs2[2]? = some (.str file2 tf2))
    (cq2 : ((l.prog.main.file : Str) == file2) = true)
    (cv2 : K.lookup cc2 = some ⟨ig2, ii2, .cell (some (.ref C2)), il2⟩)
    (cw2 : PySem.W.ks_superIn K C2 C2 "__init__" = some (some (.builtin "ValueError.__init__")))
    (cy2 : PySem.W.mroIn K C2 (.ref C2) = some true)
    (cz2 : PySem.W.subIn K (.ref C2) (.type "ValueError") = some true)
    (cf2_need : PySem.W.findIn K (.ref C2) "need" = some none)
    (cf2_row : PySem.W.findIn K (.ref C2) "row" = some none)
    (cf2_leg : PySem.W.findIn K (.ref C2) "leg" = some none)
    (cf2_first : PySem.W.findIn K (.ref C2) "first" = some none)
    (cf2_second : PySem.W.findIn K (.ref C2) "second" = some none)
    (cf2_number : PySem.W.findIn K (.ref C2) "number" = some none)
    (cf2_ride : PySem.W.findIn K (.ref C2) "ride" = some none)
    (cf2_word : PySem.W.findIn K (.ref C2) "word" = some none)
    (cf2_limit : PySem.W.findIn K (.ref C2) "limit" = some none)
    (ei2 : (PySem.W.clsIn K C2).isSome = true)
    (eg2 : PySem.W.findIn K (.ref C2) "__getattribute__" = some (some (.builtin "BaseException.__getattribute__")))
    (ek2 : PySem.W.findIn K (.ref C2) "__getattr__" = some none)
    (eh2 : PySem.W.hasDictIn K C2 = true)
    (ec2 : PySem.W.findIn K (.ref C2) "__class__" = some (some (.builtin "object.__class__")))
    (eo2 : PySem.W.mroIn K C2 (.type "object") = some true)
    (pq2_BadRow : PySem.W.kitOne K (.ref C2) (.ref C2) = some true)
    (pq2_OutOfOrder : PySem.W.kitOne K (.ref C2) (.ref C10) = some false)
    (pq2_TwiceTold : PySem.W.kitOne K (.ref C2) (.ref C12) = some false)
    (pq2_NotTold : PySem.W.kitOne K (.ref C2) (.ref C8) = some false)
    (pq2_TooMany : PySem.W.kitOne K (.ref C2) (.ref C11) = some false)
    (pq2_Clash : PySem.W.kitOne K (.ref C2) (.ref C4) = some false)
    (pq2_BadRide : PySem.W.kitOne K (.ref C2) (.ref C1) = some false)
    (pq2_BadNeed : PySem.W.kitOne K (.ref C2) (.ref C0) = some false)
    (pq2_NoTicket : PySem.W.kitOne K (.ref C2) (.ref C7) = some false)
    (pq2_NoRide : PySem.W.kitOne K (.ref C2) (.ref C6) = some false)
    (pq2_NoDeed : PySem.W.kitOne K (.ref C2) (.ref C5) = some false)
    (pq2_OtherWindows : PySem.W.kitOne K (.ref C2) (.ref C9) = some false)
    (pq2_BadSplit : PySem.W.kitOne K (.ref C2) (.ref C3) = some false)
    (pq2_ValueError : PySem.W.kitOne K (.ref C2) (.type "ValueError") = some true)
    (pw2_FareError : PySem.W.exmOne K (.ref C2) (.ref C13) = some true)
    (cx3 : excAt K "BadSplit" = some C3)
    (cl3 : K.lookup C3 = some (excClassObj nm3 q3 C3 Nc3 bs3 bm3 true sn3 sub3 ab3 col3 dd3 ka3 kb3 kc3 kd3 ke3 "ValueError.__new__"))
    (cr3 : PySem.HandSPX.refsVE bm3 = true)
    (cs3 : PySem.W.findIn K (.ref C3) "__setattr__" = some (some (.builtin "object.__setattr__")))
    (cb3 : PySem.W.subIn K (.ref C3) (.type "BaseException") = some true)
    (cT3 : PySem.W.typeIn K (.ref C3) = some (.type "type"))
    (ck3 : PySem.W.keepIn K (.ref C3) = true)
    (ci3 : PySem.W.findIn K (.ref C3) "__init__" = some (some (.ref I3)))
    (cj3 : PySem.W.typeIn K (.ref I3) = some (.type "function"))
    (cm3 : K.lookup I3 = some ⟨io3, id3, .func (PySem.W.fnX "__init__" "BadSplit.__init__" (defArgs s_i_BadSplit) (defBody s_i_BadSplit) (defScope s_i_BadSplit) [(("__class__" : Str), cc3)] .none ik3 ix3 ip3 ia3 (.ref cda3) it3), is3⟩)
    (cn3 : PySem.W.codeIn K (.ref cda3) "BadSplit.__init__" = true)
    (co3 : K.lookup cda3 = some ⟨if3, ih3, .fields vs3, ij3⟩)
    (cp3 : vs3[2]? = some (.str file3 tf3))
    (cq3 : ((l.prog.main.file : Str) == file3) = true)
    (cv3 : K.lookup cc3 = some ⟨ig3, ii3, .cell (some (.ref C3)), il3⟩)
    (cw3 : PySem.W.ks_superIn K C3 C3 "__init__" = some (some (.builtin "ValueError.__init__")))
    (cy3 : PySem.W.mroIn K C3 (.ref C3) = some true)
    (cz3 : PySem.W.subIn K (.ref C3) (.type "ValueError") = some true)
    (cf3_need : PySem.W.findIn K (.ref C3) "need" = some none)
    (cf3_row : PySem.W.findIn K (.ref C3) "row" = some none)
    (cf3_leg : PySem.W.findIn K (.ref C3) "leg" = some none)
    (cf3_first : PySem.W.findIn K (.ref C3) "first" = some none)
    (cf3_second : PySem.W.findIn K (.ref C3) "second" = some none)
    (cf3_number : PySem.W.findIn K (.ref C3) "number" = some none)
    (cf3_ride : PySem.W.findIn K (.ref C3) "ride" = some none)
    (cf3_word : PySem.W.findIn K (.ref C3) "word" = some none)
    (cf3_limit : PySem.W.findIn K (.ref C3) "limit" = some none)
    (ei3 : (PySem.W.clsIn K C3).isSome = true)
    (eg3 : PySem.W.findIn K (.ref C3) "__getattribute__" = some (some (.builtin "BaseException.__getattribute__")))
    (ek3 : PySem.W.findIn K (.ref C3) "__getattr__" = some none)
    (eh3 : PySem.W.hasDictIn K C3 = true)
    (ec3 : PySem.W.findIn K (.ref C3) "__class__" = some (some (.builtin "object.__class__")))
    (eo3 : PySem.W.mroIn K C3 (.type "object") = some true)
    (pq3_BadRow : PySem.W.kitOne K (.ref C3) (.ref C2) = some false)
    (pq3_OutOfOrder : PySem.W.kitOne K (.ref C3) (.ref C10) = some false)
    (pq3_TwiceTold : PySem.W.kitOne K (.ref C3) (.ref C12) = some false)
    (pq3_NotTold : PySem.W.kitOne K (.ref C3) (.ref C8) = some false)
    (pq3_TooMany : PySem.W.kitOne K (.ref C3) (.ref C11) = some false)
    (pq3_Clash : PySem.W.kitOne K (.ref C3) (.ref C4) = some false)
    (pq3_BadRide : PySem.W.kitOne K (.ref C3) (.ref C1) = some false)
    (pq3_BadNeed : PySem.W.kitOne K (.ref C3) (.ref C0) = some false)
    (pq3_NoTicket : PySem.W.kitOne K (.ref C3) (.ref C7) = some false)
    (pq3_NoRide : PySem.W.kitOne K (.ref C3) (.ref C6) = some false)
    (pq3_NoDeed : PySem.W.kitOne K (.ref C3) (.ref C5) = some false)
    (pq3_OtherWindows : PySem.W.kitOne K (.ref C3) (.ref C9) = some false)
    (pq3_BadSplit : PySem.W.kitOne K (.ref C3) (.ref C3) = some true)
    (pq3_ValueError : PySem.W.kitOne K (.ref C3) (.type "ValueError") = some true)
    (pw3_FareError : PySem.W.exmOne K (.ref C3) (.ref C13) = some true)
    (cx4 : excAt K "Clash" = some C4)
    (cl4 : K.lookup C4 = some (excClassObj nm4 q4 C4 Nc4 bs4 bm4 true sn4 sub4 ab4 col4 dd4 ka4 kb4 kc4 kd4 ke4 "ValueError.__new__"))
    (cr4 : PySem.HandSPX.refsVE bm4 = true)
    (cs4 : PySem.W.findIn K (.ref C4) "__setattr__" = some (some (.builtin "object.__setattr__")))
    (cb4 : PySem.W.subIn K (.ref C4) (.type "BaseException") = some true)
    (cT4 : PySem.W.typeIn K (.ref C4) = some (.type "type"))
    (ck4 : PySem.W.keepIn K (.ref C4) = true)
    (ci4 : PySem.W.findIn K (.ref C4) "__init__" = some (some (.ref I4)))
    (cj4 : PySem.W.typeIn K (.ref I4) = some (.type "function"))
    (cm4 : K.lookup I4 = some ⟨io4, id4, .func (PySem.W.fnX "__init__" "Clash.__init__" (defArgs s_i_Clash) (defBody s_i_Clash) (defScope s_i_Clash) [(("__class__" : Str), cc4)] .none ik4 ix4 ip4 ia4 (.ref cda4) it4), is4⟩)
    (cn4 : PySem.W.codeIn K (.ref cda4) "Clash.__init__" = true)
    (co4 : K.lookup cda4 = some ⟨if4, ih4, .fields vs4, ij4⟩)
    (cp4 : vs4[2]? = some (.str file4 tf4))
    (cq4 : ((l.prog.main.file : Str) == file4) = true)
    (cv4 : K.lookup cc4 = some ⟨ig4, ii4, .cell (some (.ref C4)), il4⟩)
    (cw4 : PySem.W.ks_superIn K C4 C4 "__init__" = some (some (.builtin "ValueError.__init__")))
    (cy4 : PySem.W.mroIn K C4 (.ref C4) = some true)
    (cz4 : PySem.W.subIn K (.ref C4) (.type "ValueError") = some true)
    (cf4_need : PySem.W.findIn K (.ref C4) "need" = some none)
    (cf4_row : PySem.W.findIn K (.ref C4) "row" = some none)
    (cf4_leg : PySem.W.findIn K (.ref C4) "leg" = some none)
    (cf4_first : PySem.W.findIn K (.ref C4) "first" = some none)
    (cf4_second : PySem.W.findIn K (.ref C4) "second" = some none)
    (cf4_number : PySem.W.findIn K (.ref C4) "number" = some none)
    (cf4_ride : PySem.W.findIn K (.ref C4) "ride" = some none)
    (cf4_word : PySem.W.findIn K (.ref C4) "word" = some none)
    (cf4_limit : PySem.W.findIn K (.ref C4) "limit" = some none)
    (ei4 : (PySem.W.clsIn K C4).isSome = true)
    (eg4 : PySem.W.findIn K (.ref C4) "__getattribute__" = some (some (.builtin "BaseException.__getattribute__")))
    (ek4 : PySem.W.findIn K (.ref C4) "__getattr__" = some none)
    (eh4 : PySem.W.hasDictIn K C4 = true)
    (ec4 : PySem.W.findIn K (.ref C4) "__class__" = some (some (.builtin "object.__class__")))
    (eo4 : PySem.W.mroIn K C4 (.type "object") = some true)
    (pq4_BadRow : PySem.W.kitOne K (.ref C4) (.ref C2) = some false)
    (pq4_OutOfOrder : PySem.W.kitOne K (.ref C4) (.ref C10) = some false)
    (pq4_TwiceTold : PySem.W.kitOne K (.ref C4) (.ref C12) = some false)
    (pq4_NotTold : PySem.W.kitOne K (.ref C4) (.ref C8) = some false)
    (pq4_TooMany : PySem.W.kitOne K (.ref C4) (.ref C11) = some false)
    (pq4_Clash : PySem.W.kitOne K (.ref C4) (.ref C4) = some true)
    (pq4_BadRide : PySem.W.kitOne K (.ref C4) (.ref C1) = some false)
    (pq4_BadNeed : PySem.W.kitOne K (.ref C4) (.ref C0) = some false)
    (pq4_NoTicket : PySem.W.kitOne K (.ref C4) (.ref C7) = some false)
    (pq4_NoRide : PySem.W.kitOne K (.ref C4) (.ref C6) = some false)
    (pq4_NoDeed : PySem.W.kitOne K (.ref C4) (.ref C5) = some false)
    (pq4_OtherWindows : PySem.W.kitOne K (.ref C4) (.ref C9) = some false)
    (pq4_BadSplit : PySem.W.kitOne K (.ref C4) (.ref C3) = some false)
    (pq4_ValueError : PySem.W.kitOne K (.ref C4) (.type "ValueError") = some true)
    (pw4_FareError : PySem.W.exmOne K (.ref C4) (.ref C13) = some true)
    (cx5 : excAt K "NoDeed" = some C5)
    (cl5 : K.lookup C5 = some (excClassObj nm5 q5 C5 Nc5 bs5 bm5 true sn5 sub5 ab5 col5 dd5 ka5 kb5 kc5 kd5 ke5 "ValueError.__new__"))
    (cr5 : PySem.HandSPX.refsVE bm5 = true)
    (cs5 : PySem.W.findIn K (.ref C5) "__setattr__" = some (some (.builtin "object.__setattr__")))
    (cb5 : PySem.W.subIn K (.ref C5) (.type "BaseException") = some true)
    (cT5 : PySem.W.typeIn K (.ref C5) = some (.type "type"))
    (ck5 : PySem.W.keepIn K (.ref C5) = true)
    (ci5 : PySem.W.findIn K (.ref C5) "__init__" = some (some (.ref I5)))
    (cj5 : PySem.W.typeIn K (.ref I5) = some (.type "function"))
    (cm5 : K.lookup I5 = some ⟨io5, id5, .func (PySem.W.fnX "__init__" "NoDeed.__init__" (defArgs s_i_NoDeed) (defBody s_i_NoDeed) (defScope s_i_NoDeed) [(("__class__" : Str), cc5)] .none ik5 ix5 ip5 ia5 (.ref cda5) it5), is5⟩)
    (cn5 : PySem.W.codeIn K (.ref cda5) "NoDeed.__init__" = true)
    (co5 : K.lookup cda5 = some ⟨if5, ih5, .fields vs5, ij5⟩)
    (cp5 : vs5[2]? = some (.str file5 tf5))
    (cq5 : ((l.prog.main.file : Str) == file5) = true)
    (cv5 : K.lookup cc5 = some ⟨ig5, ii5, .cell (some (.ref C5)), il5⟩)
    (cw5 : PySem.W.ks_superIn K C5 C5 "__init__" = some (some (.builtin "ValueError.__init__")))
    (cy5 : PySem.W.mroIn K C5 (.ref C5) = some true)
    (cz5 : PySem.W.subIn K (.ref C5) (.type "ValueError") = some true)
    (cf5_need : PySem.W.findIn K (.ref C5) "need" = some none)
    (cf5_row : PySem.W.findIn K (.ref C5) "row" = some none)
    (cf5_leg : PySem.W.findIn K (.ref C5) "leg" = some none)
    (cf5_first : PySem.W.findIn K (.ref C5) "first" = some none)
    (cf5_second : PySem.W.findIn K (.ref C5) "second" = some none)
    (cf5_number : PySem.W.findIn K (.ref C5) "number" = some none)
    (cf5_ride : PySem.W.findIn K (.ref C5) "ride" = some none)
    (cf5_word : PySem.W.findIn K (.ref C5) "word" = some none)
    (cf5_limit : PySem.W.findIn K (.ref C5) "limit" = some none)
    (ei5 : (PySem.W.clsIn K C5).isSome = true)
    (eg5 : PySem.W.findIn K (.ref C5) "__getattribute__" = some (some (.builtin "BaseException.__getattribute__")))
    (ek5 : PySem.W.findIn K (.ref C5) "__getattr__" = some none)
    (eh5 : PySem.W.hasDictIn K C5 = true)
    (ec5 : PySem.W.findIn K (.ref C5) "__class__" = some (some (.builtin "object.__class__")))
    (eo5 : PySem.W.mroIn K C5 (.type "object") = some true)
    (pq5_BadRow : PySem.W.kitOne K (.ref C5) (.ref C2) = some false)
    (pq5_OutOfOrder : PySem.W.kitOne K (.ref C5) (.ref C10) = some false)
    (pq5_TwiceTold : PySem.W.kitOne K (.ref C5) (.ref C12) = some false)
    (pq5_NotTold : PySem.W.kitOne K (.ref C5) (.ref C8) = some false)
    (pq5_TooMany : PySem.W.kitOne K (.ref C5) (.ref C11) = some false)
    (pq5_Clash : PySem.W.kitOne K (.ref C5) (.ref C4) = some false)
    (pq5_BadRide : PySem.W.kitOne K (.ref C5) (.ref C1) = some false)
    (pq5_BadNeed : PySem.W.kitOne K (.ref C5) (.ref C0) = some false)
    (pq5_NoTicket : PySem.W.kitOne K (.ref C5) (.ref C7) = some false)
    (pq5_NoRide : PySem.W.kitOne K (.ref C5) (.ref C6) = some false)
    (pq5_NoDeed : PySem.W.kitOne K (.ref C5) (.ref C5) = some true)
    (pq5_OtherWindows : PySem.W.kitOne K (.ref C5) (.ref C9) = some false)
    (pq5_BadSplit : PySem.W.kitOne K (.ref C5) (.ref C3) = some false)
    (pq5_ValueError : PySem.W.kitOne K (.ref C5) (.type "ValueError") = some true)
    (pw5_FareError : PySem.W.exmOne K (.ref C5) (.ref C13) = some true)
    (cx6 : excAt K "NoRide" = some C6)
    (cl6 : K.lookup C6 = some (excClassObj nm6 q6 C6 Nc6 bs6 bm6 true sn6 sub6 ab6 col6 dd6 ka6 kb6 kc6 kd6 ke6 "ValueError.__new__"))
    (cr6 : PySem.HandSPX.refsVE bm6 = true)
    (cs6 : PySem.W.findIn K (.ref C6) "__setattr__" = some (some (.builtin "object.__setattr__")))
    (cb6 : PySem.W.subIn K (.ref C6) (.type "BaseException") = some true)
    (cT6 : PySem.W.typeIn K (.ref C6) = some (.type "type"))
    (ck6 : PySem.W.keepIn K (.ref C6) = true)
    (ci6 : PySem.W.findIn K (.ref C6) "__init__" = some (some (.ref I6)))
    (cj6 : PySem.W.typeIn K (.ref I6) = some (.type "function"))
    (cm6 : K.lookup I6 = some ⟨io6, id6, .func (PySem.W.fnX "__init__" "NoRide.__init__" (defArgs s_i_NoRide) (defBody s_i_NoRide) (defScope s_i_NoRide) [(("__class__" : Str), cc6)] .none ik6 ix6 ip6 ia6 (.ref cda6) it6), is6⟩)
    (cn6 : PySem.W.codeIn K (.ref cda6) "NoRide.__init__" = true)
    (co6 : K.lookup cda6 = some ⟨if6, ih6, .fields vs6, ij6⟩)
    (cp6 : vs6[2]? = some (.str file6 tf6))
    (cq6 : ((l.prog.main.file : Str) == file6) = true)
    (cv6 : K.lookup cc6 = some ⟨ig6, ii6, .cell (some (.ref C6)), il6⟩)
    (cw6 : PySem.W.ks_superIn K C6 C6 "__init__" = some (some (.builtin "ValueError.__init__")))
    (cy6 : PySem.W.mroIn K C6 (.ref C6) = some true)
    (cz6 : PySem.W.subIn K (.ref C6) (.type "ValueError") = some true)
    (cf6_need : PySem.W.findIn K (.ref C6) "need" = some none)
    (cf6_row : PySem.W.findIn K (.ref C6) "row" = some none)
    (cf6_leg : PySem.W.findIn K (.ref C6) "leg" = some none)
    (cf6_first : PySem.W.findIn K (.ref C6) "first" = some none)
    (cf6_second : PySem.W.findIn K (.ref C6) "second" = some none)
    (cf6_number : PySem.W.findIn K (.ref C6) "number" = some none)
    (cf6_ride : PySem.W.findIn K (.ref C6) "ride" = some none)
    (cf6_word : PySem.W.findIn K (.ref C6) "word" = some none)
    (cf6_limit : PySem.W.findIn K (.ref C6) "limit" = some none)
    (ei6 : (PySem.W.clsIn K C6).isSome = true)
    (eg6 : PySem.W.findIn K (.ref C6) "__getattribute__" = some (some (.builtin "BaseException.__getattribute__")))
    (ek6 : PySem.W.findIn K (.ref C6) "__getattr__" = some none)
    (eh6 : PySem.W.hasDictIn K C6 = true)
    (ec6 : PySem.W.findIn K (.ref C6) "__class__" = some (some (.builtin "object.__class__")))
    (eo6 : PySem.W.mroIn K C6 (.type "object") = some true)
    (pq6_BadRow : PySem.W.kitOne K (.ref C6) (.ref C2) = some false)
    (pq6_OutOfOrder : PySem.W.kitOne K (.ref C6) (.ref C10) = some false)
    (pq6_TwiceTold : PySem.W.kitOne K (.ref C6) (.ref C12) = some false)
    (pq6_NotTold : PySem.W.kitOne K (.ref C6) (.ref C8) = some false)
    (pq6_TooMany : PySem.W.kitOne K (.ref C6) (.ref C11) = some false)
    (pq6_Clash : PySem.W.kitOne K (.ref C6) (.ref C4) = some false)
    (pq6_BadRide : PySem.W.kitOne K (.ref C6) (.ref C1) = some false)
    (pq6_BadNeed : PySem.W.kitOne K (.ref C6) (.ref C0) = some false)
    (pq6_NoTicket : PySem.W.kitOne K (.ref C6) (.ref C7) = some false)
    (pq6_NoRide : PySem.W.kitOne K (.ref C6) (.ref C6) = some true)
    (pq6_NoDeed : PySem.W.kitOne K (.ref C6) (.ref C5) = some false)
    (pq6_OtherWindows : PySem.W.kitOne K (.ref C6) (.ref C9) = some false)
    (pq6_BadSplit : PySem.W.kitOne K (.ref C6) (.ref C3) = some false)
    (pq6_ValueError : PySem.W.kitOne K (.ref C6) (.type "ValueError") = some true)
    (pw6_FareError : PySem.W.exmOne K (.ref C6) (.ref C13) = some true)
    (cx7 : excAt K "NoTicket" = some C7)
    (cl7 : K.lookup C7 = some (excClassObj nm7 q7 C7 Nc7 bs7 bm7 true sn7 sub7 ab7 col7 dd7 ka7 kb7 kc7 kd7 ke7 "ValueError.__new__"))
    (cr7 : PySem.HandSPX.refsVE bm7 = true)
    (cs7 : PySem.W.findIn K (.ref C7) "__setattr__" = some (some (.builtin "object.__setattr__")))
    (cb7 : PySem.W.subIn K (.ref C7) (.type "BaseException") = some true)
    (cT7 : PySem.W.typeIn K (.ref C7) = some (.type "type"))
    (ck7 : PySem.W.keepIn K (.ref C7) = true)
    (ci7 : PySem.W.findIn K (.ref C7) "__init__" = some (some (.ref I7)))
    (cj7 : PySem.W.typeIn K (.ref I7) = some (.type "function"))
    (cm7 : K.lookup I7 = some ⟨io7, id7, .func (PySem.W.fnX "__init__" "NoTicket.__init__" (defArgs s_i_NoTicket) (defBody s_i_NoTicket) (defScope s_i_NoTicket) [(("__class__" : Str), cc7)] .none ik7 ix7 ip7 ia7 (.ref cda7) it7), is7⟩)
    (cn7 : PySem.W.codeIn K (.ref cda7) "NoTicket.__init__" = true)
    (co7 : K.lookup cda7 = some ⟨if7, ih7, .fields vs7, ij7⟩)
    (cp7 : vs7[2]? = some (.str file7 tf7))
    (cq7 : ((l.prog.main.file : Str) == file7) = true)
    (cv7 : K.lookup cc7 = some ⟨ig7, ii7, .cell (some (.ref C7)), il7⟩)
    (cw7 : PySem.W.ks_superIn K C7 C7 "__init__" = some (some (.builtin "ValueError.__init__")))
    (cy7 : PySem.W.mroIn K C7 (.ref C7) = some true)
    (cz7 : PySem.W.subIn K (.ref C7) (.type "ValueError") = some true)
    (cf7_need : PySem.W.findIn K (.ref C7) "need" = some none)
    (cf7_row : PySem.W.findIn K (.ref C7) "row" = some none)
    (cf7_leg : PySem.W.findIn K (.ref C7) "leg" = some none)
    (cf7_first : PySem.W.findIn K (.ref C7) "first" = some none)
    (cf7_second : PySem.W.findIn K (.ref C7) "second" = some none)
    (cf7_number : PySem.W.findIn K (.ref C7) "number" = some none)
    (cf7_ride : PySem.W.findIn K (.ref C7) "ride" = some none)
    (cf7_word : PySem.W.findIn K (.ref C7) "word" = some none)
    (cf7_limit : PySem.W.findIn K (.ref C7) "limit" = some none)
    (ei7 : (PySem.W.clsIn K C7).isSome = true)
    (eg7 : PySem.W.findIn K (.ref C7) "__getattribute__" = some (some (.builtin "BaseException.__getattribute__")))
    (ek7 : PySem.W.findIn K (.ref C7) "__getattr__" = some none)
    (eh7 : PySem.W.hasDictIn K C7 = true)
    (ec7 : PySem.W.findIn K (.ref C7) "__class__" = some (some (.builtin "object.__class__")))
    (eo7 : PySem.W.mroIn K C7 (.type "object") = some true)
    (pq7_BadRow : PySem.W.kitOne K (.ref C7) (.ref C2) = some false)
    (pq7_OutOfOrder : PySem.W.kitOne K (.ref C7) (.ref C10) = some false)
    (pq7_TwiceTold : PySem.W.kitOne K (.ref C7) (.ref C12) = some false)
    (pq7_NotTold : PySem.W.kitOne K (.ref C7) (.ref C8) = some false)
    (pq7_TooMany : PySem.W.kitOne K (.ref C7) (.ref C11) = some false)
    (pq7_Clash : PySem.W.kitOne K (.ref C7) (.ref C4) = some false)
    (pq7_BadRide : PySem.W.kitOne K (.ref C7) (.ref C1) = some false)
    (pq7_BadNeed : PySem.W.kitOne K (.ref C7) (.ref C0) = some false)
    (pq7_NoTicket : PySem.W.kitOne K (.ref C7) (.ref C7) = some true)
    (pq7_NoRide : PySem.W.kitOne K (.ref C7) (.ref C6) = some false)
    (pq7_NoDeed : PySem.W.kitOne K (.ref C7) (.ref C5) = some false)
    (pq7_OtherWindows : PySem.W.kitOne K (.ref C7) (.ref C9) = some false)
    (pq7_BadSplit : PySem.W.kitOne K (.ref C7) (.ref C3) = some false)
    (pq7_ValueError : PySem.W.kitOne K (.ref C7) (.type "ValueError") = some true)
    (pw7_FareError : PySem.W.exmOne K (.ref C7) (.ref C13) = some true)
    (cx8 : excAt K "NotTold" = some C8)
    (cl8 : K.lookup C8 = some (excClassObj nm8 q8 C8 Nc8 bs8 bm8 true sn8 sub8 ab8 col8 dd8 ka8 kb8 kc8 kd8 ke8 "ValueError.__new__"))
    (cr8 : PySem.HandSPX.refsVE bm8 = true)
    (cs8 : PySem.W.findIn K (.ref C8) "__setattr__" = some (some (.builtin "object.__setattr__")))
    (cb8 : PySem.W.subIn K (.ref C8) (.type "BaseException") = some true)
    (cT8 : PySem.W.typeIn K (.ref C8) = some (.type "type"))
    (ck8 : PySem.W.keepIn K (.ref C8) = true)
    (ci8 : PySem.W.findIn K (.ref C8) "__init__" = some (some (.ref I8)))
    (cj8 : PySem.W.typeIn K (.ref I8) = some (.type "function"))
    (cm8 : K.lookup I8 = some ⟨io8, id8, .func (PySem.W.fnX "__init__" "NotTold.__init__" (defArgs s_i_NotTold) (defBody s_i_NotTold) (defScope s_i_NotTold) [(("__class__" : Str), cc8)] .none ik8 ix8 ip8 ia8 (.ref cda8) it8), is8⟩)
    (cn8 : PySem.W.codeIn K (.ref cda8) "NotTold.__init__" = true)
    (co8 : K.lookup cda8 = some ⟨if8, ih8, .fields vs8, ij8⟩)
    (cp8 : vs8[2]? = some (.str file8 tf8))
    (cq8 : ((l.prog.main.file : Str) == file8) = true)
    (cv8 : K.lookup cc8 = some ⟨ig8, ii8, .cell (some (.ref C8)), il8⟩)
    (cw8 : PySem.W.ks_superIn K C8 C8 "__init__" = some (some (.builtin "ValueError.__init__")))
    (cy8 : PySem.W.mroIn K C8 (.ref C8) = some true)
    (cz8 : PySem.W.subIn K (.ref C8) (.type "ValueError") = some true)
    (cf8_need : PySem.W.findIn K (.ref C8) "need" = some none)
    (cf8_row : PySem.W.findIn K (.ref C8) "row" = some none)
    (cf8_leg : PySem.W.findIn K (.ref C8) "leg" = some none)
    (cf8_first : PySem.W.findIn K (.ref C8) "first" = some none)
    (cf8_second : PySem.W.findIn K (.ref C8) "second" = some none)
    (cf8_number : PySem.W.findIn K (.ref C8) "number" = some none)
    (cf8_ride : PySem.W.findIn K (.ref C8) "ride" = some none)
    (cf8_word : PySem.W.findIn K (.ref C8) "word" = some none)
    (cf8_limit : PySem.W.findIn K (.ref C8) "limit" = some none)
    (ei8 : (PySem.W.clsIn K C8).isSome = true)
    (eg8 : PySem.W.findIn K (.ref C8) "__getattribute__" = some (some (.builtin "BaseException.__getattribute__")))
    (ek8 : PySem.W.findIn K (.ref C8) "__getattr__" = some none)
    (eh8 : PySem.W.hasDictIn K C8 = true)
    (ec8 : PySem.W.findIn K (.ref C8) "__class__" = some (some (.builtin "object.__class__")))
    (eo8 : PySem.W.mroIn K C8 (.type "object") = some true)
    (pq8_BadRow : PySem.W.kitOne K (.ref C8) (.ref C2) = some false)
    (pq8_OutOfOrder : PySem.W.kitOne K (.ref C8) (.ref C10) = some false)
    (pq8_TwiceTold : PySem.W.kitOne K (.ref C8) (.ref C12) = some false)
    (pq8_NotTold : PySem.W.kitOne K (.ref C8) (.ref C8) = some true)
    (pq8_TooMany : PySem.W.kitOne K (.ref C8) (.ref C11) = some false)
    (pq8_Clash : PySem.W.kitOne K (.ref C8) (.ref C4) = some false)
    (pq8_BadRide : PySem.W.kitOne K (.ref C8) (.ref C1) = some false)
    (pq8_BadNeed : PySem.W.kitOne K (.ref C8) (.ref C0) = some false)
    (pq8_NoTicket : PySem.W.kitOne K (.ref C8) (.ref C7) = some false)
    (pq8_NoRide : PySem.W.kitOne K (.ref C8) (.ref C6) = some false)
    (pq8_NoDeed : PySem.W.kitOne K (.ref C8) (.ref C5) = some false)
    (pq8_OtherWindows : PySem.W.kitOne K (.ref C8) (.ref C9) = some false)
    (pq8_BadSplit : PySem.W.kitOne K (.ref C8) (.ref C3) = some false)
    (pq8_ValueError : PySem.W.kitOne K (.ref C8) (.type "ValueError") = some true)
    (pw8_FareError : PySem.W.exmOne K (.ref C8) (.ref C13) = some true)
    (cx9 : excAt K "OtherWindows" = some C9)
    (cl9 : K.lookup C9 = some (excClassObj nm9 q9 C9 Nc9 bs9 bm9 true sn9 sub9 ab9 col9 dd9 ka9 kb9 kc9 kd9 ke9 "ValueError.__new__"))
    (cr9 : PySem.HandSPX.refsVE bm9 = true)
    (cs9 : PySem.W.findIn K (.ref C9) "__setattr__" = some (some (.builtin "object.__setattr__")))
    (cb9 : PySem.W.subIn K (.ref C9) (.type "BaseException") = some true)
    (cT9 : PySem.W.typeIn K (.ref C9) = some (.type "type"))
    (ck9 : PySem.W.keepIn K (.ref C9) = true)
    (ci9 : PySem.W.findIn K (.ref C9) "__init__" = some (some (.ref I9)))
    (cj9 : PySem.W.typeIn K (.ref I9) = some (.type "function"))
    (cm9 : K.lookup I9 = some ⟨io9, id9, .func (PySem.W.fnX "__init__" "OtherWindows.__init__" (defArgs s_i_OtherWindows) (defBody s_i_OtherWindows) (defScope s_i_OtherWindows) [(("__class__" : Str), cc9)] .none ik9 ix9 ip9 ia9 (.ref cda9) it9), is9⟩)
    (cn9 : PySem.W.codeIn K (.ref cda9) "OtherWindows.__init__" = true)
    (co9 : K.lookup cda9 = some ⟨if9, ih9, .fields vs9, ij9⟩)
    (cp9 : vs9[2]? = some (.str file9 tf9))
    (cq9 : ((l.prog.main.file : Str) == file9) = true)
    (cv9 : K.lookup cc9 = some ⟨ig9, ii9, .cell (some (.ref C9)), il9⟩)
    (cw9 : PySem.W.ks_superIn K C9 C9 "__init__" = some (some (.builtin "ValueError.__init__")))
    (cy9 : PySem.W.mroIn K C9 (.ref C9) = some true)
    (cz9 : PySem.W.subIn K (.ref C9) (.type "ValueError") = some true)
    (cf9_need : PySem.W.findIn K (.ref C9) "need" = some none)
    (cf9_row : PySem.W.findIn K (.ref C9) "row" = some none)
    (cf9_leg : PySem.W.findIn K (.ref C9) "leg" = some none)
    (cf9_first : PySem.W.findIn K (.ref C9) "first" = some none)
    (cf9_second : PySem.W.findIn K (.ref C9) "second" = some none)
    (cf9_number : PySem.W.findIn K (.ref C9) "number" = some none)
    (cf9_ride : PySem.W.findIn K (.ref C9) "ride" = some none)
    (cf9_word : PySem.W.findIn K (.ref C9) "word" = some none)
    (cf9_limit : PySem.W.findIn K (.ref C9) "limit" = some none)
    (ei9 : (PySem.W.clsIn K C9).isSome = true)
    (eg9 : PySem.W.findIn K (.ref C9) "__getattribute__" = some (some (.builtin "BaseException.__getattribute__")))
    (ek9 : PySem.W.findIn K (.ref C9) "__getattr__" = some none)
    (eh9 : PySem.W.hasDictIn K C9 = true)
    (ec9 : PySem.W.findIn K (.ref C9) "__class__" = some (some (.builtin "object.__class__")))
    (eo9 : PySem.W.mroIn K C9 (.type "object") = some true)
    (pq9_BadRow : PySem.W.kitOne K (.ref C9) (.ref C2) = some false)
    (pq9_OutOfOrder : PySem.W.kitOne K (.ref C9) (.ref C10) = some false)
    (pq9_TwiceTold : PySem.W.kitOne K (.ref C9) (.ref C12) = some false)
    (pq9_NotTold : PySem.W.kitOne K (.ref C9) (.ref C8) = some false)
    (pq9_TooMany : PySem.W.kitOne K (.ref C9) (.ref C11) = some false)
    (pq9_Clash : PySem.W.kitOne K (.ref C9) (.ref C4) = some false)
    (pq9_BadRide : PySem.W.kitOne K (.ref C9) (.ref C1) = some false)
    (pq9_BadNeed : PySem.W.kitOne K (.ref C9) (.ref C0) = some false)
    (pq9_NoTicket : PySem.W.kitOne K (.ref C9) (.ref C7) = some false)
    (pq9_NoRide : PySem.W.kitOne K (.ref C9) (.ref C6) = some false)
    (pq9_NoDeed : PySem.W.kitOne K (.ref C9) (.ref C5) = some false)
    (pq9_OtherWindows : PySem.W.kitOne K (.ref C9) (.ref C9) = some true)
    (pq9_BadSplit : PySem.W.kitOne K (.ref C9) (.ref C3) = some false)
    (pq9_ValueError : PySem.W.kitOne K (.ref C9) (.type "ValueError") = some true)
    (pw9_FareError : PySem.W.exmOne K (.ref C9) (.ref C13) = some true)
    (cx10 : excAt K "OutOfOrder" = some C10)
    (cl10 : K.lookup C10 = some (excClassObj nm10 q10 C10 Nc10 bs10 bm10 true sn10 sub10 ab10 col10 dd10 ka10 kb10 kc10 kd10 ke10 "ValueError.__new__"))
    (cr10 : PySem.HandSPX.refsVE bm10 = true)
    (cs10 : PySem.W.findIn K (.ref C10) "__setattr__" = some (some (.builtin "object.__setattr__")))
    (cb10 : PySem.W.subIn K (.ref C10) (.type "BaseException") = some true)
    (cT10 : PySem.W.typeIn K (.ref C10) = some (.type "type"))
    (ck10 : PySem.W.keepIn K (.ref C10) = true)
    (ci10 : PySem.W.findIn K (.ref C10) "__init__" = some (some (.ref I10)))
    (cj10 : PySem.W.typeIn K (.ref I10) = some (.type "function"))
    (cm10 : K.lookup I10 = some ⟨io10, id10, .func (PySem.W.fnX "__init__" "OutOfOrder.__init__" (defArgs s_i_OutOfOrder) (defBody s_i_OutOfOrder) (defScope s_i_OutOfOrder) [(("__class__" : Str), cc10)] .none ik10 ix10 ip10 ia10 (.ref cda10) it10), is10⟩)
    (cn10 : PySem.W.codeIn K (.ref cda10) "OutOfOrder.__init__" = true)
    (co10 : K.lookup cda10 = some ⟨if10, ih10, .fields vs10, ij10⟩)
    (cp10 : vs10[2]? = some (.str file10 tf10))
    (cq10 : ((l.prog.main.file : Str) == file10) = true)
    (cv10 : K.lookup cc10 = some ⟨ig10, ii10, .cell (some (.ref C10)), il10⟩)
    (cw10 : PySem.W.ks_superIn K C10 C10 "__init__" = some (some (.builtin "ValueError.__init__")))
    (cy10 : PySem.W.mroIn K C10 (.ref C10) = some true)
    (cz10 : PySem.W.subIn K (.ref C10) (.type "ValueError") = some true)
    (cf10_need : PySem.W.findIn K (.ref C10) "need" = some none)
    (cf10_row : PySem.W.findIn K (.ref C10) "row" = some none)
    (cf10_leg : PySem.W.findIn K (.ref C10) "leg" = some none)
    (cf10_first : PySem.W.findIn K (.ref C10) "first" = some none)
    (cf10_second : PySem.W.findIn K (.ref C10) "second" = some none)
    (cf10_number : PySem.W.findIn K (.ref C10) "number" = some none)
    (cf10_ride : PySem.W.findIn K (.ref C10) "ride" = some none)
    (cf10_word : PySem.W.findIn K (.ref C10) "word" = some none)
    (cf10_limit : PySem.W.findIn K (.ref C10) "limit" = some none)
    (ei10 : (PySem.W.clsIn K C10).isSome = true)
    (eg10 : PySem.W.findIn K (.ref C10) "__getattribute__" = some (some (.builtin "BaseException.__getattribute__")))
    (ek10 : PySem.W.findIn K (.ref C10) "__getattr__" = some none)
    (eh10 : PySem.W.hasDictIn K C10 = true)
    (ec10 : PySem.W.findIn K (.ref C10) "__class__" = some (some (.builtin "object.__class__")))
    (eo10 : PySem.W.mroIn K C10 (.type "object") = some true)
    (pq10_BadRow : PySem.W.kitOne K (.ref C10) (.ref C2) = some false)
    (pq10_OutOfOrder : PySem.W.kitOne K (.ref C10) (.ref C10) = some true)
    (pq10_TwiceTold : PySem.W.kitOne K (.ref C10) (.ref C12) = some false)
    (pq10_NotTold : PySem.W.kitOne K (.ref C10) (.ref C8) = some false)
    (pq10_TooMany : PySem.W.kitOne K (.ref C10) (.ref C11) = some false)
    (pq10_Clash : PySem.W.kitOne K (.ref C10) (.ref C4) = some false)
    (pq10_BadRide : PySem.W.kitOne K (.ref C10) (.ref C1) = some false)
    (pq10_BadNeed : PySem.W.kitOne K (.ref C10) (.ref C0) = some false)
    (pq10_NoTicket : PySem.W.kitOne K (.ref C10) (.ref C7) = some false)
    (pq10_NoRide : PySem.W.kitOne K (.ref C10) (.ref C6) = some false)
    (pq10_NoDeed : PySem.W.kitOne K (.ref C10) (.ref C5) = some false)
    (pq10_OtherWindows : PySem.W.kitOne K (.ref C10) (.ref C9) = some false)
    (pq10_BadSplit : PySem.W.kitOne K (.ref C10) (.ref C3) = some false)
    (pq10_ValueError : PySem.W.kitOne K (.ref C10) (.type "ValueError") = some true)
    (pw10_FareError : PySem.W.exmOne K (.ref C10) (.ref C13) = some true)
    (cx11 : excAt K "TooMany" = some C11)
    (cl11 : K.lookup C11 = some (excClassObj nm11 q11 C11 Nc11 bs11 bm11 true sn11 sub11 ab11 col11 dd11 ka11 kb11 kc11 kd11 ke11 "ValueError.__new__"))
    (cr11 : PySem.HandSPX.refsVE bm11 = true)
    (cs11 : PySem.W.findIn K (.ref C11) "__setattr__" = some (some (.builtin "object.__setattr__")))
    (cb11 : PySem.W.subIn K (.ref C11) (.type "BaseException") = some true)
    (cT11 : PySem.W.typeIn K (.ref C11) = some (.type "type"))
    (ck11 : PySem.W.keepIn K (.ref C11) = true)
    (ci11 : PySem.W.findIn K (.ref C11) "__init__" = some (some (.ref I11)))
    (cj11 : PySem.W.typeIn K (.ref I11) = some (.type "function"))
    (cm11 : K.lookup I11 = some ⟨io11, id11, .func (PySem.W.fnX "__init__" "TooMany.__init__" (defArgs s_i_TooMany) (defBody s_i_TooMany) (defScope s_i_TooMany) [(("__class__" : Str), cc11)] .none ik11 ix11 ip11 ia11 (.ref cda11) it11), is11⟩)
    (cn11 : PySem.W.codeIn K (.ref cda11) "TooMany.__init__" = true)
    (co11 : K.lookup cda11 = some ⟨if11, ih11, .fields vs11, ij11⟩)
    (cp11 : vs11[2]? = some (.str file11 tf11))
    (cq11 : ((l.prog.main.file : Str) == file11) = true)
    (cv11 : K.lookup cc11 = some ⟨ig11, ii11, .cell (some (.ref C11)), il11⟩)
    (cw11 : PySem.W.ks_superIn K C11 C11 "__init__" = some (some (.builtin "ValueError.__init__")))
    (cy11 : PySem.W.mroIn K C11 (.ref C11) = some true)
    (cz11 : PySem.W.subIn K (.ref C11) (.type "ValueError") = some true)
    (cf11_need : PySem.W.findIn K (.ref C11) "need" = some none)
    (cf11_row : PySem.W.findIn K (.ref C11) "row" = some none)
    (cf11_leg : PySem.W.findIn K (.ref C11) "leg" = some none)
    (cf11_first : PySem.W.findIn K (.ref C11) "first" = some none)
    (cf11_second : PySem.W.findIn K (.ref C11) "second" = some none)
    (cf11_number : PySem.W.findIn K (.ref C11) "number" = some none)
    (cf11_ride : PySem.W.findIn K (.ref C11) "ride" = some none)
    (cf11_word : PySem.W.findIn K (.ref C11) "word" = some none)
    (cf11_limit : PySem.W.findIn K (.ref C11) "limit" = some none)
    (ei11 : (PySem.W.clsIn K C11).isSome = true)
    (eg11 : PySem.W.findIn K (.ref C11) "__getattribute__" = some (some (.builtin "BaseException.__getattribute__")))
    (ek11 : PySem.W.findIn K (.ref C11) "__getattr__" = some none)
    (eh11 : PySem.W.hasDictIn K C11 = true)
    (ec11 : PySem.W.findIn K (.ref C11) "__class__" = some (some (.builtin "object.__class__")))
    (eo11 : PySem.W.mroIn K C11 (.type "object") = some true)
    (pq11_BadRow : PySem.W.kitOne K (.ref C11) (.ref C2) = some false)
    (pq11_OutOfOrder : PySem.W.kitOne K (.ref C11) (.ref C10) = some false)
    (pq11_TwiceTold : PySem.W.kitOne K (.ref C11) (.ref C12) = some false)
    (pq11_NotTold : PySem.W.kitOne K (.ref C11) (.ref C8) = some false)
    (pq11_TooMany : PySem.W.kitOne K (.ref C11) (.ref C11) = some true)
    (pq11_Clash : PySem.W.kitOne K (.ref C11) (.ref C4) = some false)
    (pq11_BadRide : PySem.W.kitOne K (.ref C11) (.ref C1) = some false)
    (pq11_BadNeed : PySem.W.kitOne K (.ref C11) (.ref C0) = some false)
    (pq11_NoTicket : PySem.W.kitOne K (.ref C11) (.ref C7) = some false)
    (pq11_NoRide : PySem.W.kitOne K (.ref C11) (.ref C6) = some false)
    (pq11_NoDeed : PySem.W.kitOne K (.ref C11) (.ref C5) = some false)
    (pq11_OtherWindows : PySem.W.kitOne K (.ref C11) (.ref C9) = some false)
    (pq11_BadSplit : PySem.W.kitOne K (.ref C11) (.ref C3) = some false)
    (pq11_ValueError : PySem.W.kitOne K (.ref C11) (.type "ValueError") = some true)
    (pw11_FareError : PySem.W.exmOne K (.ref C11) (.ref C13) = some true)
    (cx12 : excAt K "TwiceTold" = some C12)
    (cl12 : K.lookup C12 = some (excClassObj nm12 q12 C12 Nc12 bs12 bm12 true sn12 sub12 ab12 col12 dd12 ka12 kb12 kc12 kd12 ke12 "ValueError.__new__"))
    (cr12 : PySem.HandSPX.refsVE bm12 = true)
    (cs12 : PySem.W.findIn K (.ref C12) "__setattr__" = some (some (.builtin "object.__setattr__")))
    (cb12 : PySem.W.subIn K (.ref C12) (.type "BaseException") = some true)
    (cT12 : PySem.W.typeIn K (.ref C12) = some (.type "type"))
    (ck12 : PySem.W.keepIn K (.ref C12) = true)
    (ci12 : PySem.W.findIn K (.ref C12) "__init__" = some (some (.ref I12)))
    (cj12 : PySem.W.typeIn K (.ref I12) = some (.type "function"))
    (cm12 : K.lookup I12 = some ⟨io12, id12, .func (PySem.W.fnX "__init__" "TwiceTold.__init__" (defArgs s_i_TwiceTold) (defBody s_i_TwiceTold) (defScope s_i_TwiceTold) [(("__class__" : Str), cc12)] .none ik12 ix12 ip12 ia12 (.ref cda12) it12), is12⟩)
    (cn12 : PySem.W.codeIn K (.ref cda12) "TwiceTold.__init__" = true)
    (co12 : K.lookup cda12 = some ⟨if12, ih12, .fields vs12, ij12⟩)
    (cp12 : vs12[2]? = some (.str file12 tf12))
    (cq12 : ((l.prog.main.file : Str) == file12) = true)
    (cv12 : K.lookup cc12 = some ⟨ig12, ii12, .cell (some (.ref C12)), il12⟩)
    (cw12 : PySem.W.ks_superIn K C12 C12 "__init__" = some (some (.builtin "ValueError.__init__")))
    (cy12 : PySem.W.mroIn K C12 (.ref C12) = some true)
    (cz12 : PySem.W.subIn K (.ref C12) (.type "ValueError") = some true)
    (cf12_need : PySem.W.findIn K (.ref C12) "need" = some none)
    (cf12_row : PySem.W.findIn K (.ref C12) "row" = some none)
    (cf12_leg : PySem.W.findIn K (.ref C12) "leg" = some none)
    (cf12_first : PySem.W.findIn K (.ref C12) "first" = some none)
    (cf12_second : PySem.W.findIn K (.ref C12) "second" = some none)
    (cf12_number : PySem.W.findIn K (.ref C12) "number" = some none)
    (cf12_ride : PySem.W.findIn K (.ref C12) "ride" = some none)
    (cf12_word : PySem.W.findIn K (.ref C12) "word" = some none)
    (cf12_limit : PySem.W.findIn K (.ref C12) "limit" = some none)
    (ei12 : (PySem.W.clsIn K C12).isSome = true)
    (eg12 : PySem.W.findIn K (.ref C12) "__getattribute__" = some (some (.builtin "BaseException.__getattribute__")))
    (ek12 : PySem.W.findIn K (.ref C12) "__getattr__" = some none)
    (eh12 : PySem.W.hasDictIn K C12 = true)
    (ec12 : PySem.W.findIn K (.ref C12) "__class__" = some (some (.builtin "object.__class__")))
    (eo12 : PySem.W.mroIn K C12 (.type "object") = some true)
    (pq12_BadRow : PySem.W.kitOne K (.ref C12) (.ref C2) = some false)
    (pq12_OutOfOrder : PySem.W.kitOne K (.ref C12) (.ref C10) = some false)
    (pq12_TwiceTold : PySem.W.kitOne K (.ref C12) (.ref C12) = some true)
    (pq12_NotTold : PySem.W.kitOne K (.ref C12) (.ref C8) = some false)
    (pq12_TooMany : PySem.W.kitOne K (.ref C12) (.ref C11) = some false)
    (pq12_Clash : PySem.W.kitOne K (.ref C12) (.ref C4) = some false)
    (pq12_BadRide : PySem.W.kitOne K (.ref C12) (.ref C1) = some false)
    (pq12_BadNeed : PySem.W.kitOne K (.ref C12) (.ref C0) = some false)
    (pq12_NoTicket : PySem.W.kitOne K (.ref C12) (.ref C7) = some false)
    (pq12_NoRide : PySem.W.kitOne K (.ref C12) (.ref C6) = some false)
    (pq12_NoDeed : PySem.W.kitOne K (.ref C12) (.ref C5) = some false)
    (pq12_OtherWindows : PySem.W.kitOne K (.ref C12) (.ref C9) = some false)
    (pq12_BadSplit : PySem.W.kitOne K (.ref C12) (.ref C3) = some false)
    (pq12_ValueError : PySem.W.kitOne K (.ref C12) (.type "ValueError") = some true)
    (pw12_FareError : PySem.W.exmOne K (.ref C12) (.ref C13) = some true) :
    ∃ fd : FuncData, (∀ (s : Shared) (v : Value), BindsTo s fd ⟨[v], []⟩ [("script", v)]) ∧ ∀ base : Heap, K.In base → base.Ns mainGlobals mg → FnOk l.prog w K mg base (L2.CX l.prog w) 7 fa fd ["script"] (spD K mg g_law) := by
  have e := hfa.symm.trans (PySem.W.mg_of X G a8)
  cases e
  have F0 := fun_mk (st := s__law_cell) l0 c0 k0
  have b0 := F0.binds (ps := ["script", "k"]) fun _ _ _ _ _ _ us hl => match us, hl with | [_, _], _ => rfl
  have F1 := fun_mk (st := s__law_draws) l1 c1 k1
  have b1 := F1.binds (ps := ["cell", "sizes"]) fun _ _ _ _ _ _ us hl => match us, hl with | [_, _], _ => rfl
  have F2 := fun_mk (st := s__law_error) l2 c2 k2
  have b2 := F2.binds (ps := ["e"]) fun _ _ _ _ _ _ us hl => match us, hl with | [_], _ => rfl
  have F3 := fun_mk (st := s__law_limits) l3 c3 k3
  have b3 := F3.binds (ps := []) fun _ _ _ _ _ _ us hl => match us, hl with | [], _ => rfl
  have F4 := fun_mk (st := s__law_names) l4 c4 k4
  have b4 := F4.binds (ps := ["cell", "many"]) fun _ _ _ _ _ _ us hl => match us, hl with | [_, _], _ => rfl
  have F5 := fun_mk (st := s__law_raise) l5 c5 k5
  have b5 := F5.binds (ps := ["which", "one", "two", "text"]) fun _ _ _ _ _ _ us hl => match us, hl with | [_, _, _, _], _ => rfl
  have F6 := fun_mk (st := s__law_caught) l6 c6 k6
  have b6 := F6.binds (ps := ["which", "one", "two", "text"]) fun _ _ _ _ _ _ us hl => match us, hl with | [_, _, _, _], _ => rfl
  have F7 := fun_mk (st := s__law_same) l7 c7 k7
  have b7 := F7.binds (ps := ["actual", "due"]) fun _ _ _ _ _ _ us hl => match us, hl with | [_, _], _ => rfl
  have F8 := fun_mk (st := s_law) l8 c8 k8
  have b8 := F8.binds (ps := ["script"]) fun _ _ _ _ _ _ us hl => match us, hl with | [_], _ => rfl
  refine ⟨PySem.W.fnOf "law" "law" (defArgs s_law) (defBody s_law) (defScope s_law) .none kV8 dc8 pm8 an8 cd8 ct8, fun s v => .of_eq rfl, fun base _ _ => ?_⟩
  have m_ValueError := PySem.W.mg_none_of X G z_ValueError
  have m_bool := PySem.W.mg_none_of X G z_bool
  have m_int := PySem.W.mg_none_of X G z_int
  have m_isinstance := PySem.W.mg_none_of X G z_isinstance
  have m_len := PySem.W.mg_none_of X G z_len
  have m_range := PySem.W.mg_none_of X G z_range
  have m_str := PySem.W.mg_none_of X G z_str
  have m_tuple := PySem.W.mg_none_of X G z_tuple
  have k_MOST_AMOUNT := PySem.W.mg_of X G y_MOST_AMOUNT
  have k_MOST_CARRIERS := PySem.W.mg_of X G y_MOST_CARRIERS
  have k_MOST_DEEDS := PySem.W.mg_of X G y_MOST_DEEDS
  have k_MOST_DEPTH := PySem.W.mg_of X G y_MOST_DEPTH
  have k_MOST_LEGS := PySem.W.mg_of X G y_MOST_LEGS
  have k_MOST_LINES := PySem.W.mg_of X G y_MOST_LINES
  have k_MOST_LINE_STOPS := PySem.W.mg_of X G y_MOST_LINE_STOPS
  have k_MOST_MEMBERS := PySem.W.mg_of X G y_MOST_MEMBERS
  have k_MOST_NEEDS := PySem.W.mg_of X G y_MOST_NEEDS
  have k_MOST_PRICE := PySem.W.mg_of X G y_MOST_PRICE
  have k_MOST_RIDES := PySem.W.mg_of X G y_MOST_RIDES
  have k_MOST_RING := PySem.W.mg_of X G y_MOST_RING
  have k_MOST_RUNS := PySem.W.mg_of X G y_MOST_RUNS
  have k_MOST_STEP := PySem.W.mg_of X G y_MOST_STEP
  have k_MOST_STOPS := PySem.W.mg_of X G y_MOST_STOPS
  have k_MOST_TICKETS := PySem.W.mg_of X G y_MOST_TICKETS
  have k_MOST_TIME := PySem.W.mg_of X G y_MOST_TIME
  have k_MOST_WINDOWS := PySem.W.mg_of X G y_MOST_WINDOWS
  have m_super := PySem.W.mg_none_of X G zz_super
  have O0 := oexc_mk cl0 cr0 cs0 cb0 cT0 ck0
  have J0 := initk_mk (P := l.prog) (mg := mg) (C := C0) cm0 cn0 co0 cp0 cq0 cv0 m_super zz_top zz_noc cw0 cy0 cz0
  have x_BadNeed := exck1 (w := w) (base := base) tx_BadNeed (PySem.W.mg_of X G ca0) cx0 O0 ci0 cj0 J0 cf0_need (Binds.all fun us hl => match us, hl with | [_, _], _ => rfl)
  have E0 : ExcF K C0 := ⟨ei0, eg0, ek0, cb0, eh0, ec0, zz_sp, zz_tk, eo0⟩
  have O1 := oexc_mk cl1 cr1 cs1 cb1 cT1 ck1
  have J1 := initk_mk (P := l.prog) (mg := mg) (C := C1) cm1 cn1 co1 cp1 cq1 cv1 m_super zz_top zz_noc cw1 cy1 cz1
  have x_BadRide := exck2 (w := w) (base := base) tx_BadRide (PySem.W.mg_of X G ca1) cx1 O1 ci1 cj1 J1 cf1_row cf1_leg (Binds.all fun us hl => match us, hl with | [_, _, _], _ => rfl)
  have E1 : ExcF K C1 := ⟨ei1, eg1, ek1, cb1, eh1, ec1, zz_sp, zz_tk, eo1⟩
  have O2 := oexc_mk cl2 cr2 cs2 cb2 cT2 ck2
  have J2 := initk_mk (P := l.prog) (mg := mg) (C := C2) cm2 cn2 co2 cp2 cq2 cv2 m_super zz_top zz_noc cw2 cy2 cz2
  have x_BadRow := exck1 (w := w) (base := base) tx_BadRow (PySem.W.mg_of X G ca2) cx2 O2 ci2 cj2 J2 cf2_row (Binds.all fun us hl => match us, hl with | [_, _], _ => rfl)
  have E2 : ExcF K C2 := ⟨ei2, eg2, ek2, cb2, eh2, ec2, zz_sp, zz_tk, eo2⟩
  have O3 := oexc_mk cl3 cr3 cs3 cb3 cT3 ck3
  have J3 := initk_mk (P := l.prog) (mg := mg) (C := C3) cm3 cn3 co3 cp3 cq3 cv3 m_super zz_top zz_noc cw3 cy3 cz3
  have x_BadSplit := exck0 (w := w) (base := base) tx_BadSplit (PySem.W.mg_of X G ca3) cx3 O3 ci3 cj3 J3  (Binds.all fun us hl => match us, hl with | [_], _ => rfl)
  have E3 : ExcF K C3 := ⟨ei3, eg3, ek3, cb3, eh3, ec3, zz_sp, zz_tk, eo3⟩
  have O4 := oexc_mk cl4 cr4 cs4 cb4 cT4 ck4
  have J4 := initk_mk (P := l.prog) (mg := mg) (C := C4) cm4 cn4 co4 cp4 cq4 cv4 m_super zz_top zz_noc cw4 cy4 cz4
  have x_Clash := exck2 (w := w) (base := base) tx_Clash (PySem.W.mg_of X G ca4) cx4 O4 ci4 cj4 J4 cf4_first cf4_second (Binds.all fun us hl => match us, hl with | [_, _, _], _ => rfl)
  have E4 : ExcF K C4 := ⟨ei4, eg4, ek4, cb4, eh4, ec4, zz_sp, zz_tk, eo4⟩
  have O5 := oexc_mk cl5 cr5 cs5 cb5 cT5 ck5
  have J5 := initk_mk (P := l.prog) (mg := mg) (C := C5) cm5 cn5 co5 cp5 cq5 cv5 m_super zz_top zz_noc cw5 cy5 cz5
  have x_NoDeed := exck0 (w := w) (base := base) tx_NoDeed (PySem.W.mg_of X G ca5) cx5 O5 ci5 cj5 J5  (Binds.all fun us hl => match us, hl with | [_], _ => rfl)
  have E5 : ExcF K C5 := ⟨ei5, eg5, ek5, cb5, eh5, ec5, zz_sp, zz_tk, eo5⟩
  have O6 := oexc_mk cl6 cr6 cs6 cb6 cT6 ck6
  have J6 := initk_mk (P := l.prog) (mg := mg) (C := C6) cm6 cn6 co6 cp6 cq6 cv6 m_super zz_top zz_noc cw6 cy6 cz6
  have x_NoRide := exck1 (w := w) (base := base) tx_NoRide (PySem.W.mg_of X G ca6) cx6 O6 ci6 cj6 J6 cf6_number (Binds.all fun us hl => match us, hl with | [_, _], _ => rfl)
  have E6 : ExcF K C6 := ⟨ei6, eg6, ek6, cb6, eh6, ec6, zz_sp, zz_tk, eo6⟩
  have O7 := oexc_mk cl7 cr7 cs7 cb7 cT7 ck7
  have J7 := initk_mk (P := l.prog) (mg := mg) (C := C7) cm7 cn7 co7 cp7 cq7 cv7 m_super zz_top zz_noc cw7 cy7 cz7
  have x_NoTicket := exck2 (w := w) (base := base) tx_NoTicket (PySem.W.mg_of X G ca7) cx7 O7 ci7 cj7 J7 cf7_ride cf7_leg (Binds.all fun us hl => match us, hl with | [_, _, _], _ => rfl)
  have E7 : ExcF K C7 := ⟨ei7, eg7, ek7, cb7, eh7, ec7, zz_sp, zz_tk, eo7⟩
  have O8 := oexc_mk cl8 cr8 cs8 cb8 cT8 ck8
  have J8 := initk_mk (P := l.prog) (mg := mg) (C := C8) cm8 cn8 co8 cp8 cq8 cv8 m_super zz_top zz_noc cw8 cy8 cz8
  have x_NotTold := exck2 (w := w) (base := base) tx_NotTold (PySem.W.mg_of X G ca8) cx8 O8 ci8 cj8 J8 cf8_row cf8_word (Binds.all fun us hl => match us, hl with | [_, _, _], _ => rfl)
  have E8 : ExcF K C8 := ⟨ei8, eg8, ek8, cb8, eh8, ec8, zz_sp, zz_tk, eo8⟩
  have O9 := oexc_mk cl9 cr9 cs9 cb9 cT9 ck9
  have J9 := initk_mk (P := l.prog) (mg := mg) (C := C9) cm9 cn9 co9 cp9 cq9 cv9 m_super zz_top zz_noc cw9 cy9 cz9
  have x_OtherWindows := exck0 (w := w) (base := base) tx_OtherWindows (PySem.W.mg_of X G ca9) cx9 O9 ci9 cj9 J9  (Binds.all fun us hl => match us, hl with | [_], _ => rfl)
  have E9 : ExcF K C9 := ⟨ei9, eg9, ek9, cb9, eh9, ec9, zz_sp, zz_tk, eo9⟩
  have O10 := oexc_mk cl10 cr10 cs10 cb10 cT10 ck10
  have J10 := initk_mk (P := l.prog) (mg := mg) (C := C10) cm10 cn10 co10 cp10 cq10 cv10 m_super zz_top zz_noc cw10 cy10 cz10
  have x_OutOfOrder := exck1 (w := w) (base := base) tx_OutOfOrder (PySem.W.mg_of X G ca10) cx10 O10 ci10 cj10 J10 cf10_row (Binds.all fun us hl => match us, hl with | [_, _], _ => rfl)
  have E10 : ExcF K C10 := ⟨ei10, eg10, ek10, cb10, eh10, ec10, zz_sp, zz_tk, eo10⟩
  have O11 := oexc_mk cl11 cr11 cs11 cb11 cT11 ck11
  have J11 := initk_mk (P := l.prog) (mg := mg) (C := C11) cm11 cn11 co11 cp11 cq11 cv11 m_super zz_top zz_noc cw11 cy11 cz11
  have x_TooMany := exck1 (w := w) (base := base) tx_TooMany (PySem.W.mg_of X G ca11) cx11 O11 ci11 cj11 J11 cf11_limit (Binds.all fun us hl => match us, hl with | [_, _], _ => rfl)
  have E11 : ExcF K C11 := ⟨ei11, eg11, ek11, cb11, eh11, ec11, zz_sp, zz_tk, eo11⟩
  have O12 := oexc_mk cl12 cr12 cs12 cb12 cT12 ck12
  have J12 := initk_mk (P := l.prog) (mg := mg) (C := C12) cm12 cn12 co12 cp12 cq12 cv12 m_super zz_top zz_noc cw12 cy12 cz12
  have x_TwiceTold := exck2 (w := w) (base := base) tx_TwiceTold (PySem.W.mg_of X G ca12) cx12 O12 ci12 cj12 J12 cf12_row cf12_word (Binds.all fun us hl => match us, hl with | [_, _, _], _ => rfl)
  have E12 : ExcF K C12 := ⟨ei12, eg12, ek12, cb12, eh12, ec12, zz_sp, zz_tk, eo12⟩
  have q_BadRow : AskC K mg "BadRow" tb_BadRow := ⟨_, PySem.W.mg_of X G ca2, (isTbl_cons cx0 E0 pq0_BadRow (isTbl_cons cx1 E1 pq1_BadRow (isTbl_cons cx2 E2 pq2_BadRow (isTbl_cons cx3 E3 pq3_BadRow (isTbl_cons cx4 E4 pq4_BadRow (isTbl_cons cx5 E5 pq5_BadRow (isTbl_cons cx6 E6 pq6_BadRow (isTbl_cons cx7 E7 pq7_BadRow (isTbl_cons cx8 E8 pq8_BadRow (isTbl_cons cx9 E9 pq9_BadRow (isTbl_cons cx10 E10 pq10_BadRow (isTbl_cons cx11 E11 pq11_BadRow (isTbl_cons cx12 E12 pq12_BadRow isTbl_nil)))))))))))))⟩
  have q_OutOfOrder : AskC K mg "OutOfOrder" tb_OutOfOrder := ⟨_, PySem.W.mg_of X G ca10, (isTbl_cons cx0 E0 pq0_OutOfOrder (isTbl_cons cx1 E1 pq1_OutOfOrder (isTbl_cons cx2 E2 pq2_OutOfOrder (isTbl_cons cx3 E3 pq3_OutOfOrder (isTbl_cons cx4 E4 pq4_OutOfOrder (isTbl_cons cx5 E5 pq5_OutOfOrder (isTbl_cons cx6 E6 pq6_OutOfOrder (isTbl_cons cx7 E7 pq7_OutOfOrder (isTbl_cons cx8 E8 pq8_OutOfOrder (isTbl_cons cx9 E9 pq9_OutOfOrder (isTbl_cons cx10 E10 pq10_OutOfOrder (isTbl_cons cx11 E11 pq11_OutOfOrder (isTbl_cons cx12 E12 pq12_OutOfOrder isTbl_nil)))))))))))))⟩
  have q_TwiceTold : AskC K mg "TwiceTold" tb_TwiceTold := ⟨_, PySem.W.mg_of X G ca12, (isTbl_cons cx0 E0 pq0_TwiceTold (isTbl_cons cx1 E1 pq1_TwiceTold (isTbl_cons cx2 E2 pq2_TwiceTold (isTbl_cons cx3 E3 pq3_TwiceTold (isTbl_cons cx4 E4 pq4_TwiceTold (isTbl_cons cx5 E5 pq5_TwiceTold (isTbl_cons cx6 E6 pq6_TwiceTold (isTbl_cons cx7 E7 pq7_TwiceTold (isTbl_cons cx8 E8 pq8_TwiceTold (isTbl_cons cx9 E9 pq9_TwiceTold (isTbl_cons cx10 E10 pq10_TwiceTold (isTbl_cons cx11 E11 pq11_TwiceTold (isTbl_cons cx12 E12 pq12_TwiceTold isTbl_nil)))))))))))))⟩
  have q_NotTold : AskC K mg "NotTold" tb_NotTold := ⟨_, PySem.W.mg_of X G ca8, (isTbl_cons cx0 E0 pq0_NotTold (isTbl_cons cx1 E1 pq1_NotTold (isTbl_cons cx2 E2 pq2_NotTold (isTbl_cons cx3 E3 pq3_NotTold (isTbl_cons cx4 E4 pq4_NotTold (isTbl_cons cx5 E5 pq5_NotTold (isTbl_cons cx6 E6 pq6_NotTold (isTbl_cons cx7 E7 pq7_NotTold (isTbl_cons cx8 E8 pq8_NotTold (isTbl_cons cx9 E9 pq9_NotTold (isTbl_cons cx10 E10 pq10_NotTold (isTbl_cons cx11 E11 pq11_NotTold (isTbl_cons cx12 E12 pq12_NotTold isTbl_nil)))))))))))))⟩
  have q_TooMany : AskC K mg "TooMany" tb_TooMany := ⟨_, PySem.W.mg_of X G ca11, (isTbl_cons cx0 E0 pq0_TooMany (isTbl_cons cx1 E1 pq1_TooMany (isTbl_cons cx2 E2 pq2_TooMany (isTbl_cons cx3 E3 pq3_TooMany (isTbl_cons cx4 E4 pq4_TooMany (isTbl_cons cx5 E5 pq5_TooMany (isTbl_cons cx6 E6 pq6_TooMany (isTbl_cons cx7 E7 pq7_TooMany (isTbl_cons cx8 E8 pq8_TooMany (isTbl_cons cx9 E9 pq9_TooMany (isTbl_cons cx10 E10 pq10_TooMany (isTbl_cons cx11 E11 pq11_TooMany (isTbl_cons cx12 E12 pq12_TooMany isTbl_nil)))))))))))))⟩
  have q_Clash : AskC K mg "Clash" tb_Clash := ⟨_, PySem.W.mg_of X G ca4, (isTbl_cons cx0 E0 pq0_Clash (isTbl_cons cx1 E1 pq1_Clash (isTbl_cons cx2 E2 pq2_Clash (isTbl_cons cx3 E3 pq3_Clash (isTbl_cons cx4 E4 pq4_Clash (isTbl_cons cx5 E5 pq5_Clash (isTbl_cons cx6 E6 pq6_Clash (isTbl_cons cx7 E7 pq7_Clash (isTbl_cons cx8 E8 pq8_Clash (isTbl_cons cx9 E9 pq9_Clash (isTbl_cons cx10 E10 pq10_Clash (isTbl_cons cx11 E11 pq11_Clash (isTbl_cons cx12 E12 pq12_Clash isTbl_nil)))))))))))))⟩
  have q_BadRide : AskC K mg "BadRide" tb_BadRide := ⟨_, PySem.W.mg_of X G ca1, (isTbl_cons cx0 E0 pq0_BadRide (isTbl_cons cx1 E1 pq1_BadRide (isTbl_cons cx2 E2 pq2_BadRide (isTbl_cons cx3 E3 pq3_BadRide (isTbl_cons cx4 E4 pq4_BadRide (isTbl_cons cx5 E5 pq5_BadRide (isTbl_cons cx6 E6 pq6_BadRide (isTbl_cons cx7 E7 pq7_BadRide (isTbl_cons cx8 E8 pq8_BadRide (isTbl_cons cx9 E9 pq9_BadRide (isTbl_cons cx10 E10 pq10_BadRide (isTbl_cons cx11 E11 pq11_BadRide (isTbl_cons cx12 E12 pq12_BadRide isTbl_nil)))))))))))))⟩
  have q_BadNeed : AskC K mg "BadNeed" tb_BadNeed := ⟨_, PySem.W.mg_of X G ca0, (isTbl_cons cx0 E0 pq0_BadNeed (isTbl_cons cx1 E1 pq1_BadNeed (isTbl_cons cx2 E2 pq2_BadNeed (isTbl_cons cx3 E3 pq3_BadNeed (isTbl_cons cx4 E4 pq4_BadNeed (isTbl_cons cx5 E5 pq5_BadNeed (isTbl_cons cx6 E6 pq6_BadNeed (isTbl_cons cx7 E7 pq7_BadNeed (isTbl_cons cx8 E8 pq8_BadNeed (isTbl_cons cx9 E9 pq9_BadNeed (isTbl_cons cx10 E10 pq10_BadNeed (isTbl_cons cx11 E11 pq11_BadNeed (isTbl_cons cx12 E12 pq12_BadNeed isTbl_nil)))))))))))))⟩
  have q_NoTicket : AskC K mg "NoTicket" tb_NoTicket := ⟨_, PySem.W.mg_of X G ca7, (isTbl_cons cx0 E0 pq0_NoTicket (isTbl_cons cx1 E1 pq1_NoTicket (isTbl_cons cx2 E2 pq2_NoTicket (isTbl_cons cx3 E3 pq3_NoTicket (isTbl_cons cx4 E4 pq4_NoTicket (isTbl_cons cx5 E5 pq5_NoTicket (isTbl_cons cx6 E6 pq6_NoTicket (isTbl_cons cx7 E7 pq7_NoTicket (isTbl_cons cx8 E8 pq8_NoTicket (isTbl_cons cx9 E9 pq9_NoTicket (isTbl_cons cx10 E10 pq10_NoTicket (isTbl_cons cx11 E11 pq11_NoTicket (isTbl_cons cx12 E12 pq12_NoTicket isTbl_nil)))))))))))))⟩
  have q_NoRide : AskC K mg "NoRide" tb_NoRide := ⟨_, PySem.W.mg_of X G ca6, (isTbl_cons cx0 E0 pq0_NoRide (isTbl_cons cx1 E1 pq1_NoRide (isTbl_cons cx2 E2 pq2_NoRide (isTbl_cons cx3 E3 pq3_NoRide (isTbl_cons cx4 E4 pq4_NoRide (isTbl_cons cx5 E5 pq5_NoRide (isTbl_cons cx6 E6 pq6_NoRide (isTbl_cons cx7 E7 pq7_NoRide (isTbl_cons cx8 E8 pq8_NoRide (isTbl_cons cx9 E9 pq9_NoRide (isTbl_cons cx10 E10 pq10_NoRide (isTbl_cons cx11 E11 pq11_NoRide (isTbl_cons cx12 E12 pq12_NoRide isTbl_nil)))))))))))))⟩
  have q_NoDeed : AskC K mg "NoDeed" tb_NoDeed := ⟨_, PySem.W.mg_of X G ca5, (isTbl_cons cx0 E0 pq0_NoDeed (isTbl_cons cx1 E1 pq1_NoDeed (isTbl_cons cx2 E2 pq2_NoDeed (isTbl_cons cx3 E3 pq3_NoDeed (isTbl_cons cx4 E4 pq4_NoDeed (isTbl_cons cx5 E5 pq5_NoDeed (isTbl_cons cx6 E6 pq6_NoDeed (isTbl_cons cx7 E7 pq7_NoDeed (isTbl_cons cx8 E8 pq8_NoDeed (isTbl_cons cx9 E9 pq9_NoDeed (isTbl_cons cx10 E10 pq10_NoDeed (isTbl_cons cx11 E11 pq11_NoDeed (isTbl_cons cx12 E12 pq12_NoDeed isTbl_nil)))))))))))))⟩
  have q_OtherWindows : AskC K mg "OtherWindows" tb_OtherWindows := ⟨_, PySem.W.mg_of X G ca9, (isTbl_cons cx0 E0 pq0_OtherWindows (isTbl_cons cx1 E1 pq1_OtherWindows (isTbl_cons cx2 E2 pq2_OtherWindows (isTbl_cons cx3 E3 pq3_OtherWindows (isTbl_cons cx4 E4 pq4_OtherWindows (isTbl_cons cx5 E5 pq5_OtherWindows (isTbl_cons cx6 E6 pq6_OtherWindows (isTbl_cons cx7 E7 pq7_OtherWindows (isTbl_cons cx8 E8 pq8_OtherWindows (isTbl_cons cx9 E9 pq9_OtherWindows (isTbl_cons cx10 E10 pq10_OtherWindows (isTbl_cons cx11 E11 pq11_OtherWindows (isTbl_cons cx12 E12 pq12_OtherWindows isTbl_nil)))))))))))))⟩
  have q_BadSplit : AskC K mg "BadSplit" tb_BadSplit := ⟨_, PySem.W.mg_of X G ca3, (isTbl_cons cx0 E0 pq0_BadSplit (isTbl_cons cx1 E1 pq1_BadSplit (isTbl_cons cx2 E2 pq2_BadSplit (isTbl_cons cx3 E3 pq3_BadSplit (isTbl_cons cx4 E4 pq4_BadSplit (isTbl_cons cx5 E5 pq5_BadSplit (isTbl_cons cx6 E6 pq6_BadSplit (isTbl_cons cx7 E7 pq7_BadSplit (isTbl_cons cx8 E8 pq8_BadSplit (isTbl_cons cx9 E9 pq9_BadSplit (isTbl_cons cx10 E10 pq10_BadSplit (isTbl_cons cx11 E11 pq11_BadSplit (isTbl_cons cx12 E12 pq12_BadSplit isTbl_nil)))))))))))))⟩
  have q_ValueError : IsTbl K (.type "ValueError") tb_ValueError := (isTbl_cons cx0 E0 pq0_ValueError (isTbl_cons cx1 E1 pq1_ValueError (isTbl_cons cx2 E2 pq2_ValueError (isTbl_cons cx3 E3 pq3_ValueError (isTbl_cons cx4 E4 pq4_ValueError (isTbl_cons cx5 E5 pq5_ValueError (isTbl_cons cx6 E6 pq6_ValueError (isTbl_cons cx7 E7 pq7_ValueError (isTbl_cons cx8 E8 pq8_ValueError (isTbl_cons cx9 E9 pq9_ValueError (isTbl_cons cx10 E10 pq10_ValueError (isTbl_cons cx11 E11 pq11_ValueError (isTbl_cons cx12 E12 pq12_ValueError isTbl_nil)))))))))))))
  have w_FareError : TakeC K mg "FareError" tb_FareError := ⟨_, PySem.W.mg_of X G ca13, (tblOk_cons cx0 pw0_FareError (tblOk_cons cx1 pw1_FareError (tblOk_cons cx2 pw2_FareError (tblOk_cons cx3 pw3_FareError (tblOk_cons cx4 pw4_FareError (tblOk_cons cx5 pw5_FareError (tblOk_cons cx6 pw6_FareError (tblOk_cons cx7 pw7_FareError (tblOk_cons cx8 pw8_FareError (tblOk_cons cx9 pw9_FareError (tblOk_cons cx10 pw10_FareError (tblOk_cons cx11 pw11_FareError (tblOk_cons cx12 pw12_FareError tblOk_nil)))))))))))))⟩
  have f_row : FldOk K rz "row" := (fldOk_cons cx0 E0 cf0_row (fldOk_cons cx1 E1 cf1_row (fldOk_cons cx2 E2 cf2_row (fldOk_cons cx3 E3 cf3_row (fldOk_cons cx4 E4 cf4_row (fldOk_cons cx5 E5 cf5_row (fldOk_cons cx6 E6 cf6_row (fldOk_cons cx7 E7 cf7_row (fldOk_cons cx8 E8 cf8_row (fldOk_cons cx9 E9 cf9_row (fldOk_cons cx10 E10 cf10_row (fldOk_cons cx11 E11 cf11_row (fldOk_cons cx12 E12 cf12_row fldOk_nil)))))))))))))
  have f_word : FldOk K rz "word" := (fldOk_cons cx0 E0 cf0_word (fldOk_cons cx1 E1 cf1_word (fldOk_cons cx2 E2 cf2_word (fldOk_cons cx3 E3 cf3_word (fldOk_cons cx4 E4 cf4_word (fldOk_cons cx5 E5 cf5_word (fldOk_cons cx6 E6 cf6_word (fldOk_cons cx7 E7 cf7_word (fldOk_cons cx8 E8 cf8_word (fldOk_cons cx9 E9 cf9_word (fldOk_cons cx10 E10 cf10_word (fldOk_cons cx11 E11 cf11_word (fldOk_cons cx12 E12 cf12_word fldOk_nil)))))))))))))
  have f_limit : FldOk K rz "limit" := (fldOk_cons cx0 E0 cf0_limit (fldOk_cons cx1 E1 cf1_limit (fldOk_cons cx2 E2 cf2_limit (fldOk_cons cx3 E3 cf3_limit (fldOk_cons cx4 E4 cf4_limit (fldOk_cons cx5 E5 cf5_limit (fldOk_cons cx6 E6 cf6_limit (fldOk_cons cx7 E7 cf7_limit (fldOk_cons cx8 E8 cf8_limit (fldOk_cons cx9 E9 cf9_limit (fldOk_cons cx10 E10 cf10_limit (fldOk_cons cx11 E11 cf11_limit (fldOk_cons cx12 E12 cf12_limit fldOk_nil)))))))))))))
  have f_second : FldOk K rz "second" := (fldOk_cons cx0 E0 cf0_second (fldOk_cons cx1 E1 cf1_second (fldOk_cons cx2 E2 cf2_second (fldOk_cons cx3 E3 cf3_second (fldOk_cons cx4 E4 cf4_second (fldOk_cons cx5 E5 cf5_second (fldOk_cons cx6 E6 cf6_second (fldOk_cons cx7 E7 cf7_second (fldOk_cons cx8 E8 cf8_second (fldOk_cons cx9 E9 cf9_second (fldOk_cons cx10 E10 cf10_second (fldOk_cons cx11 E11 cf11_second (fldOk_cons cx12 E12 cf12_second fldOk_nil)))))))))))))
  have f_first : FldOk K rz "first" := (fldOk_cons cx0 E0 cf0_first (fldOk_cons cx1 E1 cf1_first (fldOk_cons cx2 E2 cf2_first (fldOk_cons cx3 E3 cf3_first (fldOk_cons cx4 E4 cf4_first (fldOk_cons cx5 E5 cf5_first (fldOk_cons cx6 E6 cf6_first (fldOk_cons cx7 E7 cf7_first (fldOk_cons cx8 E8 cf8_first (fldOk_cons cx9 E9 cf9_first (fldOk_cons cx10 E10 cf10_first (fldOk_cons cx11 E11 cf11_first (fldOk_cons cx12 E12 cf12_first fldOk_nil)))))))))))))
  have f_leg : FldOk K rz "leg" := (fldOk_cons cx0 E0 cf0_leg (fldOk_cons cx1 E1 cf1_leg (fldOk_cons cx2 E2 cf2_leg (fldOk_cons cx3 E3 cf3_leg (fldOk_cons cx4 E4 cf4_leg (fldOk_cons cx5 E5 cf5_leg (fldOk_cons cx6 E6 cf6_leg (fldOk_cons cx7 E7 cf7_leg (fldOk_cons cx8 E8 cf8_leg (fldOk_cons cx9 E9 cf9_leg (fldOk_cons cx10 E10 cf10_leg (fldOk_cons cx11 E11 cf11_leg (fldOk_cons cx12 E12 cf12_leg fldOk_nil)))))))))))))
  have f_need : FldOk K rz "need" := (fldOk_cons cx0 E0 cf0_need (fldOk_cons cx1 E1 cf1_need (fldOk_cons cx2 E2 cf2_need (fldOk_cons cx3 E3 cf3_need (fldOk_cons cx4 E4 cf4_need (fldOk_cons cx5 E5 cf5_need (fldOk_cons cx6 E6 cf6_need (fldOk_cons cx7 E7 cf7_need (fldOk_cons cx8 E8 cf8_need (fldOk_cons cx9 E9 cf9_need (fldOk_cons cx10 E10 cf10_need (fldOk_cons cx11 E11 cf11_need (fldOk_cons cx12 E12 cf12_need fldOk_nil)))))))))))))
  have f_ride : FldOk K rz "ride" := (fldOk_cons cx0 E0 cf0_ride (fldOk_cons cx1 E1 cf1_ride (fldOk_cons cx2 E2 cf2_ride (fldOk_cons cx3 E3 cf3_ride (fldOk_cons cx4 E4 cf4_ride (fldOk_cons cx5 E5 cf5_ride (fldOk_cons cx6 E6 cf6_ride (fldOk_cons cx7 E7 cf7_ride (fldOk_cons cx8 E8 cf8_ride (fldOk_cons cx9 E9 cf9_ride (fldOk_cons cx10 E10 cf10_ride (fldOk_cons cx11 E11 cf11_ride (fldOk_cons cx12 E12 cf12_ride fldOk_nil)))))))))))))
  have f_number : FldOk K rz "number" := (fldOk_cons cx0 E0 cf0_number (fldOk_cons cx1 E1 cf1_number (fldOk_cons cx2 E2 cf2_number (fldOk_cons cx3 E3 cf3_number (fldOk_cons cx4 E4 cf4_number (fldOk_cons cx5 E5 cf5_number (fldOk_cons cx6 E6 cf6_number (fldOk_cons cx7 E7 cf7_number (fldOk_cons cx8 E8 cf8_number (fldOk_cons cx9 E9 cf9_number (fldOk_cons cx10 E10 cf10_number (fldOk_cons cx11 E11 cf11_number (fldOk_cons cx12 E12 cf12_number fldOk_nil)))))))))))))
  have c__law_cell := ok__law_cell (P := l.prog) (w := w) (K := K) (mg := mg) (base := base) F0 b0 (PySem.W.mg_of X G a0) m_int m_len
  have c__law_draws := ok__law_draws (P := l.prog) (w := w) (K := K) (mg := mg) (base := base) F1 b1 (PySem.W.mg_of X G a1) m_int m_len m_range
  have c__law_error := ok__law_error (P := l.prog) (w := w) (K := K) (mg := mg) (base := base) F2 b2 (PySem.W.mg_of X G a2) m_ValueError m_isinstance m_tuple q_BadNeed q_BadRide q_BadRow q_BadSplit q_Clash q_NoDeed q_NoRide q_NoTicket q_NotTold q_OtherWindows q_OutOfOrder q_TooMany q_TwiceTold q_ValueError f_first f_leg f_limit f_need f_number f_ride f_row f_second f_word
  have h__law_error := okS__law_error (P := l.prog) (w := w) (K := K) (mg := mg) (base := base) F2 b2 (PySem.W.mg_of X G a2) m_ValueError m_isinstance m_tuple q_BadNeed q_BadRide q_BadRow q_BadSplit q_Clash q_NoDeed q_NoRide q_NoTicket q_NotTold q_OtherWindows q_OutOfOrder q_TooMany q_TwiceTold q_ValueError f_first f_leg f_limit f_need f_number f_ride f_row f_second f_word
  have c__law_limits := ok__law_limits (P := l.prog) (w := w) (K := K) (mg := mg) (base := base) F3 b3 (PySem.W.mg_of X G a3) k_MOST_AMOUNT k_MOST_CARRIERS k_MOST_DEEDS k_MOST_DEPTH k_MOST_LEGS k_MOST_LINES k_MOST_LINE_STOPS k_MOST_MEMBERS k_MOST_NEEDS k_MOST_PRICE k_MOST_RIDES k_MOST_RING k_MOST_RUNS k_MOST_STEP k_MOST_STOPS k_MOST_TICKETS k_MOST_TIME k_MOST_WINDOWS
  have c__law_names := ok__law_names (P := l.prog) (w := w) (K := K) (mg := mg) (base := base) F4 b4 (PySem.W.mg_of X G a4) m_int m_range m_str c__law_draws
  have c__law_raise := ok__law_raise (P := l.prog) (w := w) (K := K) (mg := mg) (base := base) F5 b5 (PySem.W.mg_of X G a5) x_BadNeed x_BadRide x_BadRow x_BadSplit x_Clash x_NoDeed x_NoRide x_NoTicket x_NotTold x_OtherWindows x_OutOfOrder x_TooMany x_TwiceTold
  have c__law_caught := ok__law_caught (P := l.prog) (w := w) (K := K) (mg := mg) (base := base) F6 b6 (PySem.W.mg_of X G a6) w_FareError h__law_error c__law_raise
  have c__law_same := ok__law_same (P := l.prog) (w := w) (K := K) (mg := mg) (base := base) F7 b7 (PySem.W.mg_of X G a7) m_bool m_int m_isinstance m_len m_range m_str m_tuple 6
  exact ok_law (P := l.prog) (w := w) (K := K) (mg := mg) (base := base) F8 m_range c__law_caught c__law_cell c__law_draws c__law_limits c__law_names c__law_same
end K02
open PySem PySem.W PyProof.Rows
set_option maxHeartbeats 0 in
theorem PySem.Challenge.cw_roundsfare_k02_errors_and_limits_holds : PySem.Challenge.rw_roundsfare_k02_errors_and_limits.Holds := by
  w_on; o_law; k_head; (case hw => w_witness2)
  k_fill
  refine L2.walk_of (l := PySem.Challenge.rw_roundsfare_k02_errors_and_limits) (n := 63) (k := 7) (x := "script") (CX := fun w => L2.CX (PySem.Challenge.rw_roundsfare_k02_errors_and_limits).prog w) (sp := fun w => DL.spL _) rfl (by decide) rfl ⟨rfl, by decide, by decide⟩ (fun w h Y => PySem.W.kIn_of Y) ?F (fun _ _ a ns hl _ hS => ⟨a, ns, rfl, hS, hl, fun _ => rfl⟩) (fun _ _ _ _ _ h => DL.cx_no h)
  case F =>
    intro w mg fa h KX G hmg
    refine' DL.law_end (K02.all_mk (l := PySem.Challenge.rw_roundsfare_k02_errors_and_limits) (w := w) KX G hmg ?a0 ?l0 ?c0 ?k0 ?a1 ?l1 ?c1 ?k1 ?a2 ?l2 ?c2 ?k2 ?a3 ?l3 ?c3 ?k3 ?a4 ?l4 ?c4 ?k4 ?a5 ?l5 ?c5 ?k5 ?a6 ?l6 ?c6 ?k6 ?a7 ?l7 ?c7 ?k7 ?a8 ?l8 ?c8 ?k8 ?z_ValueError ?z_bool ?z_int ?z_isinstance ?z_len ?z_range ?z_str ?z_tuple ?y_MOST_AMOUNT ?y_MOST_CARRIERS ?y_MOST_DEEDS ?y_MOST_DEPTH ?y_MOST_LEGS ?y_MOST_LINES ?y_MOST_LINE_STOPS ?y_MOST_MEMBERS ?y_MOST_NEEDS ?y_MOST_PRICE ?y_MOST_RIDES ?y_MOST_RING ?y_MOST_RUNS ?y_MOST_STEP ?y_MOST_STOPS ?y_MOST_TICKETS ?y_MOST_TIME ?y_MOST_WINDOWS ?zz_super ?zz_noc ?zz_top ?zz_sp ?zz_tk ?ca0 ?ca1 ?ca2 ?ca3 ?ca4 ?ca5 ?ca6 ?ca7 ?ca8 ?ca9 ?ca10 ?ca11 ?ca12 ?ca13 ?cx0 ?cl0 ?cr0 ?cs0 ?cb0 ?cT0 ?ck0 ?ci0 ?cj0 ?cm0 ?cn0 ?co0 ?cp0 ?cq0 ?cv0 ?cw0 ?cy0 ?cz0 ?cf0_need ?cf0_row ?cf0_leg ?cf0_first ?cf0_second ?cf0_number ?cf0_ride ?cf0_word ?cf0_limit ?ei0 ?eg0 ?ek0 ?eh0 ?ec0 ?eo0 ?pq0_BadRow ?pq0_OutOfOrder ?pq0_TwiceTold ?pq0_NotTold ?pq0_TooMany ?pq0_Clash ?pq0_BadRide ?pq0_BadNeed ?pq0_NoTicket ?pq0_NoRide ?pq0_NoDeed ?pq0_OtherWindows ?pq0_BadSplit ?pq0_ValueError ?pw0_FareError ?cx1 ?cl1 ?cr1 ?cs1 ?cb1 ?cT1 ?ck1 ?ci1 ?cj1 ?cm1 ?cn1 ?co1 ?cp1 ?cq1 ?cv1 ?cw1 ?cy1 ?cz1 ?cf1_need ?cf1_row ?cf1_leg ?cf1_first ?cf1_second ?cf1_number ?cf1_ride ?cf1_word ?cf1_limit ?ei1 ?eg1 ?ek1 ?eh1 ?ec1 ?eo1 ?pq1_BadRow ?pq1_OutOfOrder ?pq1_TwiceTold ?pq1_NotTold ?pq1_TooMany ?pq1_Clash ?pq1_BadRide ?pq1_BadNeed ?pq1_NoTicket ?pq1_NoRide ?pq1_NoDeed ?pq1_OtherWindows ?pq1_BadSplit ?pq1_ValueError ?pw1_FareError ?cx2 ?cl2 ?cr2 ?cs2 ?cb2 ?cT2 ?ck2 ?ci2 ?cj2 ?cm2 ?cn2 ?co2 ?cp2 ?cq2 ?cv2 ?cw2 ?cy2 ?cz2 ?cf2_need ?cf2_row ?cf2_leg ?cf2_first ?cf2_second ?cf2_number ?cf2_ride ?cf2_word ?cf2_limit ?ei2 ?eg2 ?ek2 ?eh2 ?ec2 ?eo2 ?pq2_BadRow ?pq2_OutOfOrder ?pq2_TwiceTold ?pq2_NotTold ?pq2_TooMany ?pq2_Clash ?pq2_BadRide ?pq2_BadNeed ?pq2_NoTicket ?pq2_NoRide ?pq2_NoDeed ?pq2_OtherWindows ?pq2_BadSplit ?pq2_ValueError ?pw2_FareError ?cx3 ?cl3 ?cr3 ?cs3 ?cb3 ?cT3 ?ck3 ?ci3 ?cj3 ?cm3 ?cn3 ?co3 ?cp3 ?cq3 ?cv3 ?cw3 ?cy3 ?cz3 ?cf3_need ?cf3_row ?cf3_leg ?cf3_first ?cf3_second ?cf3_number ?cf3_ride ?cf3_word ?cf3_limit ?ei3 ?eg3 ?ek3 ?eh3 ?ec3 ?eo3 ?pq3_BadRow ?pq3_OutOfOrder ?pq3_TwiceTold ?pq3_NotTold ?pq3_TooMany ?pq3_Clash ?pq3_BadRide ?pq3_BadNeed ?pq3_NoTicket ?pq3_NoRide ?pq3_NoDeed ?pq3_OtherWindows ?pq3_BadSplit ?pq3_ValueError ?pw3_FareError ?cx4 ?cl4 ?cr4 ?cs4 ?cb4 ?cT4 ?ck4 ?ci4 ?cj4 ?cm4 ?cn4 ?co4 ?cp4 ?cq4 ?cv4 ?cw4 ?cy4 ?cz4 ?cf4_need ?cf4_row ?cf4_leg ?cf4_first ?cf4_second ?cf4_number ?cf4_ride ?cf4_word ?cf4_limit ?ei4 ?eg4 ?ek4 ?eh4 ?ec4 ?eo4 ?pq4_BadRow ?pq4_OutOfOrder ?pq4_TwiceTold ?pq4_NotTold ?pq4_TooMany ?pq4_Clash ?pq4_BadRide ?pq4_BadNeed ?pq4_NoTicket ?pq4_NoRide ?pq4_NoDeed ?pq4_OtherWindows ?pq4_BadSplit ?pq4_ValueError ?pw4_FareError ?cx5 ?cl5 ?cr5 ?cs5 ?cb5 ?cT5 ?ck5 ?ci5 ?cj5 ?cm5 ?cn5 ?co5 ?cp5 ?cq5 ?cv5 ?cw5 ?cy5 ?cz5 ?cf5_need ?cf5_row ?cf5_leg ?cf5_first ?cf5_second ?cf5_number ?cf5_ride ?cf5_word ?cf5_limit ?ei5 ?eg5 ?ek5 ?eh5 ?ec5 ?eo5 ?pq5_BadRow ?pq5_OutOfOrder ?pq5_TwiceTold ?pq5_NotTold ?pq5_TooMany ?pq5_Clash ?pq5_BadRide ?pq5_BadNeed ?pq5_NoTicket ?pq5_NoRide ?pq5_NoDeed ?pq5_OtherWindows ?pq5_BadSplit ?pq5_ValueError ?pw5_FareError ?cx6 ?cl6 ?cr6 ?cs6 ?cb6 ?cT6 ?ck6 ?ci6 ?cj6 ?cm6 ?cn6 ?co6 ?cp6 ?cq6 ?cv6 ?cw6 ?cy6 ?cz6 ?cf6_need ?cf6_row ?cf6_leg ?cf6_first ?cf6_second ?cf6_number ?cf6_ride ?cf6_word ?cf6_limit ?ei6 ?eg6 ?ek6 ?eh6 ?ec6 ?eo6 ?pq6_BadRow ?pq6_OutOfOrder ?pq6_TwiceTold ?pq6_NotTold ?pq6_TooMany ?pq6_Clash ?pq6_BadRide ?pq6_BadNeed ?pq6_NoTicket ?pq6_NoRide ?pq6_NoDeed ?pq6_OtherWindows ?pq6_BadSplit ?pq6_ValueError ?pw6_FareError ?cx7 ?cl7 ?cr7 ?cs7 ?cb7 ?cT7 ?ck7 ?ci7 ?cj7 ?cm7 ?cn7 ?co7 ?cp7 ?cq7 ?cv7 ?cw7 ?cy7 ?cz7 ?cf7_need ?cf7_row ?cf7_leg ?cf7_first ?cf7_second ?cf7_number ?cf7_ride ?cf7_word ?cf7_limit ?ei7 ?eg7 ?ek7 ?eh7 ?ec7 ?eo7 ?pq7_BadRow ?pq7_OutOfOrder ?pq7_TwiceTold ?pq7_NotTold ?pq7_TooMany ?pq7_Clash ?pq7_BadRide ?pq7_BadNeed ?pq7_NoTicket ?pq7_NoRide ?pq7_NoDeed ?pq7_OtherWindows ?pq7_BadSplit ?pq7_ValueError ?pw7_FareError ?cx8 ?cl8 ?cr8 ?cs8 ?cb8 ?cT8 ?ck8 ?ci8 ?cj8 ?cm8 ?cn8 ?co8 ?cp8 ?cq8 ?cv8 ?cw8 ?cy8 ?cz8 ?cf8_need ?cf8_row ?cf8_leg ?cf8_first ?cf8_second ?cf8_number ?cf8_ride ?cf8_word ?cf8_limit ?ei8 ?eg8 ?ek8 ?eh8 ?ec8 ?eo8 ?pq8_BadRow ?pq8_OutOfOrder ?pq8_TwiceTold ?pq8_NotTold ?pq8_TooMany ?pq8_Clash ?pq8_BadRide ?pq8_BadNeed ?pq8_NoTicket ?pq8_NoRide ?pq8_NoDeed ?pq8_OtherWindows ?pq8_BadSplit ?pq8_ValueError ?pw8_FareError ?cx9 ?cl9 ?cr9 ?cs9 ?cb9 ?cT9 ?ck9 ?ci9 ?cj9 ?cm9 ?cn9 ?co9 ?cp9 ?cq9 ?cv9 ?cw9 ?cy9 ?cz9 ?cf9_need ?cf9_row ?cf9_leg ?cf9_first ?cf9_second ?cf9_number ?cf9_ride ?cf9_word ?cf9_limit ?ei9 ?eg9 ?ek9 ?eh9 ?ec9 ?eo9 ?pq9_BadRow ?pq9_OutOfOrder ?pq9_TwiceTold ?pq9_NotTold ?pq9_TooMany ?pq9_Clash ?pq9_BadRide ?pq9_BadNeed ?pq9_NoTicket ?pq9_NoRide ?pq9_NoDeed ?pq9_OtherWindows ?pq9_BadSplit ?pq9_ValueError ?pw9_FareError ?cx10 ?cl10 ?cr10 ?cs10 ?cb10 ?cT10 ?ck10 ?ci10 ?cj10 ?cm10 ?cn10 ?co10 ?cp10 ?cq10 ?cv10 ?cw10 ?cy10 ?cz10 ?cf10_need ?cf10_row ?cf10_leg ?cf10_first ?cf10_second ?cf10_number ?cf10_ride ?cf10_word ?cf10_limit ?ei10 ?eg10 ?ek10 ?eh10 ?ec10 ?eo10 ?pq10_BadRow ?pq10_OutOfOrder ?pq10_TwiceTold ?pq10_NotTold ?pq10_TooMany ?pq10_Clash ?pq10_BadRide ?pq10_BadNeed ?pq10_NoTicket ?pq10_NoRide ?pq10_NoDeed ?pq10_OtherWindows ?pq10_BadSplit ?pq10_ValueError ?pw10_FareError ?cx11 ?cl11 ?cr11 ?cs11 ?cb11 ?cT11 ?ck11 ?ci11 ?cj11 ?cm11 ?cn11 ?co11 ?cp11 ?cq11 ?cv11 ?cw11 ?cy11 ?cz11 ?cf11_need ?cf11_row ?cf11_leg ?cf11_first ?cf11_second ?cf11_number ?cf11_ride ?cf11_word ?cf11_limit ?ei11 ?eg11 ?ek11 ?eh11 ?ec11 ?eo11 ?pq11_BadRow ?pq11_OutOfOrder ?pq11_TwiceTold ?pq11_NotTold ?pq11_TooMany ?pq11_Clash ?pq11_BadRide ?pq11_BadNeed ?pq11_NoTicket ?pq11_NoRide ?pq11_NoDeed ?pq11_OtherWindows ?pq11_BadSplit ?pq11_ValueError ?pw11_FareError ?cx12 ?cl12 ?cr12 ?cs12 ?cb12 ?cT12 ?ck12 ?ci12 ?cj12 ?cm12 ?cn12 ?co12 ?cp12 ?cq12 ?cv12 ?cw12 ?cy12 ?cz12 ?cf12_need ?cf12_row ?cf12_leg ?cf12_first ?cf12_second ?cf12_number ?cf12_ride ?cf12_word ?cf12_limit ?ei12 ?eg12 ?ek12 ?eh12 ?ec12 ?eo12 ?pq12_BadRow ?pq12_OutOfOrder ?pq12_TwiceTold ?pq12_NotTold ?pq12_TooMany ?pq12_Clash ?pq12_BadRide ?pq12_BadNeed ?pq12_NoTicket ?pq12_NoRide ?pq12_NoDeed ?pq12_OtherWindows ?pq12_BadSplit ?pq12_ValueError ?pw12_FareError) K02.law_true
    (case a0 => k_is); (case l0 => k_is); (case c0 => k_is); (case k0 => k_is); (case a1 => k_is); (case l1 => k_is); (case c1 => k_is); (case k1 => k_is); (case a2 => k_is); (case l2 => k_is); (case c2 => k_is); (case k2 => k_is); (case a3 => k_is); (case l3 => k_is); (case c3 => k_is); (case k3 => k_is); (case a4 => k_is); (case l4 => k_is); (case c4 => k_is); (case k4 => k_is); (case a5 => k_is); (case l5 => k_is); (case c5 => k_is); (case k5 => k_is); (case a6 => k_is); (case l6 => k_is); (case c6 => k_is); (case k6 => k_is); (case a7 => k_is); (case l7 => k_is); (case c7 => k_is); (case k7 => k_is); (case a8 => k_is); (case l8 => k_is); (case c8 => k_is); (case k8 => k_is); (case z_ValueError => k_is); (case z_bool => k_is); (case z_int => k_is); (case z_isinstance => k_is); (case z_len => k_is); (case z_range => k_is); (case z_str => k_is); (case z_tuple => k_is); (case y_MOST_AMOUNT => k_is); (case y_MOST_CARRIERS => k_is); (case y_MOST_DEEDS => k_is); (case y_MOST_DEPTH => k_is); (case y_MOST_LEGS => k_is); (case y_MOST_LINES => k_is); (case y_MOST_LINE_STOPS => k_is); (case y_MOST_MEMBERS => k_is); (case y_MOST_NEEDS => k_is); (case y_MOST_PRICE => k_is); (case y_MOST_RIDES => k_is); (case y_MOST_RING => k_is); (case y_MOST_RUNS => k_is); (case y_MOST_STEP => k_is); (case y_MOST_STOPS => k_is); (case y_MOST_TICKETS => k_is); (case y_MOST_TIME => k_is); (case y_MOST_WINDOWS => k_is); (case zz_super => k_is); (case zz_noc => k_is); (case zz_top => kernel_rfl); (case zz_sp => k_is); (case zz_tk => k_is); (case ca0 => k_is); (case ca1 => k_is); (case ca2 => k_is); (case ca3 => k_is); (case ca4 => k_is); (case ca5 => k_is); (case ca6 => k_is); (case ca7 => k_is); (case ca8 => k_is); (case ca9 => k_is); (case ca10 => k_is); (case ca11 => k_is); (case ca12 => k_is); (case ca13 => k_is); (case cx0 => kernel_rfl); (case cl0 => k_is); (case cr0 => kernel_rfl); (case cs0 => k_is); (case cb0 => k_is); (case cT0 => k_is); (case ck0 => k_is); (case ci0 => k_is); (case cj0 => k_is); (case cm0 => k_is); (case cn0 => k_is); (case co0 => k_is); (case cp0 => exact rfl); (case cq0 => kernel_rfl); (case cv0 => k_is); (case cw0 => kernel_rfl); (case cy0 => k_is); (case cz0 => k_is); (case cf0_need => k_is); (case cf0_row => k_is); (case cf0_leg => k_is); (case cf0_first => k_is); (case cf0_second => k_is); (case cf0_number => k_is); (case cf0_ride => k_is); (case cf0_word => k_is); (case cf0_limit => k_is); (case ei0 => kernel_rfl); (case eg0 => k_is); (case ek0 => k_is); (case eh0 => k_is); (case ec0 => k_is); (case eo0 => k_is); (case pq0_BadRow => kernel_rfl); (case pq0_OutOfOrder => kernel_rfl); (case pq0_TwiceTold => kernel_rfl); (case pq0_NotTold => kernel_rfl); (case pq0_TooMany => kernel_rfl); (case pq0_Clash => kernel_rfl); (case pq0_BadRide => kernel_rfl); (case pq0_BadNeed => kernel_rfl); (case pq0_NoTicket => kernel_rfl); (case pq0_NoRide => kernel_rfl); (case pq0_NoDeed => kernel_rfl); (case pq0_OtherWindows => kernel_rfl); (case pq0_BadSplit => kernel_rfl); (case pq0_ValueError => kernel_rfl); (case pw0_FareError => kernel_rfl); (case cx1 => kernel_rfl); (case cl1 => k_is); (case cr1 => kernel_rfl); (case cs1 => k_is); (case cb1 => k_is); (case cT1 => k_is); (case ck1 => k_is); (case ci1 => k_is); (case cj1 => k_is); (case cm1 => k_is); (case cn1 => k_is); (case co1 => k_is); (case cp1 => exact rfl); (case cq1 => kernel_rfl); (case cv1 => k_is); (case cw1 => kernel_rfl); (case cy1 => k_is); (case cz1 => k_is); (case cf1_need => k_is); (case cf1_row => k_is); (case cf1_leg => k_is); (case cf1_first => k_is); (case cf1_second => k_is); (case cf1_number => k_is); (case cf1_ride => k_is); (case cf1_word => k_is); (case cf1_limit => k_is); (case ei1 => kernel_rfl); (case eg1 => k_is); (case ek1 => k_is); (case eh1 => k_is); (case ec1 => k_is); (case eo1 => k_is); (case pq1_BadRow => kernel_rfl); (case pq1_OutOfOrder => kernel_rfl); (case pq1_TwiceTold => kernel_rfl); (case pq1_NotTold => kernel_rfl); (case pq1_TooMany => kernel_rfl); (case pq1_Clash => kernel_rfl); (case pq1_BadRide => kernel_rfl); (case pq1_BadNeed => kernel_rfl); (case pq1_NoTicket => kernel_rfl); (case pq1_NoRide => kernel_rfl); (case pq1_NoDeed => kernel_rfl); (case pq1_OtherWindows => kernel_rfl); (case pq1_BadSplit => kernel_rfl); (case pq1_ValueError => kernel_rfl); (case pw1_FareError => kernel_rfl); (case cx2 => kernel_rfl); (case cl2 => k_is); (case cr2 => kernel_rfl); (case cs2 => k_is); (case cb2 => k_is); (case cT2 => k_is); (case ck2 => k_is); (case ci2 => k_is); (case cj2 => k_is); (case cm2 => k_is); (case cn2 => k_is); (case co2 => k_is); (case cp2 => exact rfl); (case cq2 => kernel_rfl); (case cv2 => k_is); (case cw2 => kernel_rfl); (case cy2 => k_is); (case cz2 => k_is); (case cf2_need => k_is); (case cf2_row => k_is); (case cf2_leg => k_is); (case cf2_first => k_is); (case cf2_second => k_is); (case cf2_number => k_is); (case cf2_ride => k_is); (case cf2_word => k_is); (case cf2_limit => k_is); (case ei2 => kernel_rfl); (case eg2 => k_is); (case ek2 => k_is); (case eh2 => k_is); (case ec2 => k_is); (case eo2 => k_is); (case pq2_BadRow => kernel_rfl); (case pq2_OutOfOrder => kernel_rfl); (case pq2_TwiceTold => kernel_rfl); (case pq2_NotTold => kernel_rfl); (case pq2_TooMany => kernel_rfl); (case pq2_Clash => kernel_rfl); (case pq2_BadRide => kernel_rfl); (case pq2_BadNeed => kernel_rfl); (case pq2_NoTicket => kernel_rfl); (case pq2_NoRide => kernel_rfl); (case pq2_NoDeed => kernel_rfl); (case pq2_OtherWindows => kernel_rfl); (case pq2_BadSplit => kernel_rfl); (case pq2_ValueError => kernel_rfl); (case pw2_FareError => kernel_rfl); (case cx3 => kernel_rfl); (case cl3 => k_is); (case cr3 => kernel_rfl); (case cs3 => k_is); (case cb3 => k_is); (case cT3 => k_is); (case ck3 => k_is); (case ci3 => k_is); (case cj3 => k_is); (case cm3 => k_is); (case cn3 => k_is); (case co3 => k_is); (case cp3 => exact rfl); (case cq3 => kernel_rfl); (case cv3 => k_is); (case cw3 => kernel_rfl); (case cy3 => k_is); (case cz3 => k_is); (case cf3_need => k_is); (case cf3_row => k_is); (case cf3_leg => k_is); (case cf3_first => k_is); (case cf3_second => k_is); (case cf3_number => k_is); (case cf3_ride => k_is); (case cf3_word => k_is); (case cf3_limit => k_is); (case ei3 => kernel_rfl); (case eg3 => k_is); (case ek3 => k_is); (case eh3 => k_is); (case ec3 => k_is); (case eo3 => k_is); (case pq3_BadRow => kernel_rfl); (case pq3_OutOfOrder => kernel_rfl); (case pq3_TwiceTold => kernel_rfl); (case pq3_NotTold => kernel_rfl); (case pq3_TooMany => kernel_rfl); (case pq3_Clash => kernel_rfl); (case pq3_BadRide => kernel_rfl); (case pq3_BadNeed => kernel_rfl); (case pq3_NoTicket => kernel_rfl); (case pq3_NoRide => kernel_rfl); (case pq3_NoDeed => kernel_rfl); (case pq3_OtherWindows => kernel_rfl); (case pq3_BadSplit => kernel_rfl); (case pq3_ValueError => kernel_rfl); (case pw3_FareError => kernel_rfl); (case cx4 => kernel_rfl); (case cl4 => k_is); (case cr4 => kernel_rfl); (case cs4 => k_is); (case cb4 => k_is); (case cT4 => k_is); (case ck4 => k_is); (case ci4 => k_is); (case cj4 => k_is); (case cm4 => k_is); (case cn4 => k_is); (case co4 => k_is); (case cp4 => exact rfl); (case cq4 => kernel_rfl); (case cv4 => k_is); (case cw4 => kernel_rfl); (case cy4 => k_is); (case cz4 => k_is); (case cf4_need => k_is); (case cf4_row => k_is); (case cf4_leg => k_is); (case cf4_first => k_is); (case cf4_second => k_is); (case cf4_number => k_is); (case cf4_ride => k_is); (case cf4_word => k_is); (case cf4_limit => k_is); (case ei4 => kernel_rfl); (case eg4 => k_is); (case ek4 => k_is); (case eh4 => k_is); (case ec4 => k_is); (case eo4 => k_is); (case pq4_BadRow => kernel_rfl); (case pq4_OutOfOrder => kernel_rfl); (case pq4_TwiceTold => kernel_rfl); (case pq4_NotTold => kernel_rfl); (case pq4_TooMany => kernel_rfl); (case pq4_Clash => kernel_rfl); (case pq4_BadRide => kernel_rfl); (case pq4_BadNeed => kernel_rfl); (case pq4_NoTicket => kernel_rfl); (case pq4_NoRide => kernel_rfl); (case pq4_NoDeed => kernel_rfl); (case pq4_OtherWindows => kernel_rfl); (case pq4_BadSplit => kernel_rfl); (case pq4_ValueError => kernel_rfl); (case pw4_FareError => kernel_rfl); (case cx5 => kernel_rfl); (case cl5 => k_is); (case cr5 => kernel_rfl); (case cs5 => k_is); (case cb5 => k_is); (case cT5 => k_is); (case ck5 => k_is); (case ci5 => k_is); (case cj5 => k_is); (case cm5 => k_is); (case cn5 => k_is); (case co5 => k_is); (case cp5 => exact rfl); (case cq5 => kernel_rfl); (case cv5 => k_is); (case cw5 => kernel_rfl); (case cy5 => k_is); (case cz5 => k_is); (case cf5_need => k_is); (case cf5_row => k_is); (case cf5_leg => k_is); (case cf5_first => k_is); (case cf5_second => k_is); (case cf5_number => k_is); (case cf5_ride => k_is); (case cf5_word => k_is); (case cf5_limit => k_is); (case ei5 => kernel_rfl); (case eg5 => k_is); (case ek5 => k_is); (case eh5 => k_is); (case ec5 => k_is); (case eo5 => k_is); (case pq5_BadRow => kernel_rfl); (case pq5_OutOfOrder => kernel_rfl); (case pq5_TwiceTold => kernel_rfl); (case pq5_NotTold => kernel_rfl); (case pq5_TooMany => kernel_rfl); (case pq5_Clash => kernel_rfl); (case pq5_BadRide => kernel_rfl); (case pq5_BadNeed => kernel_rfl); (case pq5_NoTicket => kernel_rfl); (case pq5_NoRide => kernel_rfl); (case pq5_NoDeed => kernel_rfl); (case pq5_OtherWindows => kernel_rfl); (case pq5_BadSplit => kernel_rfl); (case pq5_ValueError => kernel_rfl); (case pw5_FareError => kernel_rfl); (case cx6 => kernel_rfl); (case cl6 => k_is); (case cr6 => kernel_rfl); (case cs6 => k_is); (case cb6 => k_is); (case cT6 => k_is); (case ck6 => k_is); (case ci6 => k_is); (case cj6 => k_is); (case cm6 => k_is); (case cn6 => k_is); (case co6 => k_is); (case cp6 => exact rfl); (case cq6 => kernel_rfl); (case cv6 => k_is); (case cw6 => kernel_rfl); (case cy6 => k_is); (case cz6 => k_is); (case cf6_need => k_is); (case cf6_row => k_is); (case cf6_leg => k_is); (case cf6_first => k_is); (case cf6_second => k_is); (case cf6_number => k_is); (case cf6_ride => k_is); (case cf6_word => k_is); (case cf6_limit => k_is); (case ei6 => kernel_rfl); (case eg6 => k_is); (case ek6 => k_is); (case eh6 => k_is); (case ec6 => k_is); (case eo6 => k_is); (case pq6_BadRow => kernel_rfl); (case pq6_OutOfOrder => kernel_rfl); (case pq6_TwiceTold => kernel_rfl); (case pq6_NotTold => kernel_rfl); (case pq6_TooMany => kernel_rfl); (case pq6_Clash => kernel_rfl); (case pq6_BadRide => kernel_rfl); (case pq6_BadNeed => kernel_rfl); (case pq6_NoTicket => kernel_rfl); (case pq6_NoRide => kernel_rfl); (case pq6_NoDeed => kernel_rfl); (case pq6_OtherWindows => kernel_rfl); (case pq6_BadSplit => kernel_rfl); (case pq6_ValueError => kernel_rfl); (case pw6_FareError => kernel_rfl); (case cx7 => kernel_rfl); (case cl7 => k_is); (case cr7 => kernel_rfl); (case cs7 => k_is); (case cb7 => k_is); (case cT7 => k_is); (case ck7 => k_is); (case ci7 => k_is); (case cj7 => k_is); (case cm7 => k_is); (case cn7 => k_is); (case co7 => k_is); (case cp7 => exact rfl); (case cq7 => kernel_rfl); (case cv7 => k_is); (case cw7 => kernel_rfl); (case cy7 => k_is); (case cz7 => k_is); (case cf7_need => k_is); (case cf7_row => k_is); (case cf7_leg => k_is); (case cf7_first => k_is); (case cf7_second => k_is); (case cf7_number => k_is); (case cf7_ride => k_is); (case cf7_word => k_is); (case cf7_limit => k_is); (case ei7 => kernel_rfl); (case eg7 => k_is); (case ek7 => k_is); (case eh7 => k_is); (case ec7 => k_is); (case eo7 => k_is); (case pq7_BadRow => kernel_rfl); (case pq7_OutOfOrder => kernel_rfl); (case pq7_TwiceTold => kernel_rfl); (case pq7_NotTold => kernel_rfl); (case pq7_TooMany => kernel_rfl); (case pq7_Clash => kernel_rfl); (case pq7_BadRide => kernel_rfl); (case pq7_BadNeed => kernel_rfl); (case pq7_NoTicket => kernel_rfl); (case pq7_NoRide => kernel_rfl); (case pq7_NoDeed => kernel_rfl); (case pq7_OtherWindows => kernel_rfl); (case pq7_BadSplit => kernel_rfl); (case pq7_ValueError => kernel_rfl); (case pw7_FareError => kernel_rfl); (case cx8 => kernel_rfl); (case cl8 => k_is); (case cr8 => kernel_rfl); (case cs8 => k_is); (case cb8 => k_is); (case cT8 => k_is); (case ck8 => k_is); (case ci8 => k_is); (case cj8 => k_is); (case cm8 => k_is); (case cn8 => k_is); (case co8 => k_is); (case cp8 => exact rfl); (case cq8 => kernel_rfl); (case cv8 => k_is); (case cw8 => kernel_rfl); (case cy8 => k_is); (case cz8 => k_is); (case cf8_need => k_is); (case cf8_row => k_is); (case cf8_leg => k_is); (case cf8_first => k_is); (case cf8_second => k_is); (case cf8_number => k_is); (case cf8_ride => k_is); (case cf8_word => k_is); (case cf8_limit => k_is); (case ei8 => kernel_rfl); (case eg8 => k_is); (case ek8 => k_is); (case eh8 => k_is); (case ec8 => k_is); (case eo8 => k_is); (case pq8_BadRow => kernel_rfl); (case pq8_OutOfOrder => kernel_rfl); (case pq8_TwiceTold => kernel_rfl); (case pq8_NotTold => kernel_rfl); (case pq8_TooMany => kernel_rfl); (case pq8_Clash => kernel_rfl); (case pq8_BadRide => kernel_rfl); (case pq8_BadNeed => kernel_rfl); (case pq8_NoTicket => kernel_rfl); (case pq8_NoRide => kernel_rfl); (case pq8_NoDeed => kernel_rfl); (case pq8_OtherWindows => kernel_rfl); (case pq8_BadSplit => kernel_rfl); (case pq8_ValueError => kernel_rfl); (case pw8_FareError => kernel_rfl); (case cx9 => kernel_rfl); (case cl9 => k_is); (case cr9 => kernel_rfl); (case cs9 => k_is); (case cb9 => k_is); (case cT9 => k_is); (case ck9 => k_is); (case ci9 => k_is); (case cj9 => k_is); (case cm9 => k_is); (case cn9 => k_is); (case co9 => k_is); (case cp9 => exact rfl); (case cq9 => kernel_rfl); (case cv9 => k_is); (case cw9 => kernel_rfl); (case cy9 => k_is); (case cz9 => k_is); (case cf9_need => k_is); (case cf9_row => k_is); (case cf9_leg => k_is); (case cf9_first => k_is); (case cf9_second => k_is); (case cf9_number => k_is); (case cf9_ride => k_is); (case cf9_word => k_is); (case cf9_limit => k_is); (case ei9 => kernel_rfl); (case eg9 => k_is); (case ek9 => k_is); (case eh9 => k_is); (case ec9 => k_is); (case eo9 => k_is); (case pq9_BadRow => kernel_rfl); (case pq9_OutOfOrder => kernel_rfl); (case pq9_TwiceTold => kernel_rfl); (case pq9_NotTold => kernel_rfl); (case pq9_TooMany => kernel_rfl); (case pq9_Clash => kernel_rfl); (case pq9_BadRide => kernel_rfl); (case pq9_BadNeed => kernel_rfl); (case pq9_NoTicket => kernel_rfl); (case pq9_NoRide => kernel_rfl); (case pq9_NoDeed => kernel_rfl); (case pq9_OtherWindows => kernel_rfl); (case pq9_BadSplit => kernel_rfl); (case pq9_ValueError => kernel_rfl); (case pw9_FareError => kernel_rfl); (case cx10 => kernel_rfl); (case cl10 => k_is); (case cr10 => kernel_rfl); (case cs10 => k_is); (case cb10 => k_is); (case cT10 => k_is); (case ck10 => k_is); (case ci10 => k_is); (case cj10 => k_is); (case cm10 => k_is); (case cn10 => k_is); (case co10 => k_is); (case cp10 => exact rfl); (case cq10 => kernel_rfl); (case cv10 => k_is); (case cw10 => kernel_rfl); (case cy10 => k_is); (case cz10 => k_is); (case cf10_need => k_is); (case cf10_row => k_is); (case cf10_leg => k_is); (case cf10_first => k_is); (case cf10_second => k_is); (case cf10_number => k_is); (case cf10_ride => k_is); (case cf10_word => k_is); (case cf10_limit => k_is); (case ei10 => kernel_rfl); (case eg10 => k_is); (case ek10 => k_is); (case eh10 => k_is); (case ec10 => k_is); (case eo10 => k_is); (case pq10_BadRow => kernel_rfl); (case pq10_OutOfOrder => kernel_rfl); (case pq10_TwiceTold => kernel_rfl); (case pq10_NotTold => kernel_rfl); (case pq10_TooMany => kernel_rfl); (case pq10_Clash => kernel_rfl); (case pq10_BadRide => kernel_rfl); (case pq10_BadNeed => kernel_rfl); (case pq10_NoTicket => kernel_rfl); (case pq10_NoRide => kernel_rfl); (case pq10_NoDeed => kernel_rfl); (case pq10_OtherWindows => kernel_rfl); (case pq10_BadSplit => kernel_rfl); (case pq10_ValueError => kernel_rfl); (case pw10_FareError => kernel_rfl); (case cx11 => kernel_rfl); (case cl11 => k_is); (case cr11 => kernel_rfl); (case cs11 => k_is); (case cb11 => k_is); (case cT11 => k_is); (case ck11 => k_is); (case ci11 => k_is); (case cj11 => k_is); (case cm11 => k_is); (case cn11 => k_is); (case co11 => k_is); (case cp11 => exact rfl); (case cq11 => kernel_rfl); (case cv11 => k_is); (case cw11 => kernel_rfl); (case cy11 => k_is); (case cz11 => k_is); (case cf11_need => k_is); (case cf11_row => k_is); (case cf11_leg => k_is); (case cf11_first => k_is); (case cf11_second => k_is); (case cf11_number => k_is); (case cf11_ride => k_is); (case cf11_word => k_is); (case cf11_limit => k_is); (case ei11 => kernel_rfl); (case eg11 => k_is); (case ek11 => k_is); (case eh11 => k_is); (case ec11 => k_is); (case eo11 => k_is); (case pq11_BadRow => kernel_rfl); (case pq11_OutOfOrder => kernel_rfl); (case pq11_TwiceTold => kernel_rfl); (case pq11_NotTold => kernel_rfl); (case pq11_TooMany => kernel_rfl); (case pq11_Clash => kernel_rfl); (case pq11_BadRide => kernel_rfl); (case pq11_BadNeed => kernel_rfl); (case pq11_NoTicket => kernel_rfl); (case pq11_NoRide => kernel_rfl); (case pq11_NoDeed => kernel_rfl); (case pq11_OtherWindows => kernel_rfl); (case pq11_BadSplit => kernel_rfl); (case pq11_ValueError => kernel_rfl); (case pw11_FareError => kernel_rfl); (case cx12 => kernel_rfl); (case cl12 => k_is); (case cr12 => kernel_rfl); (case cs12 => k_is); (case cb12 => k_is); (case cT12 => k_is); (case ck12 => k_is); (case ci12 => k_is); (case cj12 => k_is); (case cm12 => k_is); (case cn12 => k_is); (case co12 => k_is); (case cp12 => exact rfl); (case cq12 => kernel_rfl); (case cv12 => k_is); (case cw12 => kernel_rfl); (case cy12 => k_is); (case cz12 => k_is); (case cf12_need => k_is); (case cf12_row => k_is); (case cf12_leg => k_is); (case cf12_first => k_is); (case cf12_second => k_is); (case cf12_number => k_is); (case cf12_ride => k_is); (case cf12_word => k_is); (case cf12_limit => k_is); (case ei12 => kernel_rfl); (case eg12 => k_is); (case ek12 => k_is); (case eh12 => k_is); (case ec12 => k_is); (case eo12 => k_is); (case pq12_BadRow => kernel_rfl); (case pq12_OutOfOrder => kernel_rfl); (case pq12_TwiceTold => kernel_rfl); (case pq12_NotTold => kernel_rfl); (case pq12_TooMany => kernel_rfl); (case pq12_Clash => kernel_rfl); (case pq12_BadRide => kernel_rfl); (case pq12_BadNeed => kernel_rfl); (case pq12_NoTicket => kernel_rfl); (case pq12_NoRide => kernel_rfl); (case pq12_NoDeed => kernel_rfl); (case pq12_OtherWindows => kernel_rfl); (case pq12_BadSplit => kernel_rfl); (case pq12_ValueError => kernel_rfl); (case pw12_FareError => kernel_rfl)
