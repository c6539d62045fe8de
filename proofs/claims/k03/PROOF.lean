import PyProof.Rows.All
import Wide.All
import OpenK.AllK
import Wide.FinOn
import KE.DataEq
import KE.DataFind
import HandS.Base
import HandS.Call
import HandS.List
import HandS.Comp
import HandS.Ends
import HandS.Dict
import HandS.Iter
import HandS.Text
import HandS.Exc
import HandS.IsInst
import HandS.TupAny
import HandS.Conv
import HandS.CallSlots
import HandS.WordsExc
import HandS.ForMost
import HandS.ExcOwn
import HandS.SortRule
import KE.KExcSuper
import KE.KSuper
import HandS.ExcInit
import HandS.Nested
import HandS.ExcField
import HandS.ExcIs
import KE.KExcIs
import HandS.HotCalls
import HandS.Strs
import HandS.StrMore
import HandS.Style
import HandS.DictComp
import PySem.Challenge.RW_roundsfare_k03_legs_of_lines
set_option Elab.async false
set_option linter.all false
set_option maxRecDepth 100000
set_option autoImplicit false
set_option maxHeartbeats 4000000
/-! DL1: data that does not change, denotations of expressions and statements as plain functions. -/
namespace DL
open PySem PySem.Spec PyProof.Rows L2

/-- the longest list -/
abbrev mx : Nat := 16777216
theorem mx_line : mx = sizeLine := sizeLine_eq.symm

/-! ### heaps -/
/-- all that was tracked is as it was -/
def Gr (H H' : Hp) : Prop := ∀ b o, H b = some o → H' b = some o
theorem Gr.refl (H : Hp) : Gr H H := fun _ _ h => h
theorem Gr.trans {H H1 H2 : Hp} (a : Gr H H1) (b : Gr H1 H2) : Gr H H2 := fun c o h => b c o (a c o h)
theorem Gr.seq {K : PySem.W.Frag} {H H' : Hp} {a : Addr} {xs : List V} (e : Gr H H') (h : SqL K H a xs) : SqL K H' a xs := by
  rcases h with (h | ⟨o, h⟩) | h
  · exact .inl (.inl (e _ _ h))
  · exact .inl (.inr ⟨o, e _ _ h⟩)
  · exact .inr h
theorem same_upd {H : Hp} {p : Addr} {o : HO} (h : H p = none) : Gr H (upd H p o) := fun b x e => by
  rw [upd_ne (ne_of_none e h)]
  exact e
def hide (H : Hp) (O : List Addr) : Hp := fun a => if a ∈ O then none else H a
theorem hide_out {H : Hp} {O : List Addr} {a : Addr} (h : a ∉ O) : hide H O a = H a := if_neg h
theorem hide_in {H : Hp} {O : List Addr} {a : Addr} (h : a ∈ O) : hide H O a = none := if_pos h
theorem hide_nil (H : Hp) : hide H [] = H := by
  funext a
  exact hide_out (by simp)
theorem hide_some {H : Hp} {O : List Addr} {a : Addr} {o : HO} (h : hide H O a = some o) : a ∉ O ∧ H a = some o := by
  by_cases q : a ∈ O
  · rw [hide_in q] at h; cases h
  · rw [hide_out q] at h; exact ⟨q, h⟩
theorem hide_same {H H' : Hp} (O : List Addr) (g : Gr H H') : Gr (hide H O) (hide H' O) := fun a o h => by
  obtain ⟨q, e⟩ := hide_some h
  rw [hide_out q]
  exact g a o e
theorem hide_sub {H : Hp} {O : List Addr} : Gr (hide H O) H := fun a o h => (hide_some h).2
theorem hide_less {H : Hp} {O O' : List Addr} (s : ∀ a ∈ O', a ∈ O) : Gr (hide H O) (hide H O') := fun a o h => by
  obtain ⟨q, e⟩ := hide_some h
  rw [hide_out fun z => q (s a z)]
  exact e
theorem Gr.seqT {K : PySem.W.Frag} {H H' : Hp} {a : Addr} {xs : List V} (e : Gr H H') (h : SqT K H a xs) : SqT K H' a xs := by
  rcases h with (h | ⟨o, h⟩) | h
  · exact .inl (.inl (e _ _ h))
  · exact .inl (.inr ⟨o, e _ _ h⟩)
  · exact .inr h
/-- a tuple that is known to have no dict -/
def SqN (K : PySem.W.Frag) (H : Hp) (a : Addr) (xs : List V) : Prop :=
  (∃ o, H a = some (.frz o (.tup xs)) ∧ o.dict = none) ∨
    ∃ (o : Obj) (its : Array Value) (n : Nat), K.lookup a = some o ∧ o.cls = .type "tuple" ∧ o.dict = none ∧ o.data = .seq its n ∧ its.size ≤ sizeLine ∧ Vals xs its.toList
theorem SqN.t {K : PySem.W.Frag} {H : Hp} {a : Addr} {xs : List V} (h : SqN K H a xs) : SqT K H a xs := by
  rcases h with ⟨o, h, _⟩ | ⟨o, its, n, h1, h2, _, h4⟩
  · exact .inl (.inr ⟨o, h⟩)
  · exact .inr ⟨o, its, n, h1, h2, h4⟩
theorem Gr.seqN {K : PySem.W.Frag} {H H' : Hp} {a : Addr} {xs : List V} (e : Gr H H') (h : SqN K H a xs) : SqN K H' a xs := by
  rcases h with ⟨o, h, d⟩ | h
  · exact .inl ⟨o, e _ _ h, d⟩
  · exact .inr h
theorem Gr.rd {H H' : Hp} {a : Addr} {u : HO} (e : Gr H H') (h : Rd H a u) : Rd H' a u := by
  rcases h with h | ⟨o, h⟩
  · exact .inl (e _ _ h)
  · exact .inr ⟨o, e _ _ h⟩

/-! ### results -/
/-- an exception: its class's name, its fields -/
structure Exn where
  cls : Str
  fs : List (PyData × PyData)
inductive Rs (α : Type) where
  | ok (a : α)
  | ex (e : Exn)
  | bad
@[inline] def Rs.bind {α β : Type} : Rs α → (α → Rs β) → Rs β
  | .ok a, k => k a
  | .ex e, _ => .ex e
  | .bad, _ => .bad
@[simp] theorem bind_ok {α β : Type} (a : α) (k : α → Rs β) : (Rs.ok a).bind k = k a := Eq.trans rfl rfl
@[simp] theorem bind_ex {α β : Type} (e : Exn) (k : α → Rs β) : (Rs.ex e : Rs α).bind k = .ex e := Eq.trans rfl rfl
@[simp] theorem bind_bad {α β : Type} (k : α → Rs β) : (Rs.bad : Rs α).bind k = .bad := Eq.trans rfl rfl

/-! ### what a value stands for -/
def keyD : Key → PyData
  | .inl i => .int i
  | .inr x => .str x
/-- a caught exception's object is tracked -/
def ExT (a : Addr) (oe : Obj) : HO := .ext fun h => h.get? a = some oe
/-- the class of this name -/
def excAt (K : PySem.W.Frag) (nm : Str) : Option Addr := (K.find? fun p => match p.2.data with | .cls cd => cd.name == nm | _ => false).map (·.1)
mutual
inductive Rp (K : PySem.W.Frag) (H : Hp) : V → PyData → Prop
  | non : Rp K H .non .none
  | bl (b : Bool) : Rp K H (.bl b) (.bool b)
  | int (i : Int) : Rp K H (.int i) (.int i)
  | str (x : Str) : Rp K H (.str x) (.str x)
  | lst {a : Addr} {xs : List V} {ds : List PyData} : Rd H a (.lst xs) → xs.length ≤ mx → RpAll K H xs ds → Rp K H (.ref a) (.list ds)
  /-- the script: an object of whatever place, its ints -/
  | scr {a : Addr} {ns : List Int} : SqL K H a (ns.map V.int) → ns.length ≤ mx → Rp K H (.ref a) (.dict [(.none, .list (ns.map PyData.int))])
  | tup {a : Addr} {xs : List V} {ds : List PyData} : SqN K H a xs → xs.length ≤ mx → RpAll K H xs ds → Rp K H (.ref a) (.tuple ds)
  | dK {a : Addr} {kvs : List (Key × V)} {es : List (PyData × PyData)} : Rd H a (.dK kvs) → RpKV K H (kvs.map fun p => (keyD p.1, p.2)) es → Rp K H (.ref a) (.dict es)
  | dT {a : Addr} {kvs : List (List Key × V)} {es : List (PyData × PyData)} : Rd H a (.dT kvs) → RpKV K H (kvs.map fun p => (.tuple (p.1.map keyD), p.2)) es → Rp K H (.ref a) (.dict ((.bool false, .none) :: es))
  /-- an exception: its class, its fields -/
  | exn {a C d : Addr} {oe : Obj} {nm : Str} {fs : List (Str × V)} {es : List (PyData × PyData)} : H a = some (ExT a oe) → Zc (.ref C) (some d) oe → (∃ vs, oe.data = .fields vs) → excAt K nm = some C → H d = some (.xd fs) → RpFs K H fs es → Rp K H (.ref a) (.dict ((.bool true, .str nm) :: es))
  | exn0 {a C : Addr} {oe : Obj} {nm : Str} : H a = some (ExT a oe) → Zc (.ref C) none oe → (∃ vs, oe.data = .fields vs) → excAt K nm = some C → Rp K H (.ref a) (.dict [(.bool true, .str nm)])
inductive RpFs (K : PySem.W.Frag) (H : Hp) : List (Str × V) → List (PyData × PyData) → Prop
  | nil : RpFs K H [] []
  | cons {f : Str} {v : V} {d : PyData} {vs : List (Str × V)} {ds : List (PyData × PyData)} : Rp K H v d → RpFs K H vs ds → RpFs K H ((f, v) :: vs) ((.str f, d) :: ds)
inductive RpAll (K : PySem.W.Frag) (H : Hp) : List V → List PyData → Prop
  | nil : RpAll K H [] []
  | cons {v : V} {vs : List V} {d : PyData} {ds : List PyData} : Rp K H v d → RpAll K H vs ds → RpAll K H (v :: vs) (d :: ds)
inductive RpKV (K : PySem.W.Frag) (H : Hp) : List (PyData × V) → List (PyData × PyData) → Prop
  | nil : RpKV K H [] []
  | cons {k : PyData} {v : V} {vs : List (PyData × V)} {d : PyData} {ds : List (PyData × PyData)} : Rp K H v d → RpKV K H vs ds → RpKV K H ((k, v) :: vs) ((k, d) :: ds)
end
mutual
theorem Rp.mono {K : PySem.W.Frag} {H H' : Hp} (g : Gr H H') : ∀ {v : V} {d : PyData}, Rp K H v d → Rp K H' v d
  | _, _, .non => .non
  | _, _, .bl b => .bl b
  | _, _, .int i => .int i
  | _, _, .str x => .str x
  | _, _, .lst s l r => .lst (Gr.rd g s) l (RpAll.mono g r)
  | _, _, .scr s l => .scr (g.seq s) l
  | _, _, .tup s l r => .tup (Gr.seqN g s) l (RpAll.mono g r)
  | _, _, .dK s r => .dK (Gr.rd g s) (RpKV.mono g r)
  | _, _, .dT s r => .dT (Gr.rd g s) (RpKV.mono g r)
  | _, _, .exn h z v c d r => .exn (g _ _ h) z v c (g _ _ d) (RpFs.mono g r)
  | _, _, .exn0 h z v c => .exn0 (g _ _ h) z v c
theorem RpFs.mono {K : PySem.W.Frag} {H H' : Hp} (g : Gr H H') : ∀ {v : List (Str × V)} {d : List (PyData × PyData)}, RpFs K H v d → RpFs K H' v d
  | _, _, .nil => .nil
  | _, _, .cons r t => .cons (Rp.mono g r) (RpFs.mono g t)
theorem RpAll.mono {K : PySem.W.Frag} {H H' : Hp} (g : Gr H H') : ∀ {v : List V} {d : List PyData}, RpAll K H v d → RpAll K H' v d
  | _, _, .nil => .nil
  | _, _, .cons r t => .cons (Rp.mono g r) (RpAll.mono g t)
theorem RpKV.mono {K : PySem.W.Frag} {H H' : Hp} (g : Gr H H') : ∀ {v : List (PyData × V)} {d : List (PyData × PyData)}, RpKV K H v d → RpKV K H' v d
  | _, _, .nil => .nil
  | _, _, .cons r t => .cons (Rp.mono g r) (RpKV.mono g t)
end
section
variable {K : PySem.W.Frag} {H : Hp}
theorem RpAll.length : ∀ {xs : List V} {ds : List PyData}, RpAll K H xs ds → xs.length = ds.length
  | _, _, .nil => rfl
  | _, _, .cons _ t => by rw [List.length_cons, List.length_cons, RpAll.length t]
theorem RpAll.get : ∀ {xs : List V} {ds : List PyData} {i : Nat} {d : PyData}, RpAll K H xs ds → ds[i]? = some d → ∃ x, xs[i]? = some x ∧ Rp K H x d
  | _, _, _, _, .nil, e => by simp at e
  | _, _, 0, _, .cons r _, e => by simp at e; subst e; exact ⟨_, rfl, r⟩
  | _, _, i + 1, d, .cons _ t, e => by
    obtain ⟨u, h1, h2⟩ := RpAll.get (i := i) (d := d) t (by simpa using e)
    exact ⟨u, by simpa using h1, h2⟩
theorem RpAll.getV : ∀ {xs : List V} {ds : List PyData} {i : Nat} {x : V}, RpAll K H xs ds → xs[i]? = some x → ∃ d, ds[i]? = some d ∧ Rp K H x d
  | _, _, _, _, .nil, e => by simp at e
  | _, _, 0, _, .cons r _, e => by simp at e; subst e; exact ⟨_, rfl, r⟩
  | _, _, i + 1, d, .cons _ t, e => by
    obtain ⟨u, h1, h2⟩ := RpAll.getV (i := i) (x := d) t (by simpa using e)
    exact ⟨u, by simpa using h1, h2⟩
theorem RpAll.append : ∀ {xs ys : List V} {ds es : List PyData}, RpAll K H xs ds → RpAll K H ys es → RpAll K H (xs ++ ys) (ds ++ es)
  | _, _, _, _, .nil, s => s
  | _, _, _, _, .cons r t, s => .cons r (RpAll.append t s)
theorem RpAll.take : ∀ {xs : List V} {ds : List PyData} (n : Nat), RpAll K H xs ds → RpAll K H (xs.take n) (ds.take n)
  | _, _, 0, _ => .nil
  | _, _, _ + 1, .nil => .nil
  | _, _, n + 1, .cons r t => .cons r (RpAll.take n t)
theorem RpAll.drop : ∀ {xs : List V} {ds : List PyData} (n : Nat), RpAll K H xs ds → RpAll K H (xs.drop n) (ds.drop n)
  | _, _, 0, r => r
  | _, _, _ + 1, .nil => .nil
  | _, _, n + 1, .cons _ t => RpAll.drop n t
theorem RpAll.reverse : ∀ {xs : List V} {ds : List PyData}, RpAll K H xs ds → RpAll K H xs.reverse ds.reverse
  | _, _, .nil => .nil
  | _, _, .cons r t => by
    rw [List.reverse_cons, List.reverse_cons]
    exact (RpAll.reverse t).append (.cons r .nil)
theorem RpAll.set : ∀ {xs : List V} {ds : List PyData} {x : V} {d : PyData} (i : Nat), RpAll K H xs ds → Rp K H x d → RpAll K H (xs.set i x) (ds.set i d)
  | _, _, _, _, _, .nil, _ => .nil
  | _, _, _, _, 0, .cons _ t, r => .cons r t
  | _, _, _, _, i + 1, .cons q t, r => .cons q (RpAll.set i t r)
theorem RpAll.int {xs : List V} : ∀ {ns : List Int}, RpAll K H xs (ns.map PyData.int) → xs = ns.map V.int
  | [], h => by cases h; rfl
  | n :: ns, h => by
    cases h with
    | cons r t =>
      cases r
      rw [RpAll.int t]
      rfl
theorem rpAll_ints : ∀ (ns : List Int), RpAll K H (ns.map V.int) (ns.map PyData.int)
  | [] => .nil
  | n :: ns => .cons (.int n) (rpAll_ints ns)
theorem RpAll.strs {xs : List V} : ∀ {ns : List Str}, RpAll K H xs (ns.map PyData.str) → xs = ns.map V.str
  | [], h => by cases h; rfl
  | n :: ns, h => by
    cases h with
    | cons r t =>
      cases r
      rw [RpAll.strs t]
      rfl
theorem rpAll_strs : ∀ (ns : List Str), RpAll K H (ns.map V.str) (ns.map PyData.str)
  | [] => .nil
  | n :: ns => .cons (.str n) (rpAll_strs ns)
mutual
/-- as the layer's own words for data -/
theorem Rp.dp : ∀ {d : PyData} {v : V}, d.plain = true → Rp K H v d → Dp K H v d
  | .none, _, _, h => by cases h; exact .non
  | .bool _, _, _, h => by cases h; exact .bl _
  | .int _, _, _, h => by cases h; exact .int _
  | .str _, _, _, h => by cases h; exact .str _
  | .list ds, _, p, h => by
    cases h with
    | lst s _ r => exact .lst (.inl s) (RpAll.dp (by simpa [PyData.plain] using p) r)
  | .tuple ds, _, p, h => by
    cases h with
    | tup s _ r => exact .tup s.t (RpAll.dp (by simpa [PyData.plain] using p) r)
  | .dict _, _, p, _ => by simp [PyData.plain] at p
theorem RpAll.dp : ∀ {ds : List PyData} {vs : List V}, PyData.plainAll ds = true → RpAll K H vs ds → DpAll K H vs ds
  | [], _, _, h => by cases h; exact .nil
  | d :: ds, _, p, h => by
    cases h with
    | cons r t =>
      have p' : d.plain = true ∧ PyData.plainAll ds = true := by simpa [PyData.plainAll] using p
      exact .cons (Rp.dp p'.1 r) (RpAll.dp p'.2 t)
end
end

/-! ### the state of a def: slots -/
/-- a slot holds data, or a list (a dict) that was made here and is held by this name alone -/
inductive SV where
  | val (d : PyData)
  | own (d : PyData)
abbrev En := List (Option SV)
def own1 : Option V → Option SV → Option Addr
  | some (.ref a), some (.own _) => some a
  | _, _ => none
def owned : L2.St → En → List Addr
  | x :: σ, y :: ρ => match own1 x y with
    | some a => a :: owned σ ρ
    | none => owned σ ρ
  | _, _ => []
/-- an object held alone: its items are of G -/
def OwnR (K : PySem.W.Frag) (G H : Hp) (a : Addr) (d : PyData) : Prop :=
  (∃ xs ds, d = .list ds ∧ H a = some (.lst xs) ∧ xs.length ≤ mx ∧ RpAll K G xs ds) ∨
  (∃ (kvs : List (Key × V)) (es : List (PyData × PyData)), d = .dict es ∧ H a = some (.dK kvs) ∧ RpKV K G (kvs.map fun p => (keyD p.1, p.2)) es) ∨
  (∃ (kvs : List (List Key × V)) (es : List (PyData × PyData)), d = .dict ((.bool false, .none) :: es) ∧ H a = some (.dT kvs) ∧ RpKV K G (kvs.map fun p => (.tuple (p.1.map keyD), p.2)) es)
def SlotR (K : PySem.W.Frag) (G H : Hp) (x : Option V) (y : Option SV) : Prop := match y with
  | none => True
  | some (.val d) => ∃ v, x = some v ∧ Rp K G v d
  | some (.own d) => ∃ a, x = some (.ref a) ∧ OwnR K G H a d
inductive SlotsR (K : PySem.W.Frag) (G H : Hp) : L2.St → En → Prop
  | nil : SlotsR K G H [] []
  | cons {x : Option V} {y : Option SV} {σ : L2.St} {ρ : En} : SlotR K G H x y → SlotsR K G H σ ρ → SlotsR K G H (x :: σ) (y :: ρ)
structure SR (K : PySem.W.Frag) (O : List Addr) (H0 H : Hp) (σ : L2.St) (ρ : En) : Prop where
  same : Gr H0 H
  new : ∀ a ∈ owned σ ρ, H0 a = none
  nd : (owned σ ρ).Nodup
  old : ∀ a ∈ O, H0 a ≠ none
  slots : SlotsR K (hide H (O ++ owned σ ρ)) H σ ρ

section
variable {K : PySem.W.Frag} {G G' H H' H0 : Hp} {a : Addr} {d : PyData} {σ : L2.St} {ρ : En} {O : List Addr}
theorem OwnR.mono (g : Gr G G') (e : ∀ o, H a = some o → H' a = some o) (h : OwnR K G H a d) : OwnR K G' H' a d := by
  rcases h with ⟨xs, ds, h1, h2, h3, h4⟩ | ⟨xs, ds, h1, h2, h4⟩ | ⟨xs, ds, h1, h2, h4⟩
  · exact .inl ⟨xs, ds, h1, e _ h2, h3, h4.mono g⟩
  · exact .inr (.inl ⟨xs, ds, h1, e _ h2, h4.mono g⟩)
  · exact .inr (.inr ⟨xs, ds, h1, e _ h2, h4.mono g⟩)
theorem OwnR.there (h : OwnR K G H a d) : H a ≠ none := by
  rcases h with ⟨xs, ds, h1, h2, h3⟩ | ⟨xs, ds, h1, h2, h3⟩ | ⟨xs, ds, h1, h2, h3⟩ <;> (rw [h2]; exact fun z => by cases z)
theorem OwnR.rp (h : OwnR K G H a d) (g : Gr G H) : Rp K H (.ref a) d := by
  rcases h with ⟨xs, ds, rfl, h2, h3, h4⟩ | ⟨xs, ds, rfl, h2, h4⟩ | ⟨xs, ds, rfl, h2, h4⟩
  · exact .lst (.inl h2) h3 (h4.mono g)
  · exact .dK (.inl h2) (h4.mono g)
  · exact .dT (.inl h2) (h4.mono g)
theorem SlotsR.mono (g : Gr G G') (e : ∀ a ∈ owned σ ρ, ∀ o, H a = some o → H' a = some o) (h : SlotsR K G H σ ρ) : SlotsR K G' H' σ ρ := by
  induction h with
  | nil => exact .nil
  | @cons x y σ ρ h1 h2 ih =>
    refine .cons ?_ (ih fun a ha => e a ?_)
    · cases y with
      | none => trivial
      | some sv =>
        cases sv with
        | val d => obtain ⟨v, e1, r⟩ := h1; exact ⟨v, e1, r.mono g⟩
        | own d =>
          obtain ⟨a, e1, r⟩ := h1
          subst e1
          exact ⟨a, rfl, r.mono g (e a (by simp [owned, own1]))⟩
    · unfold owned
      split
      · exact List.mem_cons_of_mem _ ha
      · exact ha
theorem SlotsR.len (h : SlotsR K G H σ ρ) : σ.length = ρ.length := by
  induction h with
  | nil => rfl
  | cons _ _ ih => rw [List.length_cons, List.length_cons, ih]
theorem SlotsR.get (h : SlotsR K G H σ ρ) {i : Nat} {y : Option SV} (e : ρ[i]? = some y) : ∃ x, σ[i]? = some x ∧ SlotR K G H x y := by
  induction h generalizing i with
  | nil => simp at e
  | cons h1 h2 ih =>
    cases i with
    | zero =>
      simp at e
      subst e
      exact ⟨_, rfl, h1⟩
    | succ i =>
      obtain ⟨x, e1, r⟩ := ih (i := i) (by simpa using e)
      exact ⟨x, by simpa using e1, r⟩
theorem SlotsR.owned_there (h : SlotsR K G H σ ρ) : ∀ a ∈ owned σ ρ, H a ≠ none := by
  induction h with
  | nil => intro a ha; simp [owned] at ha
  | @cons x y σ ρ h1 h2 ih =>
    intro a ha
    unfold owned at ha
    split at ha
    · rename_i b hb
      rcases List.mem_cons.mp ha with q | q
      · subst q
        unfold own1 at hb
        split at hb
        · cases hb
          obtain ⟨a', e1, r⟩ := h1
          cases e1
          exact r.there
        · cases hb
      · exact ih a q
    · exact ih a ha
theorem SR.there (s : SR K O H0 H σ ρ) : ∀ a ∈ O ++ owned σ ρ, H a ≠ none := fun a ha => by
  rcases List.mem_append.mp ha with h | h
  · intro z
    cases e : H0 a with
    | none => exact s.old a h e
    | some o =>
      rw [s.same a o e] at z
      cases z
  · exact s.slots.owned_there a h
theorem SR.grow (s : SR K O H0 H σ ρ) (g : Gr H H') : SR K O H0 H' σ ρ :=
  ⟨s.same.trans g, s.new, s.nd, s.old, s.slots.mono (hide_same _ g) fun a _ o e => g a o e⟩
theorem SR.fresh (s : SR K O H0 H σ ρ) {p : Addr} (h : H p = none) : p ∉ O ++ owned σ ρ := fun z => s.there p z h
/-- the heap that stands still -/
theorem SR.rebase (s : SR K O H0 H σ ρ) : SR K O (hide H (owned σ ρ)) H σ ρ :=
  ⟨hide_sub, fun a h => hide_in h, s.nd, fun a h => by
    have n : a ∉ owned σ ρ := fun z => s.old a h (s.new a z)
    rw [hide_out n]
    exact s.there a (List.mem_append_left _ h), s.slots⟩
theorem SR.base_sub (s : SR K O H0 H σ ρ) : Gr H0 (hide H (owned σ ρ)) := fun a o e => by
  have n : a ∉ owned σ ρ := fun z => by rw [s.new a z] at e; cases e
  rw [hide_out n]
  exact s.same a o e
theorem SR.weak {H1 : Hp} (s : SR K O H1 H σ ρ) (g : Gr H0 H1) (old : ∀ a ∈ O, H0 a ≠ none) : SR K O H0 H σ ρ := by
  refine ⟨g.trans s.same, fun a h => ?_, s.nd, old, s.slots⟩
  cases e : H0 a with
  | none => rfl
  | some o =>
    have q := g a o e
    rw [s.new a h] at q
    cases q
end
end DL

namespace DL
open PySem PySem.Spec PyProof.Rows L2

/-! ### expressions -/
/-- an exception stands for e -/
def ExR (K : PySem.W.Frag) (mg : Str → Option Value) (G : Hp) (c : Value) (dd : Option Addr) (e : Exn) : Prop :=
  ∃ C, c = .ref C ∧ excAt K e.cls = some C ∧ ((∃ d fs, dd = some d ∧ G d = some (.xd fs) ∧ RpFs K G fs e.fs) ∨ (dd = none ∧ e.fs = []))
theorem ExR.mono {K : PySem.W.Frag} {mg : Str → Option Value} {H H' : Hp} {c : Value} {dd : Option Addr} {e : Exn} (g : Gr H H') (h : ExR K mg H c dd e) : ExR K mg H' c dd e := by
  obtain ⟨C, h1, h2, ⟨d, fs, h3, h4, h5⟩ | h3⟩ := h
  · exact ⟨C, h1, h2, .inl ⟨d, fs, h3, g _ _ h4, h5.mono g⟩⟩
  · exact ⟨C, h1, h2, .inr h3⟩
/-- data, or an object of this def's own -/
def RpB (K : PySem.W.Frag) (O : List Addr) (H : Hp) (v : V) (d : PyData) : Prop := Rp K (hide H O) v d ∨ ∃ a, v = .ref a ∧ OwnR K (hide H O) H a d
def RK (K : PySem.W.Frag) (mg : Str → Option Value) (W : WX) (O : List Addr) (σ : L2.St) (H : Hp) (Q : VK) : Rs PyData → Prop
  | .ok d => ∀ H' v, Gr H H' → Rp K (hide H' O) v d → Q v H'
  | .ex e => ∀ H' c dd, Gr H H' → ExR K mg (hide H' O) c dd e → W c dd σ H'
  | .bad => False
def RKB (K : PySem.W.Frag) (mg : Str → Option Value) (W : WX) (O : List Addr) (σ : L2.St) (H : Hp) (Q : VK) : Rs PyData → Prop
  | .ok d => ∀ H' v, Gr H H' → RpB K O H' v d → Q v H'
  | .ex e => ∀ H' c dd, Gr H H' → ExR K mg (hide H' O) c dd e → W c dd σ H'
  | .bad => False
/-- the same for any kind of result, R telling what stands for it -/
def RKT {α : Type} (K : PySem.W.Frag) (mg : Str → Option Value) (W : WX) (O : List Addr) (σ : L2.St) (H : Hp) (Q : α → Hp → Prop) : Rs α → Prop
  | .ok d => ∀ H', Gr H H' → Q d H'
  | .ex e => ∀ H' c dd, Gr H H' → ExR K mg (hide H' O) c dd e → W c dd σ H'
  | .bad => False
def tD (K : PySem.W.Frag) (mg : Str → Option Value) (W : WX) (f : En → Rs PyData) : TE := fun σ H Q => ∃ ρ O H0, SR K O H0 H σ ρ ∧ RK K mg W (O ++ owned σ ρ) σ H Q (f ρ)
def tB' (K : PySem.W.Frag) (mg : Str → Option Value) (W : WX) (f : En → Rs PyData) : TE := fun σ H Q => ∃ ρ O H0, SR K O H0 H σ ρ ∧ RKB K mg W (O ++ owned σ ρ) σ H Q (f ρ)
/-- a test -/
def tT (K : PySem.W.Frag) (mg : Str → Option Value) (W : WX) (f : En → Rs Bool) : TT := fun σ H Q => ∃ ρ O H0, SR K O H0 H σ ρ ∧ RKT K mg W (O ++ owned σ ρ) σ H Q (f ρ)
/-- e denotes f; in DE the result is data, in BE it may be an object of the def's own -/
abbrev DE (X : Cx) (W : WX) (e : Expr) (f : En → Rs PyData) : Prop := PE X e (tD X.K X.mg W f)
abbrev BE (X : Cx) (W : WX) (e : Expr) (f : En → Rs PyData) : Prop := PE X e (tB' X.K X.mg W f)
abbrev DT (X : Cx) (W : WX) (e : Expr) (f : En → Rs Bool) : Prop := PT X e (tT X.K X.mg W f)

section
variable {K : PySem.W.Frag} {mg : Str → Option Value} {W : WX} {O : List Addr} {σ : L2.St} {H H1 : Hp} {Q Q' : VK}
theorem RK.grow {r : Rs PyData} (g : Gr H H1) (h : RK K mg W O σ H Q r) : RK K mg W O σ H1 Q r := by
  cases r with
  | ok d => exact fun H' v g' => h H' v (g.trans g')
  | ex e => exact fun H' c dd g' => h H' c dd (g.trans g')
  | bad => exact h
theorem RKB.grow {r : Rs PyData} (g : Gr H H1) (h : RKB K mg W O σ H Q r) : RKB K mg W O σ H1 Q r := by
  cases r with
  | ok d => exact fun H' v g' => h H' v (g.trans g')
  | ex e => exact fun H' c dd g' => h H' c dd (g.trans g')
  | bad => exact h
theorem RKT.grow {α : Type} {r : Rs α} {Q : α → Hp → Prop} (g : Gr H H1) (h : RKT K mg W O σ H Q r) : RKT K mg W O σ H1 Q r := by
  cases r with
  | ok d => exact fun H' g' => h H' (g.trans g')
  | ex e => exact fun H' c dd g' => h H' c dd (g.trans g')
  | bad => exact h
theorem RKB.toRK {r : Rs PyData} (h : RKB K mg W O σ H Q r) : RK K mg W O σ H Q r := by
  cases r with
  | ok d => exact fun H' v g rp => h H' v g (.inl rp)
  | ex e => exact h
  | bad => exact h
/-- at once: the result stands here -/
theorem RK.here {v : V} {d : PyData} (h : RK K mg W O σ H Q (.ok d)) (r : Rp K (hide H O) v d) : Q v H := h H v (Gr.refl H) r
theorem RK.new {p : Addr} {o : HO} {d : PyData} (h : RK K mg W O σ H Q (.ok d)) (hp : H p = none) (r : Rp K (hide (upd H p o) O) (.ref p) d) : Q (.ref p) (upd H p o) := h _ _ (same_upd hp) r
/-- a part is run, then the rest -/
theorem RKB.of {r : Rs PyData} {k : PyData → Rs PyData} (h : RK K mg W O σ H Q (r.bind k)) (hk : ∀ d H1 v, Gr H H1 → RpB K O H1 v d → RK K mg W O σ H1 Q (k d) → Q' v H1) : RKB K mg W O σ H Q' r := by
  cases r with
  | ok d => exact fun H' v g rp => hk d H' v g rp (RK.grow g h)
  | ex e => exact h
  | bad => exact h
theorem RK.of {r : Rs PyData} {k : PyData → Rs PyData} (h : RK K mg W O σ H Q (r.bind k)) (hk : ∀ d H1 v, Gr H H1 → Rp K (hide H1 O) v d → RK K mg W O σ H1 Q (k d) → Q' v H1) : RK K mg W O σ H Q' r := by
  cases r with
  | ok d => exact fun H' v g rp => hk d H' v g rp (RK.grow g h)
  | ex e => exact h
  | bad => exact h
theorem RKT.of {α : Type} {r : Rs α} {Q' : α → Hp → Prop} {k : α → Rs PyData} (h : RK K mg W O σ H Q (r.bind k)) (hk : ∀ d H1, Gr H H1 → RK K mg W O σ H1 Q (k d) → Q' d H1) : RKT K mg W O σ H Q' r := by
  cases r with
  | ok d => exact fun H' g => hk d H' g (RK.grow g h)
  | ex e => exact h
  | bad => exact h
theorem RKB.ofT {α : Type} {r : Rs PyData} {Q : α → Hp → Prop} {k : PyData → Rs α} (h : RKT K mg W O σ H Q (r.bind k)) (hk : ∀ d H1 v, Gr H H1 → RpB K O H1 v d → RKT K mg W O σ H1 Q (k d) → Q' v H1) : RKB K mg W O σ H Q' r := by
  cases r with
  | ok d => exact fun H' v g rp => hk d H' v g rp (RKT.grow g h)
  | ex e => exact h
  | bad => exact h
theorem RKT.ofT {α β : Type} {r : Rs α} {Q : β → Hp → Prop} {Q' : α → Hp → Prop} {k : α → Rs β} (h : RKT K mg W O σ H Q (r.bind k)) (hk : ∀ d H1, Gr H H1 → RKT K mg W O σ H1 Q (k d) → Q' d H1) : RKT K mg W O σ H Q' r := by
  cases r with
  | ok d => exact fun H' g => hk d H' g (RKT.grow g h)
  | ex e => exact h
  | bad => exact h
/-- what is borrowed, where nothing is hidden -/
theorem RpB.rp {v : V} {d : PyData} (h : RpB K O H v d) : Rp K H v d := by
  rcases h with h | ⟨a, rfl, h⟩
  · exact h.mono hide_sub
  · exact h.rp hide_sub
theorem RpB.grow {v : V} {d : PyData} (g : Gr H H1) (h : RpB K O H v d) : RpB K O H1 v d := by
  rcases h with h | ⟨a, rfl, h⟩
  · exact .inl (h.mono (hide_same _ g))
  · exact .inr ⟨a, rfl, h.mono (hide_same _ g) fun o e => g a o e⟩
/-- a list that is read -/
theorem RpB.list {v : V} {ds : List PyData} (h : RpB K O H v (.list ds)) : ∃ a xs, v = .ref a ∧ Rd H a (.lst xs) ∧ xs.length ≤ mx ∧ RpAll K (hide H O) xs ds := by
  rcases h with h | ⟨a, rfl, ⟨xs, es, e, h1, h2, h3⟩ | ⟨_, _, e, _⟩ | ⟨_, _, e, _⟩⟩
  · cases h with
    | lst s l r => exact ⟨_, _, rfl, Gr.rd hide_sub s, l, r⟩
  · cases e
    exact ⟨a, xs, rfl, .inl h1, h2, h3⟩
  · cases e
  · cases e
theorem RpB.tuple {v : V} {ds : List PyData} (h : RpB K O H v (.tuple ds)) : ∃ a xs, v = .ref a ∧ SqT K H a xs ∧ xs.length ≤ mx ∧ RpAll K (hide H O) xs ds := by
  rcases h with h | ⟨a, rfl, ⟨xs, es, e, h1, h2, h3⟩ | ⟨_, _, e, _⟩ | ⟨_, _, e, _⟩⟩
  · cases h with
    | tup s l r => exact ⟨_, _, rfl, (Gr.seqN hide_sub s).t, l, r⟩
  · cases e
  · cases e
  · cases e
theorem RpB.tupleN {v : V} {ds : List PyData} (h : RpB K O H v (.tuple ds)) : ∃ a xs, v = .ref a ∧ SqN K H a xs ∧ xs.length ≤ mx ∧ RpAll K (hide H O) xs ds := by
  rcases h with h | ⟨a, rfl, ⟨xs, es, e, h1, h2, h3⟩ | ⟨_, _, e, _⟩ | ⟨_, _, e, _⟩⟩
  · cases h with
    | tup s l r => exact ⟨_, _, rfl, Gr.seqN hide_sub s, l, r⟩
  · cases e
  · cases e
  · cases e
theorem RpB.scr {v : V} {ns : List PyData} (h : RpB K O H v (.dict [(.none, .list ns)])) : ∃ (a : Addr) (is : List Int), v = .ref a ∧ ns = is.map PyData.int ∧ SqL K H a (is.map V.int) ∧ is.length ≤ mx := by
  rcases h with h | ⟨a, rfl, ⟨xs, es, e, h1, h2, h3⟩ | ⟨kvs, _, e, _, h⟩ | ⟨kvs, _, e, _, h⟩⟩
  · cases h with
    | scr s l => exact ⟨_, _, rfl, rfl, hide_sub.seq s, l⟩
    | @dK a kvs _ s r =>
      cases kvs with
      | nil => cases r
      | cons p kvs =>
        obtain ⟨k, v⟩ := p
        cases k <;> cases r
  · cases e
  · cases e
    cases kvs with
    | nil => cases h
    | cons p kvs =>
      obtain ⟨k, v⟩ := p
      cases k <;> cases h
  · cases e
theorem RpB.int {v : V} {i : Int} (h : RpB K O H v (.int i)) : v = .int i := by
  rcases h with h | ⟨a, rfl, ⟨xs, es, e, _⟩ | ⟨_, _, e, _⟩ | ⟨_, _, e, _⟩⟩
  · cases h; rfl
  all_goals cases e
theorem RpB.str {v : V} {i : Str} (h : RpB K O H v (.str i)) : v = .str i := by
  rcases h with h | ⟨a, rfl, ⟨xs, es, e, _⟩ | ⟨_, _, e, _⟩ | ⟨_, _, e, _⟩⟩
  · cases h; rfl
  all_goals cases e
theorem RpB.bool {v : V} {i : Bool} (h : RpB K O H v (.bool i)) : v = .bl i := by
  rcases h with h | ⟨a, rfl, ⟨xs, es, e, _⟩ | ⟨_, _, e, _⟩ | ⟨_, _, e, _⟩⟩
  · cases h; rfl
  all_goals cases e
theorem RpB.none {v : V} (h : RpB K O H v .none) : v = .non := by
  rcases h with h | ⟨a, rfl, ⟨xs, es, e, _⟩ | ⟨_, _, e, _⟩ | ⟨_, _, e, _⟩⟩
  · cases h; rfl
  all_goals cases e
end

theorem PE.imp {X : Cx} {e : Expr} {t t' : TE} (h : PE X e t) (i : ∀ σ H Q, t' σ H Q → t σ H Q) : PE X e t' := ⟨fun pins s σ H Q I q => h.run pins s σ H Q I (i σ H Q q)⟩
theorem PT.imp {X : Cx} {e : Expr} {t t' : TT} (h : PT X e t) (i : ∀ σ H Q, t' σ H Q → t σ H Q) : PT X e t' := ⟨fun pins s σ H Q I q => h.run pins s σ H Q I (i σ H Q q)⟩

/-! ### operations on data -/
def mulOk (i j : Int) : Bool := (decide (-18446744073709551616 < i) && decide (i < 18446744073709551616)) || (decide (-18446744073709551616 < j) && decide (j < 18446744073709551616))
def oAdd : PyData → PyData → Rs PyData
  | .int i, .int j => .ok (.int (i + j))
  | .str i, .str j => if i.length + j.length ≤ mx then .ok (.str (i ++ j)) else .bad
  | .tuple i, .tuple j => if i.length + j.length ≤ mx then .ok (.tuple (i ++ j)) else .bad
  | .list i, .list j => if i.length + j.length ≤ mx then .ok (.list (i ++ j)) else .bad
  | _, _ => .bad
def oSub : PyData → PyData → Rs PyData
  | .int i, .int j => .ok (.int (i - j))
  | _, _ => .bad
def oMul : PyData → PyData → Rs PyData
  | .int i, .int j => if mulOk i j then .ok (.int (i * j)) else .bad
  | .list i, .int k => if decide (-4611686018427387904 ≤ k) && decide (k < 4611686018427387904) && decide (i.length * k.toNat ≤ mx) then .ok (.list (List.replicate k.toNat i).flatten) else .bad
  | _, _ => .bad
def oMod : PyData → PyData → Rs PyData
  | .int i, .int j => if 0 < j then .ok (.int (i % j)) else .bad
  | _, _ => .bad
def oDiv : PyData → PyData → Rs PyData
  | .int i, .int j => if 0 < j ∧ j < 1073741824 then .ok (.int (i / j)) else .bad
  | _, _ => .bad
def oPow : PyData → PyData → Rs PyData
  | .int i, .int j => if decide (0 ≤ j) && decide (j ≤ 1000000) && decide (i.natAbs < 18446744073709551616) then .ok (.int (i ^ j.toNat)) else .bad
  | _, _ => .bad
/-- data that may be compared -/
def cmpOk (d e : PyData) : Bool := d.plain && e.plain && decide (min d.depth e.depth ≤ 64)
def oEq (d e : PyData) : Rs PyData := if cmpOk d e then .ok (.bool (PyData.eqv d e)) else .bad
def oNe (d e : PyData) : Rs PyData := if cmpOk d e then .ok (.bool (!PyData.eqv d e)) else .bad
def oLt : PyData → PyData → Rs PyData
  | .int i, .int j => .ok (.bool (decide (i < j)))
  | _, _ => .bad
def oLe : PyData → PyData → Rs PyData
  | .int i, .int j => .ok (.bool (decide (i ≤ j)))
  | _, _ => .bad
def oGt : PyData → PyData → Rs PyData
  | .int i, .int j => .ok (.bool (decide (j < i)))
  | _, _ => .bad
def oGe : PyData → PyData → Rs PyData
  | .int i, .int j => .ok (.bool (decide (j ≤ i)))
  | _, _ => .bad
def oIsN : PyData → Rs PyData
  | .none => .ok (.bool true)
  | _ => .ok (.bool false)
def oNotN : PyData → Rs PyData
  | .none => .ok (.bool false)
  | _ => .ok (.bool true)
def oIx : PyData → PyData → Rs PyData
  | .list xs, .int i => match atI xs i with | some d => .ok d | none => .bad
  | .tuple xs, .int i => match atI xs i with | some d => .ok d | none => .bad
  | .dict [(.none, .list xs)], .int i => match atI xs i with | some d => .ok d | none => .bad
  | .str z, .int i => if z.length ≤ mx then (match atI z.cps.toList i with | some c => .ok (.str ⟨#[c]⟩) | none => .bad) else .bad
  | _, _ => .bad
def oLen : PyData → Rs PyData
  | .list xs => .ok (.int xs.length)
  | .tuple xs => .ok (.int xs.length)
  | .str z => if z.length ≤ mx then .ok (.int z.length) else .bad
  | .dict [(.none, .list xs)] => .ok (.int xs.length)
  | _ => .bad
def oInt : PyData → Rs PyData
  | .int i => .ok (.int i)
  | .bool b => .ok (.int (if b then 1 else 0))
  | _ => .bad
def oStr : PyData → Rs PyData
  | .int i => if i.natAbs.log2 < 1920 then .ok (.str (toString i)) else .bad
  | _ => .bad
def oTuple : PyData → Rs PyData
  | .list xs => .ok (.tuple xs)
  | .tuple xs => .ok (.tuple xs)
  | _ => .bad
def oList : PyData → Rs PyData
  | .list xs => .ok (.list xs)
  | .tuple xs => .ok (.list xs)
  | _ => .bad
def oMin2 : PyData → PyData → Rs PyData
  | .int i, .int j => .ok (.int (if j < i then j else i))
  | _, _ => .bad
def oMax2 : PyData → PyData → Rs PyData
  | .int i, .int j => .ok (.int (if j > i then j else i))
  | _, _ => .bad
/-- the truth of what is tested -/
def oTru : PyData → Rs Bool
  | .bool b => .ok b
  | _ => .bad

/-! ### rules: names, constants -/
section
variable {X : Cx} {W : WX} {a b c : Expr} {fa fb fc : En → Rs PyData} {pos : Pos}
theorem DE.be (h : DE X W a fa) : BE X W a fa := PE.imp h fun σ H Q ⟨ρ, O, H0, s, r⟩ => ⟨ρ, O, H0, s, r.toRK⟩
def dVar (i : Nat) : En → Rs PyData := fun ρ => match ρ[i]? with
  | some (some (.val d)) => .ok d
  | _ => .bad
def bVar (i : Nat) : En → Rs PyData := fun ρ => match ρ[i]? with
  | some (some (.val d)) => .ok d
  | some (some (.own d)) => .ok d
  | _ => .bad
theorem de_var (i : Nat) {x : Str} (hN : X.N[i]? = some x := by rfl) (hv : Vis X.env.scope x := by first | exact Or.inl rfl | exact Or.inr (Or.inl rfl) | exact Or.inr (Or.inr rfl)) (hd : (x == ("__debug__" : Str)) = false := by decide)
    (hcd : (x == ("__classdict__" : Str)) = false := by decide) : DE X W (.Name x pos) (dVar i) :=
  PE.imp (pe_var hN hv hd hcd) fun σ H Q ⟨ρ, O, H0, s, r⟩ => by
    unfold dVar at r
    split at r
    · rename_i d e
      obtain ⟨x, e1, v, e2, rp⟩ := s.slots.get e
      subst e2
      exact ⟨v, e1, r.here rp⟩
    · exact r.elim
theorem be_var (i : Nat) {x : Str} (hN : X.N[i]? = some x := by rfl) (hv : Vis X.env.scope x := by first | exact Or.inl rfl | exact Or.inr (Or.inl rfl) | exact Or.inr (Or.inr rfl)) (hd : (x == ("__debug__" : Str)) = false := by decide)
    (hcd : (x == ("__classdict__" : Str)) = false := by decide) : BE X W (.Name x pos) (bVar i) :=
  PE.imp (pe_var hN hv hd hcd) fun σ H Q ⟨ρ, O, H0, s, r⟩ => by
    unfold bVar at r
    split at r
    · rename_i d e
      obtain ⟨x, e1, v, e2, rp⟩ := s.slots.get e
      subst e2
      exact ⟨v, e1, r H v (Gr.refl H) (.inl rp)⟩
    · rename_i d e
      obtain ⟨x, e1, a, e2, rp⟩ := s.slots.get e
      subst e2
      exact ⟨.ref a, e1, r H (.ref a) (Gr.refl H) (.inr ⟨a, rfl, rp⟩)⟩
    · exact r.elim
def dC (d : PyData) : En → Rs PyData := fun _ => .ok d
theorem de_int {i : Int} {j : Nat} : DE X W (.Constant (.int i) j pos) (dC (.int i)) := PE.imp pe_int fun σ H Q ⟨ρ, O, H0, s, r⟩ => RK.here r (.int i)
theorem de_bl {i : Bool} {j : Nat} : DE X W (.Constant (.bool i) j pos) (dC (.bool i)) := PE.imp pe_bl fun σ H Q ⟨ρ, O, H0, s, r⟩ => RK.here r (.bl i)
theorem de_non {j : Nat} : DE X W (.Constant .none j pos) (dC .none) := PE.imp pe_non fun σ H Q ⟨ρ, O, H0, s, r⟩ => RK.here r .non
theorem de_str {i : Str} {j : Nat} : DE X W (.Constant (.str i) j pos) (dC (.str i)) := PE.imp pe_str fun σ H Q ⟨ρ, O, H0, s, r⟩ => RK.here r (.str i)
/-- a module's constant: an int, a text -/
theorem de_globI {x : Str} {i : Int} {t : Tok} (hg : Gl X x) (hm : X.mg x = some (.int i t)) (hd : (x == ("__debug__" : Str)) = false := by decide) : DE X W (.Name x pos) (dC (.int i)) :=
  PE.imp (pe_glob (v := .int i) hg hm ⟨t, rfl⟩ hd) fun σ H Q ⟨ρ, O, H0, s, r⟩ => RK.here r (.int i)
theorem de_globS {x : Str} {i : Str} {t : Tok} (hg : Gl X x) (hm : X.mg x = some (.str i t)) (hd : (x == ("__debug__" : Str)) = false := by decide) : DE X W (.Name x pos) (dC (.str i)) :=
  PE.imp (pe_glob (v := .str i) hg hm ⟨t, rfl⟩ hd) fun σ H Q ⟨ρ, O, H0, s, r⟩ => RK.here r (.str i)

/-! ### operators -/
def b1 (op : PyData → Rs PyData) (fa : En → Rs PyData) : En → Rs PyData := fun ρ => (fa ρ).bind op
def b2 (op : PyData → PyData → Rs PyData) (fa fb : En → Rs PyData) : En → Rs PyData := fun ρ => (fa ρ).bind fun d => (fb ρ).bind fun e => op d e
/-- an operation by values keeps to op -/
def Ok2 (X : Cx) (r : R2) (op : PyData → PyData → Rs PyData) : Prop := ∀ (W : WX) (O : List Addr) (σ : L2.St) (H : Hp) (Q : VK) (x y : V) (d e : PyData), (∀ a ∈ O, H a ≠ none) → RpB X.K O H x d → RpB X.K O H y e → RK X.K X.mg W O σ H Q (op d e) → r x y H Q
theorem go2 {r : R2} {op : PyData → PyData → Rs PyData} (h : Ok2 X r op) {σ : L2.St} {H : Hp} {Q : VK} (q : tD X.K X.mg W (b2 op fa fb) σ H Q) : tOp r (tB' X.K X.mg W fa) (tB' X.K X.mg W fb) σ H Q := by
  obtain ⟨ρ, O, H0, s, q⟩ := q
  refine ⟨ρ, O, H0, s, RKB.of q fun d H1 v g1 r1 q1 => ⟨ρ, O, H0, s.grow g1, RKB.of q1 fun e H2 u g2 r2 q2 => ?_⟩⟩
  exact h W _ σ H2 Q v u d e ((s.grow g1).grow g2).there (r1.grow g2) r2 q2
theorem de_op {op : Operator} {r : R2} {o : PyData → PyData → Rs PyData} (hr : OpR X (binaryOp op) r) (h : Ok2 X r o) (ha : BE X W a fa) (hb : BE X W b fb) : DE X W (.BinOp a op b pos) (b2 o fa fb) :=
  PE.imp (pe_op hr ha hb) fun _ _ _ q => go2 h q
theorem de_cmp {op : CmpOp} {r : R2} {o : PyData → PyData → Rs PyData} (hr : OpR X (compareOp op) r) (h : Ok2 X r o) (ha : BE X W a fa) (hb : BE X W b fb) (hm : behindInMarks op b = false) : DE X W (.Compare a [op] [b] pos) (b2 o fa fb) :=
  PE.imp (pe_cmpR hr ha hb hm) fun _ _ _ q => go2 h q
/-- a value as a test -/
def tst (f : En → Rs PyData) : En → Rs Bool := fun ρ => (f ρ).bind oTru
theorem tst_ok {f : En → Rs PyData} {σ : L2.St} {H : Hp} {Q : Bool → Hp → Prop} (q : tT X.K X.mg W (tst f) σ H Q) : tD X.K X.mg W f σ H fun x H' => ∃ k, x = .bl k ∧ Q k H' := by
  obtain ⟨ρ, O, H0, s, q⟩ := q
  refine ⟨ρ, O, H0, s, ?_⟩
  unfold tst at q
  cases e : f ρ with
  | ok d =>
    rw [e] at q
    intro H' v g rp
    cases d with
    | bool b =>
      cases rp
      exact ⟨b, rfl, q H' g⟩
    | _ => exact q.elim
  | ex x => rw [e] at q; exact q
  | bad => rw [e] at q; exact q
theorem dt_cmp {op : CmpOp} {r : R2} {o : PyData → PyData → Rs PyData} (hr : OpR X (compareOp op) r) (h : Ok2 X r o) (ha : BE X W a fa) (hb : BE X W b fb) (hm : behindInMarks op b = false) : DT X W (.Compare a [op] [b] pos) (tst (b2 o fa fb)) :=
  PT.imp (pt_cmpR hr ha hb hm) fun _ _ _ q => go2 h (tst_ok q)
theorem dt_val {f : En → Rs PyData} (h : DE X W a f) (he : ∀ whole, isTrue a X.env whole = (do let v ← whole; standAt a.pos; holding [v] (truthy v)) := by intro _; rfl) : DT X W a (tst f) :=
  PT.imp (pt_val h he) fun _ _ _ q => tst_ok q

/-! ### and, or, not; a if t else b -/
def tAndD (f g : En → Rs Bool) : En → Rs Bool := fun ρ => (f ρ).bind fun c => if c then g ρ else .ok false
def tOrD (f g : En → Rs Bool) : En → Rs Bool := fun ρ => (f ρ).bind fun c => if c then .ok true else g ρ
def tNotD (f : En → Rs Bool) : En → Rs Bool := fun ρ => (f ρ).bind fun c => .ok (!c)
abbrev DW (X : Cx) (W : WX) (e : Expr) (f : En → Rs Bool) : Prop := PW X e (tT X.K X.mg W f)
theorem PW.imp {X : Cx} {e : Expr} {t t' : TT} (h : PW X e t) (i : ∀ σ H Q, t' σ H Q → t σ H Q) : PW X e t' := ⟨fun wh pins s σ H Q I q => h.run wh pins s σ H Q I (i σ H Q q)⟩
variable {ga gb : En → Rs Bool} {rest : List Expr}
theorem dw_and1 (ha : DT X W a ga) : DW X W (.BoolOp .And [a] pos) ga := pw_and1 ha
theorem dw_or1 (ha : DT X W a ga) : DW X W (.BoolOp .Or [a] pos) ga := pw_or1 ha
theorem dw_and (ha : DT X W a ga) (hb : DW X W (.BoolOp .And (b :: rest) pos) gb) : DW X W (.BoolOp .And (a :: b :: rest) pos) (tAndD ga gb) :=
  PW.imp (pw_and ha hb) fun σ H Q ⟨ρ, O, H0, s, q⟩ => ⟨ρ, O, H0, s, RKT.ofT q fun c H1 g q1 => by
    cases c with
    | true => exact ⟨ρ, O, H0, s.grow g, q1⟩
    | false => exact q1 H1 (Gr.refl _)⟩
theorem dw_or (ha : DT X W a ga) (hb : DW X W (.BoolOp .Or (b :: rest) pos) gb) : DW X W (.BoolOp .Or (a :: b :: rest) pos) (tOrD ga gb) :=
  PW.imp (pw_or ha hb) fun σ H Q ⟨ρ, O, H0, s, q⟩ => ⟨ρ, O, H0, s, RKT.ofT q fun c H1 g q1 => by
    cases c with
    | true => exact q1 H1 (Gr.refl _)
    | false => exact ⟨ρ, O, H0, s.grow g, q1⟩⟩
theorem dt_w {e : Expr} (h : DW X W e ga) : DT X W e ga := h.pt
theorem dt_not (ha : DT X W a ga) : DT X W (.UnaryOp .Not a pos) (tNotD ga) :=
  PT.imp (pt_not ha) fun σ H Q ⟨ρ, O, H0, s, q⟩ => ⟨ρ, O, H0, s, RKT.ofT q fun c H1 g q1 => q1 H1 (Gr.refl _)⟩
end
end DL

namespace DL
open PySem PySem.Spec PyProof.Rows L2

section
variable {K : PySem.W.Frag} {mg : Str → Option Value} {W : WX} {O : List Addr} {σ : L2.St} {H : Hp} {Q : VK}
theorem RpAll.nil_iff {xs : List V} {ds : List PyData} (h : RpAll K H xs ds) : xs = [] ↔ ds = [] := by
  have e := h.length
  constructor
  · intro z
    rw [z] at e
    exact List.length_eq_zero_iff.mp e.symm
  · intro z
    rw [z] at e
    exact List.length_eq_zero_iff.mp e
theorem RpAll.rangeV (lo : Int) : ∀ n : Nat, RpAll K H ((List.range n).map fun i => V.int (lo + (i : Nat))) ((List.range n).map fun i => PyData.int (lo + (i : Nat)))
  | 0 => .nil
  | n + 1 => by
    rw [List.range_succ, List.map_append, List.map_append]
    exact (RpAll.rangeV lo n).append (.cons (.int _) .nil)
theorem RpB.tupleRp {v : V} {ds : List PyData} (h : RpB K O H v (.tuple ds)) : Rp K (hide H O) v (.tuple ds) := by
  rcases h with h | ⟨a, rfl, ⟨xs, es, e, _⟩ | ⟨_, _, e, _⟩ | ⟨_, _, e, _⟩⟩
  · exact h
  all_goals cases e
theorem RK.newT {ds : List PyData} {xs : List V} {p : Addr} (h : RK K mg W O σ H Q (.ok (.tuple ds))) (th : ∀ a ∈ O, H a ≠ none) (hp : H p = none) (hl : xs.length ≤ mx) (r : RpAll K (hide H O) xs ds) : ∀ o : Obj, o.dict = none → Q (.ref p) (upd H p (.frz o (.tup xs))) := fun o od => by
  have np : p ∉ O := fun z => th p z hp
  refine h.new hp (.tup (.inl ⟨o, ?_, od⟩) hl (r.mono (hide_same _ (same_upd hp))))
  rw [hide_out np, upd_same]
theorem RK.newL {ds : List PyData} {xs : List V} {p : Addr} (h : RK K mg W O σ H Q (.ok (.list ds))) (th : ∀ a ∈ O, H a ≠ none) (hp : H p = none) (hl : xs.length ≤ mx) (r : RpAll K (hide H O) xs ds) : Q (.ref p) (upd H p (.lst xs)) := by
  have np : p ∉ O := fun z => th p z hp
  refine h.new hp (.lst (.inl ?_) hl (r.mono (hide_same _ (same_upd hp))))
  rw [hide_out np, upd_same]
end

section
variable {X : Cx} {W : WX} {a b c : Expr} {fa fb fc : En → Rs PyData} {pos : Pos}
/-! ### + - * % // ** -/
/-- lists that may be locked -/
def rCatR : R2 := fun x y H Q => ∃ l b xs zs, x = .ref l ∧ y = .ref b ∧ Rd H l (.lst xs) ∧ Rd H b (.lst zs) ∧ xs.length + zs.length ≤ sizeLine ∧ ∀ p, H p = none → Q (.ref p) (upd H p (.lst (xs ++ zs)))
theorem lst_rd {pins : List (Addr × Obj)} {σ : L2.St} {H : Hp} {s : Shared} {l : Addr} {xs : List V} (I : Inv X pins σ H s) (h : Rd H l (.lst xs)) : xs.length ≤ sizeLine ∧ ∃ (its : List Value) (n : Nat), Vals xs its ∧ xs.length = its.length ∧ s.heap.get? l = some { cls := .type "list", data := .seq its.toArray n } := by
  obtain ⟨z, its, n, r, e⟩ := h.ok I.hok
  exact ⟨z, its, n, r, r.length, e⟩
theorem op_catR : OpR X (binaryOp .Add) rCatR := by
  intro pins s σ H x y v u Q I rx ry h
  obtain ⟨l, b, xs, zs, rfl, rfl, hH, hB, hz, q⟩ := h
  cases rx
  cases ry
  obtain ⟨z, its, n, r, hl, e⟩ := lst_rd I hH
  obtain ⟨z2, its2, n2, r2, hl2, e2⟩ := lst_rd I hB
  refine PySem.P.add_list e e2 ?_ (by rw [List.size_toArray, List.size_toArray]; omega)
  have ea : its.toArray ++ its2.toArray = (its ++ its2).toArray := by simp
  rw [ea]
  exact ⟨.ref _, _, I.lnew (t' := s.toks) (r.append r2) (by rw [List.length_append]; omega), rfl, q _ I.fresh⟩
/-- tuples: what is new has no dict -/
def rCatN (K : PySem.W.Frag) : R2 := fun x y H Q => ∃ a b xs ys, x = .ref a ∧ y = .ref b ∧ SqT K H a xs ∧ SqT K H b ys ∧ xs.length + ys.length ≤ sizeLine ∧
  (xs = [] → Q (.ref b) H) ∧ (xs ≠ [] → ys = [] → Q (.ref a) H) ∧ (xs ≠ [] → ys ≠ [] → ∀ p, H p = none → ∀ o : Obj, o.dict = none → Q (.ref p) (upd H p (.frz o (.tup (xs ++ ys)))))
theorem op_catN : OpR X (binaryOp .Add) (rCatN X.K) := by
  intro pins s σ H x y v u Q I rx ry h
  obtain ⟨a, b, xs, ys, rfl, rfl, ha, hb, hz, q0, q1, q2⟩ := h
  cases rx
  cases ry
  obtain ⟨its, r1, p1, _⟩ := I.tuple ha
  obtain ⟨its2, r2, p2, _⟩ := I.tuple hb
  by_cases hx : xs = []
  · subst hx
    cases r1
    exact cat_tup0 p1 p2 ⟨.ref b, H, I, rfl, q0 rfl⟩
  · refine HT.cat_tup p1 p2 (fun z => hx (r1.nil_iff.mp z)) (fun z => ⟨.ref a, H, I, rfl, q1 hx (r2.nil_iff.mp z)⟩) (fun z => ?_) (by rw [← r1.length, ← r2.length]; exact hz)
    refine ⟨.ref s.heap.objs.size, _, I.laid (t' := s.toks) (o := .frz _ (.tup (xs ++ ys))) (fun b ob q => Heap.get?_push_of_some _ q) (Nat.le_refl _) ⟨Heap.get?_push_size _ rfl, ?_⟩, rfl, q2 hx (fun w => z (r2.nil_iff.mpr w)) _ (I.hok.fresh (Nat.le_refl _)) _ rfl⟩
    exact ⟨by rw [List.length_append]; exact hz, _, r1.append r2, IsTup.new _ _⟩
def rAddD (K : PySem.W.Frag) : R2 := fun x y H Q => (rI0 fun i j => .int (i + j)) x y H Q ∨ (∃ i j, x = .str i ∧ y = .str j ∧ i.length + j.length ≤ sizeLine ∧ Q (.str (i ++ j)) H) ∨ rCatN K x y H Q ∨ rCatR x y H Q
theorem op_addD : OpR X (binaryOp .Add) (rAddD X.K) := op_add.or (op_add_str.or (op_catN.or op_catR))
theorem ok_add : Ok2 X (rAddD X.K) oAdd := by
  intro W O σ H Q x y d e th rx ry q
  unfold oAdd at q
  split at q
  · cases rx.int
    cases ry.int
    exact .inl ⟨_, _, rfl, rfl, q.here (.int _)⟩
  · rename_i i j
    cases rx.str
    cases ry.str
    split at q
    · rename_i hz
      exact .inr (.inl ⟨_, _, rfl, rfl, by rw [← mx_line]; exact hz, q.here (.str _)⟩)
    · exact q.elim
  · rename_i i j
    have tX := rx.tupleRp
    have tY := ry.tupleRp
    obtain ⟨p, xs, rfl, hx, lx, rX⟩ := rx.tuple
    obtain ⟨p', ys, rfl, hy, ly, rY⟩ := ry.tuple
    split at q
    · rename_i hz
      have hz' : xs.length + ys.length ≤ mx := by rw [rX.length, rY.length]; exact hz
      refine .inr (.inr (.inl ⟨p, p', xs, ys, rfl, rfl, hx, hy, by rw [← mx_line]; exact hz', fun e => ?_, fun h1 h2 => ?_, fun h1 h2 u hu => ?_⟩))
      · have e' := rX.nil_iff.mp e
        subst e'
        exact q.here tY
      · have e' := rY.nil_iff.mp h2
        subst e'
        rw [List.append_nil] at q
        exact q.here tX
      · exact q.newT th hu (by rw [List.length_append]; exact hz') (rX.append rY)
    · exact q.elim
  · rename_i i j
    obtain ⟨p, xs, rfl, hx, lx, rX⟩ := rx.list
    obtain ⟨p', ys, rfl, hy, ly, rY⟩ := ry.list
    split at q
    · rename_i hz
      have hz' : xs.length + ys.length ≤ mx := by rw [rX.length, rY.length]; exact hz
      exact .inr (.inr (.inr ⟨p, p', xs, ys, rfl, rfl, hx, hy, by rw [← mx_line]; exact hz', fun u hu => q.newL th hu (by rw [List.length_append]; exact hz') (rX.append rY)⟩))
    · exact q.elim
  · exact q.elim
theorem ok_sub : Ok2 X (rI0 fun i j => .int (i - j)) oSub := by
  intro W O σ H Q x y d e th rx ry q
  unfold oSub at q
  split at q
  · cases rx.int
    cases ry.int
    exact ⟨_, _, rfl, rfl, q.here (.int _)⟩
  · exact q.elim
theorem RpAll.rep {K : PySem.W.Frag} {H : Hp} {xs : List V} {ds : List PyData} (h : RpAll K H xs ds) : ∀ n : Nat, RpAll K H (List.replicate n xs).flatten (List.replicate n ds).flatten
  | 0 => .nil
  | n + 1 => by
    rw [List.replicate_succ, List.replicate_succ, List.flatten_cons, List.flatten_cons]
    exact h.append (RpAll.rep h n)
/-- a list that may be locked, times an int -/
def rRepR : R2 := fun x y H Q => ∃ l k xs, x = .ref l ∧ y = .int k ∧ Rd H l (.lst xs) ∧ -(2 ^ 63) ≤ k ∧ k < 2 ^ 63 ∧ xs.length * k.toNat ≤ sizeLine ∧
  ∀ p, H p = none → Q (.ref p) (upd H p (.lst (List.replicate k.toNat xs).flatten))
theorem op_repR : OpR X (binaryOp .Mult) rRepR := by
  intro pins s σ H x y v u Q I rx ry h
  obtain ⟨l, k, xs, rfl, rfl, hH, h1, h2, hz, q⟩ := h
  cases rx
  obtain ⟨t, rfl⟩ := ry
  obtain ⟨z, its, n, r, hl, e⟩ := lst_rd I hH
  have hlen : its.toArray.size * k.toNat ≤ sizeLine := by rw [List.size_toArray, ← hl]; exact hz
  have hcap : ¬ its.toArray.size * k.toNat > (2 ^ 63 - 1) / 8 := by
    have : (sizeLine : Nat) ≤ (2 ^ 63 - 1) / 8 := by decide
    omega
  have hfit : ¬ (!Builtin.List.listFitsIndex k) = true := by
    rw [fitsIndex_both h1 h2]
    exact Bool.false_ne_true
  have hlong : ¬ Builtin.List.listTooLong (its.toArray.size * k.toNat) = true := by
    rw [notLongL hlen]
    exact Bool.false_ne_true
  have hnew : List.foldl (fun x1 x2 => x1 ++ x2) #[] (List.replicate (if its.toArray.isEmpty = true then 0 else k.toNat) its.toArray) = (List.replicate k.toNat its).flatten.toArray := by
    have f0 : ∀ m : Nat, List.foldl (fun x1 x2 => x1 ++ x2) #[] (List.replicate m its.toArray) = (List.replicate m its).flatten.toArray := fun m => by
      have := foldl_rep its m []
      rw [List.nil_append] at this
      exact this
    rw [f0]
    cases its with
    | nil => simp
    | cons a r' => rw [if_neg (by simp)]
  refine wpAny_binaryOp_repeat_ref (T := "list") (U := "int") (by decide) ⟨_, e, rfl⟩ (fun s' => typeIs_int s' k t) noFill_list_mul F.fills_int_mul F.slot_int_rmul repeat_list F.slot_int_index.lookup
    (call_meets F.slot_int_rmul (typeIs_int s k t) F.entry_int_rmul (F.args_int_rmul_2 _ _) (int___rmul___int_list k t l its.toArray n)
      ⟨e, rfl, ⟨_, e, rfl⟩, call_meets F.slot_list_mul ⟨_, e, rfl⟩ F.entry_list_mul (F.args_list_mul_2 _ _) (AutoListH.list___mul___list_int_3 l its.toArray n k t hfit hcap hlong) ⟨e, ?_⟩⟩)
  rw [hnew]
  exact ⟨.ref _, _, I.lnew (t' := s.toks) (r.rep k.toNat) (by rw [PyProof.Rows.lm_len_rep_flat, Nat.mul_comm]; exact hz), rfl, q _ I.fresh⟩
def rMulD : R2 := fun x y H Q => (rI CMul fun i j => .int (i * j)) x y H Q ∨ rRepR x y H Q
theorem op_mulD : OpR X (binaryOp .Mult) rMulD := op_mul.or op_repR
theorem ok_mul : Ok2 X rMulD oMul := by
  intro W O σ H Q x y d e th rx ry q
  unfold oMul at q
  split at q
  · rename_i i j
    cases rx.int
    cases ry.int
    split at q
    · rename_i hc
      refine .inl ⟨_, _, rfl, rfl, ?_, q.here (.int _)⟩
      unfold mulOk at hc
      simp only [Bool.or_eq_true, Bool.and_eq_true, decide_eq_true_eq] at hc
      exact hc
    · exact q.elim
  · rename_i i k
    cases ry.int
    obtain ⟨p, xs, rfl, hx, lx, rX⟩ := rx.list
    split at q
    · rename_i hc
      simp only [Bool.and_eq_true, decide_eq_true_eq] at hc
      obtain ⟨⟨h1, h2⟩, h3⟩ := hc
      refine .inr ⟨p, k, xs, rfl, rfl, hx, by omega, by omega, by rw [← mx_line, rX.length]; exact h3, fun u hu => q.newL th hu ?_ (rX.rep _)⟩
      rw [PyProof.Rows.lm_len_rep_flat, Nat.mul_comm, rX.length]
      exact h3
    · exact q.elim
  · exact q.elim
theorem ok_mod : Ok2 X (rI (fun _ j => 0 < j) fun i j => .int (i % j)) oMod := by
  intro W O σ H Q x y d e th rx ry q
  unfold oMod at q
  split at q
  · cases rx.int
    cases ry.int
    split at q
    · rename_i h
      exact ⟨_, _, rfl, rfl, h, q.here (.int _)⟩
    · exact q.elim
  · exact q.elim
theorem ok_div : Ok2 X (rI CDiv fun i j => .int (i / j)) oDiv := by
  intro W O σ H Q x y d e th rx ry q
  unfold oDiv at q
  split at q
  · cases rx.int
    cases ry.int
    split at q
    · rename_i h
      exact ⟨_, _, rfl, rfl, h, q.here (.int _)⟩
    · exact q.elim
  · exact q.elim
theorem ok_pow : Ok2 X (rI CPow fun i j => .int (i ^ j.toNat)) oPow := by
  intro W O σ H Q x y d e th rx ry q
  unfold oPow at q
  split at q
  · cases rx.int
    cases ry.int
    split at q
    · rename_i h
      simp only [Bool.and_eq_true, decide_eq_true_eq] at h
      exact ⟨_, _, rfl, rfl, ⟨h.1.1, h.1.2, h.2⟩, q.here (.int _)⟩
    · exact q.elim
  · exact q.elim

/-! ### comparisons -/
theorem RpB.dp {K : PySem.W.Frag} {O : List Addr} {H : Hp} {v : V} {d : PyData} (h : RpB K O H v d) (p : d.plain = true) : Dp K H v d := h.rp.dp p
def rEqP (A : Around) (K : PySem.W.Frag) (neg : Bool) : R2 := fun x y H Q => ∃ d e, Dp K H x d ∧ Dp K H y e ∧ d.plain = true ∧ e.plain = true ∧ min d.depth e.depth ≤ 64 ∧ Q (.bl (if neg then !PyData.eqv d e else PyData.eqv d e)) H
theorem op_eqP (hu : X.A.units + 64 < cLine) : OpR X (compareOp .Eq) (rEqP X.A X.K false) := by
  intro pins s σ H x y v u Q I rx ry h
  obtain ⟨d, e, hd, he, sd, se, hm, q⟩ := h
  obtain ⟨as, r1⟩ := Dp.reads I d x v hd rx
  obtain ⟨bs, r2⟩ := Dp.reads I e y u he ry
  exact SeqAt.eq_plain r1 r2 sd se (by omega) ⟨.bl _, H, I, rfl, q⟩
theorem op_neP (hu : X.A.units + 64 < cLine) : OpR X (compareOp .NotEq) (rEqP X.A X.K true) := by
  intro pins s σ H x y v u Q I rx ry h
  obtain ⟨d, e, hd, he, sd, se, hm, q⟩ := h
  obtain ⟨as, r1⟩ := Dp.reads I d x v hd rx
  obtain ⟨bs, r2⟩ := Dp.reads I e y u he ry
  exact SeqAt.ne_plain r1 r2 sd se (by omega) ⟨.bl _, H, I, rfl, q⟩
theorem cmpOk_of {d e : PyData} (h : cmpOk d e = true) : d.plain = true ∧ e.plain = true ∧ min d.depth e.depth ≤ 64 := by
  unfold cmpOk at h
  simp only [Bool.and_eq_true, decide_eq_true_eq] at h
  exact ⟨h.1.1, h.1.2, h.2⟩
theorem ok_eq : Ok2 X (rEqP X.A X.K false) oEq := by
  intro W O σ H Q x y d e th rx ry q
  unfold oEq at q
  split at q
  · rename_i h
    obtain ⟨h1, h2, h3⟩ := cmpOk_of h
    exact ⟨d, e, rx.dp h1, ry.dp h2, h1, h2, h3, q.here (.bl _)⟩
  · exact q.elim
theorem ok_ne : Ok2 X (rEqP X.A X.K true) oNe := by
  intro W O σ H Q x y d e th rx ry q
  unfold oNe at q
  split at q
  · rename_i h
    obtain ⟨h1, h2, h3⟩ := cmpOk_of h
    exact ⟨d, e, rx.dp h1, ry.dp h2, h1, h2, h3, q.here (.bl _)⟩
  · exact q.elim
theorem ok_lt : Ok2 X (rI0 fun i j => .bl (decide (i < j))) oLt := by
  intro W O σ H Q x y d e th rx ry q
  unfold oLt at q
  split at q
  · cases rx.int
    cases ry.int
    exact ⟨_, _, rfl, rfl, q.here (.bl _)⟩
  · exact q.elim
theorem ok_le : Ok2 X (rI0 fun i j => .bl (decide (i ≤ j))) oLe := by
  intro W O σ H Q x y d e th rx ry q
  unfold oLe at q
  split at q
  · cases rx.int
    cases ry.int
    exact ⟨_, _, rfl, rfl, q.here (.bl _)⟩
  · exact q.elim
theorem ok_gt : Ok2 X (rI0 fun i j => .bl (decide (j < i))) oGt := by
  intro W O σ H Q x y d e th rx ry q
  unfold oGt at q
  split at q
  · cases rx.int
    cases ry.int
    exact ⟨_, _, rfl, rfl, q.here (.bl _)⟩
  · exact q.elim
theorem ok_ge : Ok2 X (rI0 fun i j => .bl (decide (j ≤ i))) oGe := by
  intro W O σ H Q x y d e th rx ry q
  unfold oGe at q
  split at q
  · cases rx.int
    cases ry.int
    exact ⟨_, _, rfl, rfl, q.here (.bl _)⟩
  · exact q.elim
/-- is None: the right side None -/
def oIs : PyData → PyData → Rs PyData
  | d, .none => oIsN d
  | _, _ => .bad
def oIsNot : PyData → PyData → Rs PyData
  | d, .none => oNotN d
  | _, _ => .bad
theorem RpB.isNon {K : PySem.W.Frag} {O : List Addr} {H : Hp} {v : V} {d : PyData} (h : RpB K O H v d) : (d = .none ∧ v = .non) ∨ (d ≠ .none ∧ v ≠ .non) := by
  rcases h with h | ⟨a, rfl, ⟨xs, es, e, _⟩ | ⟨_, _, e, _⟩ | ⟨_, _, e, _⟩⟩
  · cases h with
    | non => exact .inl ⟨rfl, rfl⟩
    | _ => exact .inr ⟨(fun z => by cases z), (fun z => by cases z)⟩
  all_goals exact .inr ⟨(fun z => by rw [e] at z; cases z), (fun z => by cases z)⟩
theorem oIsN_of {d : PyData} (h : d ≠ .none) : oIsN d = .ok (.bool false) := by
  cases d <;> first | rfl | exact absurd rfl h
theorem oNotN_of {d : PyData} (h : d ≠ .none) : oNotN d = .ok (.bool true) := by
  cases d <;> first | rfl | exact absurd rfl h
theorem ok_is : Ok2 X (fun x y H Q => y = .non ∧ Q (.bl (decide (x = .non))) H) oIs := by
  intro W O σ H Q x y d e th rx ry q
  unfold oIs at q
  split at q
  · refine ⟨ry.none, ?_⟩
    rcases rx.isNon with ⟨rfl, rfl⟩ | ⟨h1, h2⟩
    · exact q.here (.bl _)
    · rw [oIsN_of h1] at q
      rw [decide_eq_false h2]
      exact q.here (.bl _)
  · exact q.elim
theorem ok_isnot : Ok2 X (fun x y H Q => y = .non ∧ Q (.bl (!decide (x = .non))) H) oIsNot := by
  intro W O σ H Q x y d e th rx ry q
  unfold oIsNot at q
  split at q
  · refine ⟨ry.none, ?_⟩
    rcases rx.isNon with ⟨rfl, rfl⟩ | ⟨h1, h2⟩
    · exact q.here (.bl _)
    · rw [oNotN_of h1] at q
      rw [decide_eq_false h2]
      exact q.here (.bl _)
  · exact q.elim

/-! ### a[i], len, int, str, tuple, list, min, max -/
theorem RpAll.atI {K : PySem.W.Frag} {H : Hp} {xs : List V} {ds : List PyData} {i : Int} {d : PyData} (h : RpAll K H xs ds) (e : atI ds i = some d) : ∃ x, L2.atI xs i = some x ∧ Rp K H x d := by
  unfold L2.atI at e ⊢
  rw [h.length]
  cases q : ixN ds.length i with
  | none => rw [q] at e; cases e
  | some j =>
    rw [q] at e
    exact h.get e
theorem ok_ix : Ok2 X (rIx X.K) oIx := by
  intro W O σ H Q x y d e th rx ry q
  unfold oIx at q
  split at q
  · cases ry.int
    obtain ⟨p, xs, rfl, hx, lx, rX⟩ := rx.list
    split at q
    · rename_i z
      obtain ⟨v, e1, r1⟩ := rX.atI z
      exact .inl ⟨p, xs, _, v, rfl, rfl, .inl hx, e1, q.here r1⟩
    · exact q.elim
  · cases ry.int
    obtain ⟨p, xs, rfl, hx, lx, rX⟩ := rx.tuple
    split at q
    · rename_i z
      obtain ⟨v, e1, r1⟩ := rX.atI z
      exact .inr (.inl ⟨p, xs, _, v, rfl, rfl, hx, e1, q.here r1⟩)
    · exact q.elim
  · cases ry.int
    obtain ⟨p, is, rfl, rfl, hx, lx⟩ := rx.scr
    split at q
    · rename_i z
      obtain ⟨v, e1, r1⟩ := (rpAll_ints (K := X.K) (H := hide H O) is).atI z
      exact .inl ⟨p, _, _, v, rfl, rfl, hx, e1, q.here r1⟩
    · exact q.elim
  · cases ry.int
    cases rx.str
    split at q
    · rename_i hz
      split at q
      · rename_i z
        exact .inr (.inr ⟨_, _, _, rfl, rfl, by rw [← mx_line]; exact hz, z, q.here (.str _)⟩)
      · exact q.elim
    · exact q.elim
  · exact q.elim
theorem de_ix (ha : BE X W a fa) (hb : BE X W b fb) (hs : PlainIx b := by exact fun _ _ => rfl) : DE X W (.Subscript a b pos) (b2 oIx fa fb) :=
  PE.imp (pe_ix ix_seq ha hb hs) fun _ _ _ q => go2 ok_ix q
/-- a call of a builtin with one argument -/
def Ok1 (X : Cx) (r : List V → Hp → VK → Prop) (op : PyData → Rs PyData) : Prop := ∀ (W : WX) (O : List Addr) (σ : L2.St) (H : Hp) (Q : VK) (x : V) (d : PyData), (∀ a ∈ O, H a ≠ none) → RpB X.K O H x d → RK X.K X.mg W O σ H Q (op d) → r [x] H Q
theorem go1 {r : List V → Hp → VK → Prop} {op : PyData → Rs PyData} (h : Ok1 X r op) {σ : L2.St} {H : Hp} {Q : VK} (q : tD X.K X.mg W (b1 op fa) σ H Q) : tCB r (tCons (tB' X.K X.mg W fa) tNil) σ H Q := by
  obtain ⟨ρ, O, H0, s, q⟩ := q
  exact ⟨ρ, O, H0, s, RKB.of q fun d H1 v g1 r1 q1 => h W _ σ H1 Q v d (s.grow g1).there r1 q1⟩
def Ok1b (X : Cx) (r : List V → Hp → VK → Prop) (op : PyData → PyData → Rs PyData) : Prop := ∀ (W : WX) (O : List Addr) (σ : L2.St) (H : Hp) (Q : VK) (x y : V) (d e : PyData), (∀ a ∈ O, H a ≠ none) → RpB X.K O H x d → RpB X.K O H y e → RK X.K X.mg W O σ H Q (op d e) → r [x, y] H Q
theorem go1b {r : List V → Hp → VK → Prop} {op : PyData → PyData → Rs PyData} (h : Ok1b X r op) {σ : L2.St} {H : Hp} {Q : VK} (q : tD X.K X.mg W (b2 op fa fb) σ H Q) : tCB r (tCons (tB' X.K X.mg W fa) (tCons (tB' X.K X.mg W fb) tNil)) σ H Q := by
  obtain ⟨ρ, O, H0, s, q⟩ := q
  refine ⟨ρ, O, H0, s, RKB.of q fun d H1 v g1 r1 q1 => ⟨ρ, O, H0, s.grow g1, RKB.of q1 fun e H2 u g2 r2 q2 => ?_⟩⟩
  exact h W _ σ H2 Q v u d e ((s.grow g1).grow g2).there (r1.grow g2) r2 q2
variable {x : Str} {p : Pos}
theorem de_call1 {id : String} {r : List V → Hp → VK → Prop} {op : PyData → Rs PyData} (hc : CallR X (.builtin id) r) (h : Ok1 X r op) (ha : BE X W a fa) (hm : X.mg x = none) (hv : bootBuiltins x = some (.builtin id)) (hg : Gl X x := by rfl) (hn : x ≠ "__name__" := by decide) (hdb : (x == ("__debug__" : Str)) = false := by decide)
    (he : starEach (a :: []) X.env = (false, eval a X.env) :: starEach [] X.env := by rfl) (hpl : (backTo pos (starEach [] X.env)).any (·.1) = false := by rfl) : DE X W (.Call (.Name x p) [a] [] pos) (b1 op fa) :=
  PE.imp (pe_callB hc hg hm hv (pa_cons ha pa_nil he) hn hdb he hpl) fun _ _ _ q => go1 h q
theorem de_callT1 {id : String} {r : List V → Hp → VK → Prop} {op : PyData → Rs PyData} (hc : CallR X (.type id) r) (h : Ok1 X r op) (ha : BE X W a fa) (hm : X.mg x = none) (hv : bootBuiltins x = some (.type id)) (hg : Gl X x := by rfl) (hn : x ≠ "__name__" := by decide) (hdb : (x == ("__debug__" : Str)) = false := by decide)
    (he : starEach (a :: []) X.env = (false, eval a X.env) :: starEach [] X.env := by rfl) (hpl : (backTo pos (starEach [] X.env)).any (·.1) = false := by rfl) : DE X W (.Call (.Name x p) [a] [] pos) (b1 op fa) :=
  PE.imp (pe_callTy hc hg hm hv (pa_cons ha pa_nil he) hn hdb he hpl) fun _ _ _ q => go1 h q
theorem de_call2 {id : String} {r : List V → Hp → VK → Prop} {op : PyData → PyData → Rs PyData} (hc : CallR X (.builtin id) r) (h : Ok1b X r op) (ha : BE X W a fa) (hb : BE X W b fb) (hm : X.mg x = none) (hv : bootBuiltins x = some (.builtin id)) (hg : Gl X x := by rfl) (hn : x ≠ "__name__" := by decide) (hdb : (x == ("__debug__" : Str)) = false := by decide)
    (he : starEach (a :: [b]) X.env = (false, eval a X.env) :: starEach [b] X.env := by rfl) (he2 : starEach (b :: []) X.env = (false, eval b X.env) :: starEach [] X.env := by rfl) (hpl : (backTo pos (starEach [b] X.env)).any (·.1) = false := by rfl) : DE X W (.Call (.Name x p) [a, b] [] pos) (b2 op fa fb) :=
  PE.imp (pe_callB hc hg hm hv (pa_cons ha (pa_cons hb pa_nil he2) he) hn hdb he hpl) fun _ _ _ q => go1b h q
end
end DL

namespace DL
open PySem PySem.Spec PyProof.Rows L2

section
variable {X : Cx} {W : WX} {a b c : Expr} {fa fb fc : En → Rs PyData} {pos : Pos}
/-! ### builtins -/
theorem ok_len : Ok1 X (fun xs H Q => ∃ x n, xs = [x] ∧ LenV X.K x H n ∧ Q (.int n) H) oLen := by
  intro W O σ H Q x d th rx q
  unfold oLen at q
  split at q
  · obtain ⟨p, xs, rfl, hx, lx, rX⟩ := rx.list
    exact ⟨_, _, rfl, .inl ⟨xs, .inl hx, rX.length.symm⟩, q.here (.int _)⟩
  · obtain ⟨p, xs, rfl, hx, lx, rX⟩ := rx.tuple
    exact ⟨_, _, rfl, .inr ⟨xs, hx, rX.length.symm⟩, q.here (.int _)⟩
  · cases rx.str
    split at q
    · rename_i hz
      exact ⟨_, _, rfl, ⟨by rw [← mx_line]; exact hz, rfl⟩, q.here (.int _)⟩
    · exact q.elim
  · obtain ⟨p, is, rfl, rfl, hx, lx⟩ := rx.scr
    exact ⟨_, _, rfl, .inl ⟨_, hx, by rw [List.length_map, List.length_map]⟩, q.here (.int _)⟩
  · exact q.elim
theorem ok_int : Ok1 X (fun xs H Q => (∃ i, xs = [.int i] ∧ Q (.int i) H) ∨ ∃ k, xs = [.bl k] ∧ Q (.int (if k then 1 else 0)) H) oInt := by
  intro W O σ H Q x d th rx q
  unfold oInt at q
  split at q
  · cases rx.int
    exact .inl ⟨_, rfl, q.here (.int _)⟩
  · cases rx.bool
    exact .inr ⟨_, rfl, q.here (.int _)⟩
  · exact q.elim
theorem ok_str : Ok1 X (fun xs H Q => ∃ i, xs = [.int i] ∧ i.natAbs.log2 < 1920 ∧ Q (.str (toString i)) H) oStr := by
  intro W O σ H Q x d th rx q
  unfold oStr at q
  split at q
  · cases rx.int
    split at q
    · rename_i h
      exact ⟨_, rfl, h, q.here (.str _)⟩
    · exact q.elim
  · exact q.elim
def rTupN (K : PySem.W.Frag) : List V → Hp → VK → Prop := fun xs H Q => ∃ p ys, xs = [V.ref p] ∧ ((SqL K H p ys ∧ ∀ l, H l = none → ∀ o : Obj, o.dict = none → Q (.ref l) (upd H l (.frz o (.tup ys)))) ∨ (SqT K H p ys ∧ Q (.ref p) H))
theorem call_tupleN : CallR X (.type "tuple") (rTupN X.K) := by
  intro pins s σ H xs us Q I r h
  obtain ⟨p, ys, rfl, h⟩ := h
  obtain ⟨u, rfl, rx⟩ := vals1 r
  cases rx
  rcases h with ⟨hq, q⟩ | ⟨hq, q⟩
  · obtain ⟨its, r', pl, hz⟩ := I.list hq
    have hlen := r'.length
    refine call_tuple_list pl.isList (fun h' kp => ?_) (by simp only [List.size_toArray] <;> omega)
    have I1 : Inv X pins σ H { s with heap := h' } := I.kept (t' := s.toks) kp
    have I2 : Inv X pins σ (upd H h'.objs.size (.frz { cls := .type "tuple", data := .seq its.toArray } (.tup ys))) { s with heap := h'.push { cls := .type "tuple", data := .seq its.toArray } } :=
      I1.laid (t' := s.toks) (fun b o e => Heap.get?_push_of_some _ e) (Nat.le_refl _) ⟨Heap.get?_push_size _ rfl, (show ObjOk X.prog X.w _ _ _ (.tup ys) from ⟨hz, its, r', IsTup.new _ _⟩)⟩
    exact ⟨.ref h'.objs.size, _, I2, rfl, q _ (I1.hok.fresh (Nat.le_refl _)) _ rfl⟩
  · obtain ⟨its, r', pl, hz⟩ := I.tuple hq
    exact call_tuple_same pl ⟨.ref p, H, I, rfl, q⟩
theorem ok_tuple : Ok1 X (rTupN X.K) oTuple := by
  intro W O σ H Q x d th rx q
  unfold oTuple at q
  split at q
  · obtain ⟨p, xs, rfl, hx, lx, rX⟩ := rx.list
    exact ⟨p, xs, rfl, .inl ⟨.inl hx, fun l hl => q.newT th hl lx rX⟩⟩
  · have r := rx.tupleRp
    obtain ⟨p, xs, rfl, hx, lx, rX⟩ := rx.tuple
    exact ⟨p, xs, rfl, .inr ⟨hx, q.here r⟩⟩
  · exact q.elim
theorem ok_list : Ok1 X (fun xs H Q => ∃ p ys, xs = [.ref p] ∧ (SqL X.K H p ys ∨ SqT X.K H p ys) ∧ ∀ l, H l = none → Q (.ref l) (upd H l (.lst ys))) oList := by
  intro W O σ H Q x d th rx q
  unfold oList at q
  split at q
  · obtain ⟨p, xs, rfl, hx, lx, rX⟩ := rx.list
    exact ⟨p, xs, rfl, .inl (.inl hx), fun l hl => q.newL th hl lx rX⟩
  · obtain ⟨p, xs, rfl, hx, lx, rX⟩ := rx.tuple
    exact ⟨p, xs, rfl, .inr hx, fun l hl => q.newL th hl lx rX⟩
  · exact q.elim
theorem ok_min2 : Ok1b X (fun xs H Q => ∃ i j, xs = [.int i, .int j] ∧ Q (.int (if j < i then j else i)) H) oMin2 := by
  intro W O σ H Q x y d e th rx ry q
  unfold oMin2 at q
  split at q
  · cases rx.int
    cases ry.int
    exact ⟨_, _, rfl, q.here (.int _)⟩
  · exact q.elim
theorem ok_max2 : Ok1b X (fun xs H Q => ∃ i j, xs = [.int i, .int j] ∧ Q (.int (if j > i then j else i)) H) oMax2 := by
  intro W O σ H Q x y d e th rx ry q
  unfold oMax2 at q
  split at q
  · cases rx.int
    cases ry.int
    exact ⟨_, _, rfl, q.here (.int _)⟩
  · exact q.elim

/-! ### isinstance: one built-in class -/
def oIsTup : PyData → Rs PyData
  | .tuple _ => .ok (.bool true)
  | .dict _ => .bad
  | _ => .ok (.bool false)
def oIsLst : PyData → Rs PyData
  | .list _ => .ok (.bool true)
  | .dict _ => .bad
  | _ => .ok (.bool false)
def oIsStr : PyData → Rs PyData
  | .str _ => .ok (.bool true)
  | .dict _ => .bad
  | _ => .ok (.bool false)
def oIsInt : PyData → Rs PyData
  | .int _ => .ok (.bool true)
  | .bool _ => .ok (.bool true)
  | .dict _ => .bad
  | _ => .ok (.bool false)
def oIsBool : PyData → Rs PyData
  | .bool _ => .ok (.bool true)
  | .dict _ => .bad
  | _ => .ok (.bool false)
/-- op tells whether data is of the built-in class T -/
def IsiOp (T : String) (op : PyData → Rs PyData) : Prop :=
  (op .none = .ok (.bool false) ∧ kitB "NoneType" T = some false) ∧ (∀ es, op (.dict es) = .bad) ∧
  (∃ b1 b2 b3 b4 b5 : Bool, (∀ b, op (.bool b) = .ok (.bool b1)) ∧ (∀ b, op (.int b) = .ok (.bool b2)) ∧ (∀ b, op (.str b) = .ok (.bool b3)) ∧ (∀ b, op (.list b) = .ok (.bool b4)) ∧ (∀ b, op (.tuple b) = .ok (.bool b5)) ∧
    kitB "bool" T = some b1 ∧ kitB "int" T = some b2 ∧ kitB "str" T = some b3 ∧ kitB "list" T = some b4 ∧ kitB "tuple" T = some b5)
theorem isi_tup : IsiOp "tuple" oIsTup := ⟨⟨rfl, by decide +kernel⟩, fun _ => rfl, _, _, _, _, _, fun _ => rfl, fun _ => rfl, fun _ => rfl, fun _ => rfl, fun _ => rfl, by decide +kernel, by decide +kernel, by decide +kernel, by decide +kernel, by decide +kernel⟩
theorem isi_lst : IsiOp "list" oIsLst := ⟨⟨rfl, by decide +kernel⟩, fun _ => rfl, _, _, _, _, _, fun _ => rfl, fun _ => rfl, fun _ => rfl, fun _ => rfl, fun _ => rfl, by decide +kernel, by decide +kernel, by decide +kernel, by decide +kernel, by decide +kernel⟩
theorem isi_str : IsiOp "str" oIsStr := ⟨⟨rfl, by decide +kernel⟩, fun _ => rfl, _, _, _, _, _, fun _ => rfl, fun _ => rfl, fun _ => rfl, fun _ => rfl, fun _ => rfl, by decide +kernel, by decide +kernel, by decide +kernel, by decide +kernel, by decide +kernel⟩
theorem isi_int : IsiOp "int" oIsInt := ⟨⟨rfl, by decide +kernel⟩, fun _ => rfl, _, _, _, _, _, fun _ => rfl, fun _ => rfl, fun _ => rfl, fun _ => rfl, fun _ => rfl, by decide +kernel, by decide +kernel, by decide +kernel, by decide +kernel, by decide +kernel⟩
theorem isi_bool : IsiOp "bool" oIsBool := ⟨⟨rfl, by decide +kernel⟩, fun _ => rfl, _, _, _, _, _, fun _ => rfl, fun _ => rfl, fun _ => rfl, fun _ => rfl, fun _ => rfl, by decide +kernel, by decide +kernel, by decide +kernel, by decide +kernel, by decide +kernel⟩
theorem ok_isi {T : String} {op : PyData → Rs PyData} (hI : IsiOp T op) (W : WX) (O : List Addr) (σ : L2.St) (H : Hp) (Q : VK) (x : V) (d : PyData) (rx : RpB X.K O H x d) (q : RK X.K X.mg W O σ H Q (op d)) : rIsi X.K [x, .ty T] H Q := by
  obtain ⟨⟨hn, kn⟩, hd, b1, b2, b3, b4, b5, h1, h2, h3, h4, h5, k1, k2, k3, k4, k5⟩ := hI
  cases d with
  | none =>
    cases rx.none
    rw [hn] at q
    exact ⟨.non, .ty T, _, _, _, rfl, .ty T, .base .non, kit_ty kn, q.here (.bl _)⟩
  | bool b =>
    cases rx.bool
    rw [h1] at q
    exact ⟨.bl b, .ty T, _, _, _, rfl, .ty T, .base (.bl b), kit_ty k1, q.here (.bl _)⟩
  | int b =>
    cases rx.int
    rw [h2] at q
    exact ⟨.int b, .ty T, _, _, _, rfl, .ty T, .base (.int b), kit_ty k2, q.here (.bl _)⟩
  | str b =>
    cases rx.str
    rw [h3] at q
    exact ⟨.str b, .ty T, _, _, _, rfl, .ty T, .base (.str b), kit_ty k3, q.here (.bl _)⟩
  | list b =>
    obtain ⟨p, xs, rfl, hx, lx, rX⟩ := rx.list
    rw [h4] at q
    refine ⟨.ref p, .ty T, _, _, _, rfl, .ty T, ?_, kit_ty k4, q.here (.bl _)⟩
    rcases hx with hx | ⟨o, hx⟩
    · exact .base (.lst hx)
    · exact .base (.frz hx)
  | tuple b =>
    obtain ⟨p, xs, rfl, hx, lx, rX⟩ := rx.tuple
    rw [h5] at q
    refine ⟨.ref p, .ty T, _, _, _, rfl, .ty T, ?_, kit_ty k5, q.here (.bl _)⟩
    rcases hx with (hx | ⟨o, hx⟩) | ⟨o, its, n, hk, hc, _⟩
    · exact .base (.tup hx)
    · exact .fTuple hx
    · exact .kTuple hk hc
  | dict es =>
    rw [hd] at q
    exact q.elim
theorem de_isi {T : String} {op : PyData → Rs PyData} {p p2 : Pos} {y : Str} (hI : IsiOp T op) (ha : BE X W a fa) (hm : X.mg "isinstance" = none) (hm2 : X.mg y = none) (hv : bootBuiltins y = some (.type T)) (hg : Gl X "isinstance" := by rfl) (hg2 : Gl X y := by rfl)
    (hn : y ≠ "__name__" := by decide) (hdb : (y == ("__debug__" : Str)) = false := by decide)
    (he : starEach (a :: [.Name y p2]) X.env = (false, eval a X.env) :: starEach [.Name y p2] X.env := by rfl) (hpl : (backTo pos (starEach [.Name y p2] X.env)).any (·.1) = false := by rfl) :
    DE X W (.Call (.Name "isinstance" p) [a, .Name y p2] [] pos) (b1 op fa) :=
  PE.imp (pe_callB call_isi hg hm (by decide +kernel) (pa_cons ha (pa_cons (pe_bltn (v := .ty T) hg2 hm2 hv rfl hn hdb) pa_nil) he) (by decide) (by decide) he hpl) fun σ H Q ⟨ρ, O, H0, s, q⟩ =>
    ⟨ρ, O, H0, s, RKB.of q fun d H1 v g1 r1 q1 => ok_isi hI W _ σ H1 Q v d r1 q1⟩

/-! ### and, or, not, a if t else b: values -/
def vAnd (f g : En → Rs PyData) : En → Rs PyData := fun ρ => (f ρ).bind fun d => match d with
  | .bool true => g ρ
  | .bool false => .ok (.bool false)
  | _ => .bad
def vOr (f g : En → Rs PyData) : En → Rs PyData := fun ρ => (f ρ).bind fun d => match d with
  | .bool true => .ok (.bool true)
  | .bool false => g ρ
  | _ => .bad
def oNot : PyData → Rs PyData
  | .bool b => .ok (.bool (!b))
  | _ => .bad
variable {rest : List Expr}
theorem de_one {op : BoolOp} (h : DE X W a fa) : DE X W (.BoolOp op [a] pos) fa := pe_one h
theorem de_and (ha : DE X W a fa) (hb : DE X W (.BoolOp .And (b :: rest) pos) fb) : DE X W (.BoolOp .And (a :: b :: rest) pos) (vAnd fa fb) :=
  PE.imp (pe_and ha hb) fun σ H Q ⟨ρ, O, H0, s, q⟩ => ⟨ρ, O, H0, s, RK.of q fun d H1 v g r1 q1 => by
    split at q1
    · cases r1
      exact ⟨true, rfl, ρ, O, H0, s.grow g, q1⟩
    · cases r1
      exact ⟨false, rfl, q1.here (.bl _)⟩
    · exact q1.elim⟩
theorem de_or (ha : DE X W a fa) (hb : DE X W (.BoolOp .Or (b :: rest) pos) fb) : DE X W (.BoolOp .Or (a :: b :: rest) pos) (vOr fa fb) :=
  PE.imp (pe_or ha hb) fun σ H Q ⟨ρ, O, H0, s, q⟩ => ⟨ρ, O, H0, s, RK.of q fun d H1 v g r1 q1 => by
    split at q1
    · cases r1
      exact ⟨true, rfl, q1.here (.bl _)⟩
    · cases r1
      exact ⟨false, rfl, ρ, O, H0, s.grow g, q1⟩
    · exact q1.elim⟩
theorem de_not (ha : DE X W a fa) : DE X W (.UnaryOp .Not a pos) (b1 oNot fa) :=
  PE.imp (pe_not ha) fun σ H Q ⟨ρ, O, H0, s, q⟩ => ⟨ρ, O, H0, s, RK.of q fun d H1 v g r1 q1 => by
    unfold oNot at q1
    split at q1
    · cases r1
      exact ⟨_, rfl, q1.here (.bl _)⟩
    · exact q1.elim⟩
def vIf (t : En → Rs Bool) (f g : En → Rs PyData) : En → Rs PyData := fun ρ => (t ρ).bind fun c => if c then f ρ else g ρ
theorem de_ifExp {t : En → Rs Bool} (hc : DT X W c t) (ha : DE X W a fa) (hb : DE X W b fb) : DE X W (.IfExp c a b pos) (vIf t fa fb) :=
  PE.imp (pe_ifExp hc ha hb) fun σ H Q ⟨ρ, O, H0, s, q⟩ => ⟨ρ, O, H0, s, RKT.of q fun k H1 g q1 => by
    cases k with
    | true => exact ⟨ρ, O, H0, s.grow g, q1⟩
    | false => exact ⟨ρ, O, H0, s.grow g, q1⟩⟩
def oNeg : PyData → Rs PyData
  | .int i => .ok (.int (-i))
  | _ => .bad
theorem de_neg (ha : BE X W a fa) : DE X W (.UnaryOp .USub a pos) (b1 oNeg fa) :=
  PE.imp (pe_un un_neg ha) fun σ H Q ⟨ρ, O, H0, s, q⟩ => ⟨ρ, O, H0, s, RKB.of q fun d H1 v g r1 q1 => by
    unfold oNeg at q1
    split at q1
    · cases r1.int
      exact ⟨_, rfl, q1.here (.int _)⟩
    · exact q1.elim⟩

/-! ### argument lists; displays -/
def RKA (K : PySem.W.Frag) (mg : Str → Option Value) (W : WX) (O : List Addr) (σ : L2.St) (H : Hp) (Q : List V → Hp → Prop) : Rs (List PyData) → Prop
  | .ok d => ∀ H' v, Gr H H' → RpAll K (hide H' O) v d → Q v H'
  | .ex e => ∀ H' c dd, Gr H H' → ExR K mg (hide H' O) c dd e → W c dd σ H'
  | .bad => False
theorem RKA.grow {K : PySem.W.Frag} {mg : Str → Option Value} {W : WX} {O : List Addr} {σ : L2.St} {H H1 : Hp} {Q : List V → Hp → Prop} {r : Rs (List PyData)} (g : Gr H H1) (h : RKA K mg W O σ H Q r) : RKA K mg W O σ H1 Q r := by
  cases r with
  | ok d => exact fun H' v g' => h H' v (g.trans g')
  | ex e => exact fun H' c dd g' => h H' c dd (g.trans g')
  | bad => exact h
def tAD (K : PySem.W.Frag) (mg : Str → Option Value) (W : WX) (f : En → Rs (List PyData)) : TA := fun σ H Q => ∃ ρ O H0, SR K O H0 H σ ρ ∧ RKA K mg W (O ++ owned σ ρ) σ H Q (f ρ)
abbrev DA (X : Cx) (W : WX) (es : List Expr) (f : En → Rs (List PyData)) : Prop := PA X es (tAD X.K X.mg W f)
theorem PA.imp {X : Cx} {e : List Expr} {t t' : TA} (h : PA X e t) (i : ∀ σ H Q, t' σ H Q → t σ H Q) : PA X e t' := ⟨fun pos pins s σ H Q I q => h.run pos pins s σ H Q I (i σ H Q q)⟩
def aNil : En → Rs (List PyData) := fun _ => .ok []
def aCons (f : En → Rs PyData) (g : En → Rs (List PyData)) : En → Rs (List PyData) := fun ρ => (f ρ).bind fun d => (g ρ).bind fun ds => .ok (d :: ds)
theorem da_nil : DA X W [] aNil := PA.imp pa_nil fun σ H Q ⟨ρ, O, H0, s, q⟩ => q H [] (Gr.refl H) .nil
theorem RK.ofA {K : PySem.W.Frag} {mg : Str → Option Value} {W : WX} {O : List Addr} {σ : L2.St} {H : Hp} {Q : List V → Hp → Prop} {Q' : VK} {r : Rs PyData} {k : PyData → Rs (List PyData)} (h : RKA K mg W O σ H Q (r.bind k)) (hk : ∀ d H1 v, Gr H H1 → Rp K (hide H1 O) v d → RKA K mg W O σ H1 Q (k d) → Q' v H1) : RK K mg W O σ H Q' r := by
  cases r with
  | ok d => exact fun H' v g rp => hk d H' v g rp (RKA.grow g h)
  | ex e => exact h
  | bad => exact h
theorem RKA.ofA {K : PySem.W.Frag} {mg : Str → Option Value} {W : WX} {O : List Addr} {σ : L2.St} {H : Hp} {Q Q' : List V → Hp → Prop} {r : Rs (List PyData)} {k : List PyData → Rs (List PyData)} (h : RKA K mg W O σ H Q (r.bind k)) (hk : ∀ d H1 v, Gr H H1 → RpAll K (hide H1 O) v d → RKA K mg W O σ H1 Q (k d) → Q' v H1) : RKA K mg W O σ H Q' r := by
  cases r with
  | ok d => exact fun H' v g rp => hk d H' v g rp (RKA.grow g h)
  | ex e => exact h
  | bad => exact h
theorem RKA.of {K : PySem.W.Frag} {mg : Str → Option Value} {W : WX} {O : List Addr} {σ : L2.St} {H : Hp} {Q : VK} {Q' : List V → Hp → Prop} {r : Rs (List PyData)} {k : List PyData → Rs PyData} (h : RK K mg W O σ H Q (r.bind k)) (hk : ∀ d H1 v, Gr H H1 → RpAll K (hide H1 O) v d → RK K mg W O σ H1 Q (k d) → Q' v H1) : RKA K mg W O σ H Q' r := by
  cases r with
  | ok d => exact fun H' v g rp => hk d H' v g rp (RK.grow g h)
  | ex e => exact h
  | bad => exact h
theorem da_cons {es : List Expr} {g : En → Rs (List PyData)} (ha : DE X W a fa) (hr : DA X W es g) (hs : starEach (a :: es) X.env = (false, eval a X.env) :: starEach es X.env := by rfl) : DA X W (a :: es) (aCons fa g) :=
  PA.imp (pa_cons ha hr hs) fun σ H Q ⟨ρ, O, H0, s, q⟩ => ⟨ρ, O, H0, s, RK.ofA q fun d H1 v g1 r1 q1 => ⟨ρ, O, H0, s.grow g1, RKA.ofA q1 fun ds H2 vs g2 r2 q2 => q2 H2 (v :: vs) (Gr.refl _) (.cons (r1.mono (hide_same _ g2)) r2)⟩⟩
def mkT (f : En → Rs (List PyData)) : En → Rs PyData := fun ρ => (f ρ).bind fun ds => if ds.length ≤ mx then .ok (.tuple ds) else .bad
def mkL (f : En → Rs (List PyData)) : En → Rs PyData := fun ρ => (f ρ).bind fun ds => if ds.length ≤ mx then .ok (.list ds) else .bad
/-- a displayed tuple has no dict -/
def tTupN (t : TA) : TE := fun σ H Q => t σ H fun xs H1 => xs.length ≤ sizeLine ∧ ∀ p, H1 p = none → ∀ o : Obj, o.dict = none → Q (.ref p) (upd H1 p (.frz o (.tup xs)))
theorem pe_tupN {es : List Expr} {t : TA} {x1} (h : PA X es t) : PE X (.Tuple es x1 pos) (tTupN t) := by
  refine ⟨fun pins s σ H Q I hq => ?_⟩
  refine wpAny_Tuple_spliced (thn (h.run pos pins s σ H _ I hq) fun us s1 ⟨xs, H1, I1, r, z, q⟩ => ⟨by rw [← r.length]; exact z, ?_⟩)
  have hf : H1 s1.heap.objs.size = none := I1.hok.fresh (Nat.le_refl _)
  refine ⟨.ref s1.heap.objs.size, upd H1 s1.heap.objs.size (.frz _ (.tup xs)), I1.laid (t' := s1.toks) (fun b u e => Heap.get?_push_of_some _ e) (Nat.le_refl _) ⟨Heap.get?_push_size _ rfl, ?_⟩, rfl, q _ hf _ rfl⟩
  exact ⟨z, us, r, ⟨_, Heap.get?_push_size _ rfl, rfl, _, rfl⟩⟩
theorem de_tup {es : List Expr} {k : Nat} {f : En → Rs (List PyData)} (h : DA X W es f) : DE X W (.Tuple es k pos) (mkT f) :=
  PE.imp (pe_tupN h) fun σ H Q ⟨ρ, O, H0, s, q⟩ => ⟨ρ, O, H0, s, RKA.of q fun ds H1 vs g r1 q1 => by
    split at q1
    · rename_i hz
      have hz' : vs.length ≤ mx := by rw [r1.length]; exact hz
      exact ⟨by rw [← mx_line]; exact hz', fun p hp => q1.newT (s.grow g).there hp hz' r1⟩
    · exact q1.elim⟩

/-! ### new objects -/
def RKO (K : PySem.W.Frag) (mg : Str → Option Value) (W : WX) (O : List Addr) (σ : L2.St) (H : Hp) (Q : VK) : Rs PyData → Prop
  | .ok d => ∀ H' a, Gr H H' → H a = none → OwnR K (hide H' (a :: O)) H' a d → Q (.ref a) H'
  | .ex e => ∀ H' c dd, Gr H H' → ExR K mg (hide H' O) c dd e → W c dd σ H'
  | .bad => False
def tO (K : PySem.W.Frag) (mg : Str → Option Value) (W : WX) (f : En → Rs PyData) : TE := fun σ H Q => ∃ ρ O H0, SR K O H0 H σ ρ ∧ RKO K mg W (O ++ owned σ ρ) σ H Q (f ρ)
/-- the value is a new list (a new dict) -/
abbrev OE (X : Cx) (W : WX) (e : Expr) (f : En → Rs PyData) : Prop := PE X e (tO X.K X.mg W f)
theorem OwnR.rpH {K : PySem.W.Frag} {O : List Addr} {H : Hp} {a : Addr} {d : PyData} (h : OwnR K (hide H (a :: O)) H a d) (n : a ∉ O) : Rp K (hide H O) (.ref a) d := by
  have g : Gr (hide H (a :: O)) (hide H O) := hide_less fun b hb => List.mem_cons_of_mem _ hb
  have e : hide H O a = H a := hide_out n
  rcases h with ⟨xs, ds, rfl, h2, h3, h4⟩ | ⟨xs, ds, rfl, h2, h4⟩ | ⟨xs, ds, rfl, h2, h4⟩
  · exact .lst (.inl (e.trans h2)) h3 (h4.mono g)
  · exact .dK (.inl (e.trans h2)) (h4.mono g)
  · exact .dT (.inl (e.trans h2)) (h4.mono g)
theorem OE.de {f : En → Rs PyData} (h : OE X W a f) : DE X W a f := PE.imp h fun σ H Q ⟨ρ, O, H0, s, q⟩ => ⟨ρ, O, H0, s, by
  cases e : f ρ with
  | ok d =>
    rw [e] at q
    exact fun H' a g hn r => q H' _ g (r.rpH (s.fresh hn))
  | ex x => rw [e] at q; exact q
  | bad => rw [e] at q; exact q⟩
theorem RKA.ofO {K : PySem.W.Frag} {mg : Str → Option Value} {W : WX} {O : List Addr} {σ : L2.St} {H : Hp} {Q : VK} {Q' : List V → Hp → Prop} {r : Rs (List PyData)} {k : List PyData → Rs PyData} (h : RKO K mg W O σ H Q (r.bind k))
    (hk : ∀ d H1 v, Gr H H1 → RpAll K (hide H1 O) v d → RKO K mg W O σ H1 Q (k d) → Q' v H1) : RKA K mg W O σ H Q' r := by
  cases r with
  | ok ds =>
    intro H' v g rp
    refine hk ds H' v g rp ?_
    have h' : RKO K mg W O σ H Q (k ds) := h
    cases e : k ds with
    | ok d =>
      rw [e] at h'
      exact fun H2 a g2 hn => h' H2 a (g.trans g2) (by
        cases z : H a with
        | none => rfl
        | some o => rw [g a o z] at hn; cases hn)
    | ex x =>
      rw [e] at h'
      exact fun H2 c dd g2 => h' H2 c dd (g.trans g2)
    | bad =>
      rw [e] at h'
      exact h'
  | ex e => exact h
  | bad => exact h
theorem RKO.newL {K : PySem.W.Frag} {mg : Str → Option Value} {W : WX} {O : List Addr} {σ : L2.St} {H : Hp} {Q : VK} {ds : List PyData} {xs : List V} {p : Addr} (h : RKO K mg W O σ H Q (.ok (.list ds))) (hp : H p = none) (hl : xs.length ≤ mx) (r : RpAll K (hide H O) xs ds) : Q (.ref p) (upd H p (.lst xs)) := by
  refine h _ p (same_upd hp) hp (.inl ⟨xs, ds, rfl, upd_same, hl, r.mono fun a o e => ?_⟩)
  obtain ⟨n, e'⟩ := hide_some e
  have np : a ≠ p := ne_of_none e' hp
  rw [hide_out (by simp only [List.mem_cons, not_or]; exact ⟨np, n⟩), upd_ne np]
  exact e'
theorem oe_lst {es : List Expr} {f : En → Rs (List PyData)} (h : DA X W es f) : OE X W (.List es pos) (mkL f) :=
  PE.imp (pe_lst h) fun σ H Q ⟨ρ, O, H0, s, q⟩ => ⟨ρ, O, H0, s, RKA.ofO q fun ds H1 vs g r1 q1 => by
    split at q1
    · rename_i hz
      have hz' : vs.length ≤ mx := by rw [r1.length]; exact hz
      exact ⟨by rw [← mx_line]; exact hz', fun p hp => q1.newL hp hz' r1⟩
    · exact q1.elim⟩
end
end DL

namespace DL
open PySem PySem.Spec PyProof.Rows L2

/-! ### statements -/
inductive SRes where
  | nx (ρ : En)
  | ret (d : PyData)
  | brk (ρ : En)
  | ct (ρ : En)
  | ex (e : Exn) (ρ : En)
  | bad
def SK (K : PySem.W.Frag) (mg : Str → Option Value) (W : WX) (O : List Addr) (H0 : Hp) (D : Ends) : SRes → Prop
  | .nx ρ => ∀ σ H, SR K O H0 H σ ρ → D.nx σ H
  | .ret d => ∀ v H, Gr H0 H → Rp K (hide H O) v d → D.rt v H
  | .brk ρ => ∀ σ H, SR K O H0 H σ ρ → D.bk σ H
  | .ct ρ => ∀ σ H, SR K O H0 H σ ρ → D.ct σ H
  | .ex e ρ => ∀ c dd σ H, SR K O H0 H σ ρ → ExR K mg (hide H (O ++ owned σ ρ)) c dd e → W c dd σ H
  | .bad => False
def tS (K : PySem.W.Frag) (mg : Str → Option Value) (W : WX) (g : En → SRes) : TS := fun D σ H => ∃ ρ O H0, SR K O H0 H σ ρ ∧ SK K mg W O H0 D (g ρ)
abbrev DS (X : Cx) (W : WX) (st : Stmt) (g : En → SRes) : Prop := PS X st (tS X.K X.mg W g)
abbrev DSs (X : Cx) (W : WX) (st : List Stmt) (g : En → SRes) : Prop := PSs X st (tS X.K X.mg W g)
theorem PS.imp {X : Cx} {e : Stmt} {t t' : TS} (h : PS X e t) (i : ∀ D σ H, t' D σ H → t D σ H) : PS X e t' := ⟨fun pins s σ H D I q => h.run pins s σ H D I (i D σ H q)⟩
theorem PSs.imp {X : Cx} {e : List Stmt} {t t' : TS} (h : PSs X e t) (i : ∀ D σ H, t' D σ H → t D σ H) : PSs X e t' := ⟨fun pins s σ H D I q => h.run pins s σ H D I (i D σ H q)⟩
/-- an expression's result, then a statement's -/
def eS {α : Type} (ρ : En) (r : Rs α) (k : α → SRes) : SRes := match r with
  | .ok d => k d
  | .ex e => .ex e ρ
  | .bad => .bad
@[simp] theorem eS_ok {α : Type} (ρ : En) (d : α) (k : α → SRes) : eS ρ (.ok d) k = k d := Eq.trans rfl rfl
@[simp] theorem eS_ex {α : Type} (ρ : En) (e : Exn) (k : α → SRes) : eS ρ (.ex e : Rs α) k = .ex e ρ := Eq.trans rfl rfl
@[simp] theorem eS_bad {α : Type} (ρ : En) (k : α → SRes) : eS ρ (.bad : Rs α) k = .bad := Eq.trans rfl rfl
def sThen (r : SRes) (k : En → SRes) : SRes := match r with
  | .nx ρ => k ρ
  | r => r
@[simp] theorem then_nx (ρ : En) (k : En → SRes) : sThen (.nx ρ) k = k ρ := Eq.trans rfl rfl
@[simp] theorem then_ret (d : PyData) (k : En → SRes) : sThen (.ret d) k = .ret d := Eq.trans rfl rfl
@[simp] theorem then_brk (ρ : En) (k : En → SRes) : sThen (.brk ρ) k = .brk ρ := Eq.trans rfl rfl
@[simp] theorem then_ct (ρ : En) (k : En → SRes) : sThen (.ct ρ) k = .ct ρ := Eq.trans rfl rfl
@[simp] theorem then_ex (e : Exn) (ρ : En) (k : En → SRes) : sThen (.ex e ρ) k = .ex e ρ := Eq.trans rfl rfl
@[simp] theorem then_bad (k : En → SRes) : sThen .bad k = .bad := Eq.trans rfl rfl

section
variable {K : PySem.W.Frag} {mg : Str → Option Value} {W : WX} {O : List Addr} {H0 H : Hp} {σ : L2.St} {ρ : En} {D : Ends}
theorem SK.expr {r : Rs PyData} {k : PyData → SRes} {Q : VK} (s : SR K O H0 H σ ρ) (h : SK K mg W O H0 D (eS ρ r k)) (hk : ∀ d H1 v, SR K O H0 H1 σ ρ → Rp K (hide H1 (O ++ owned σ ρ)) v d → SK K mg W O H0 D (k d) → Q v H1) : RK K mg W (O ++ owned σ ρ) σ H Q r := by
  cases r with
  | ok d => exact fun H' v g rp => hk d H' v (s.grow g) rp h
  | ex e => exact fun H' c dd g x => h c dd σ H' (s.grow g) x
  | bad => exact h
theorem SK.exprB {r : Rs PyData} {k : PyData → SRes} {Q : VK} (s : SR K O H0 H σ ρ) (h : SK K mg W O H0 D (eS ρ r k)) (hk : ∀ d H1 v, SR K O H0 H1 σ ρ → RpB K (O ++ owned σ ρ) H1 v d → SK K mg W O H0 D (k d) → Q v H1) : RKB K mg W (O ++ owned σ ρ) σ H Q r := by
  cases r with
  | ok d => exact fun H' v g rp => hk d H' v (s.grow g) rp h
  | ex e => exact fun H' c dd g x => h c dd σ H' (s.grow g) x
  | bad => exact h
theorem SK.exprT {α : Type} {r : Rs α} {k : α → SRes} {Q : α → Hp → Prop} (s : SR K O H0 H σ ρ) (h : SK K mg W O H0 D (eS ρ r k)) (hk : ∀ d H1, SR K O H0 H1 σ ρ → SK K mg W O H0 D (k d) → Q d H1) : RKT K mg W (O ++ owned σ ρ) σ H Q r := by
  cases r with
  | ok d => exact fun H' g => hk d H' (s.grow g) h
  | ex e => exact fun H' c dd g x => h c dd σ H' (s.grow g) x
  | bad => exact h
theorem SK.exprO {r : Rs PyData} {k : PyData → SRes} {Q : VK} (s : SR K O H0 H σ ρ) (h : SK K mg W O H0 D (eS ρ r k)) (hk : ∀ d H1 a, Gr H H1 → SR K O H0 H1 σ ρ → H a = none → OwnR K (hide H1 (a :: (O ++ owned σ ρ))) H1 a d → SK K mg W O H0 D (k d) → Q (.ref a) H1) : RKO K mg W (O ++ owned σ ρ) σ H Q r := by
  cases r with
  | ok d => exact fun H' a g hn rp => hk d H' a g (s.grow g) hn rp h
  | ex e => exact fun H' c dd g x => h c dd σ H' (s.grow g) x
  | bad => exact h

/-! ### slots are set -/
theorem owned_set {σ : L2.St} {ρ : En} {i : Nat} {x : Option V} {y : Option SV} {a : Addr} (h : a ∈ owned (σ.set i x) (ρ.set i y)) : a ∈ owned σ ρ ∨ own1 x y = some a := by
  induction σ generalizing ρ i with
  | nil => simp [owned] at h
  | cons u σ ih =>
    cases ρ with
    | nil => simp [owned] at h
    | cons w ρ =>
      cases i with
      | zero =>
        rw [List.set_cons_zero, List.set_cons_zero] at h
        unfold owned at h ⊢
        split at h
        · rename_i b hb
          rcases List.mem_cons.mp h with e | e
          · subst e; exact .inr hb
          · left
            split
            · exact List.mem_cons_of_mem _ e
            · exact e
        · left
          split
          · exact List.mem_cons_of_mem _ h
          · exact h
      | succ i =>
        rw [List.set_cons_succ, List.set_cons_succ] at h
        unfold owned at h ⊢
        split at h
        · rename_i b hb
          rcases List.mem_cons.mp h with e | e
          · subst e; exact .inl List.mem_cons_self
          · rcases ih e with q | q
            · exact .inl (List.mem_cons_of_mem _ q)
            · exact .inr q
        · exact ih h
theorem owned_nd {σ : L2.St} {ρ : En} {i : Nat} {x : Option V} {y : Option SV} (nd : (owned σ ρ).Nodup) (hx : ∀ a, own1 x y = some a → a ∉ owned (σ.set i none) (ρ.set i none)) : (owned (σ.set i x) (ρ.set i y)).Nodup := by
  induction σ generalizing ρ i with
  | nil => simp [owned]
  | cons u σ ih =>
    cases ρ with
    | nil => simp [owned]
    | cons w ρ =>
      have tl : (owned σ ρ).Nodup := by
        unfold owned at nd
        split at nd
        · exact (List.nodup_cons.mp nd).2
        · exact nd
      cases i with
      | zero =>
        rw [List.set_cons_zero, List.set_cons_zero]
        rw [List.set_cons_zero, List.set_cons_zero] at hx
        unfold owned
        split
        · rename_i b hb
          refine List.nodup_cons.mpr ⟨fun z => hx b hb ?_, tl⟩
          show b ∈ owned (none :: σ) (none :: ρ)
          unfold owned own1
          exact z
        · exact tl
      | succ i =>
        rw [List.set_cons_succ, List.set_cons_succ]
        rw [List.set_cons_succ, List.set_cons_succ] at hx
        have hx' : ∀ a, own1 x y = some a → a ∉ owned (σ.set i none) (ρ.set i none) := fun a e z => hx a e (by
          unfold owned
          split
          · exact List.mem_cons_of_mem _ z
          · exact z)
        have r := ih tl hx'
        unfold owned
        split
        · rename_i b hb
          refine List.nodup_cons.mpr ⟨fun z => ?_, r⟩
          rcases owned_set z with q | q
          · unfold owned at nd
            rw [hb] at nd
            exact (List.nodup_cons.mp nd).1 q
          · refine hx b q ?_
            unfold owned
            rw [hb]
            exact List.mem_cons_self
        · exact r
theorem SlotsR.set {G : Hp} (h : SlotsR K G H σ ρ) {i : Nat} {x : Option V} {y : Option SV} (hy : SlotR K G H x y) : SlotsR K G H (σ.set i x) (ρ.set i y) := by
  induction h generalizing i with
  | nil => exact .nil
  | cons h1 h2 ih =>
    cases i with
    | zero => exact .cons hy h2
    | succ i => exact .cons h1 ih
theorem owned_set_sub {i : Nat} {x : Option V} {y : Option SV} (hn : own1 x y = none) : ∀ a ∈ owned (σ.set i x) (ρ.set i y), a ∈ owned σ ρ := fun a h => by
  rcases owned_set h with q | q
  · exact q
  · rw [hn] at q; cases q
/-- a slot takes data -/
theorem SR.setV (s : SR K O H0 H σ ρ) {i : Nat} {v : V} {d : PyData} (r : Rp K (hide H (O ++ owned σ ρ)) v d) : SR K O H0 H (σ.set i (some v)) (ρ.set i (some (.val d))) := by
  have sub := owned_set_sub (σ := σ) (ρ := ρ) (i := i) (x := some v) (y := some (.val d)) (by cases v <;> rfl)
  have g : Gr (hide H (O ++ owned σ ρ)) (hide H (O ++ owned (σ.set i (some v)) (ρ.set i (some (.val d))))) := hide_less fun a ha => by
    rcases List.mem_append.mp ha with h | h
    · exact List.mem_append_left _ h
    · exact List.mem_append_right _ (sub a h)
  refine ⟨s.same, fun a h => s.new a (sub a h), owned_nd s.nd (fun a e => by cases v <;> cases e), s.old, (s.slots.set (x := some v) (y := some (.val d)) (show SlotR K _ H (some v) (some (.val d)) from ⟨v, rfl, r⟩)).mono g fun _ _ _ e => e⟩
/-- a slot is forgotten -/
theorem SR.setN (s : SR K O H0 H σ ρ) {i : Nat} {x : Option V} : SR K O H0 H (σ.set i x) (ρ.set i none) := by
  have hn : own1 x (none : Option SV) = none := by cases x with | none => rfl | some v => cases v <;> rfl
  have sub := owned_set_sub (σ := σ) (ρ := ρ) (i := i) (x := x) (y := none) hn
  have g : Gr (hide H (O ++ owned σ ρ)) (hide H (O ++ owned (σ.set i x) (ρ.set i none))) := hide_less fun a ha => by
    rcases List.mem_append.mp ha with h | h
    · exact List.mem_append_left _ h
    · exact List.mem_append_right _ (sub a h)
  exact ⟨s.same, fun a h => s.new a (sub a h), owned_nd s.nd (fun a e => by rw [hn] at e; cases e), s.old, (s.slots.set (x := x) (y := none) trivial).mono g fun _ _ _ e => e⟩
/-- a slot takes a new object -/
theorem SR.setO {H1 : Hp} (s : SR K O H0 H σ ρ) (g : Gr H H1) {i : Nat} {a : Addr} {d : PyData} (hn : H a = none) (r : OwnR K (hide H1 (a :: (O ++ owned σ ρ))) H1 a d) : SR K O H0 H1 (σ.set i (some (.ref a))) (ρ.set i (some (.own d))) := by
  have na := s.fresh hn
  have nO : a ∉ owned σ ρ := fun z => na (List.mem_append_right _ z)
  have n0 : H0 a = none := by
    cases e : H0 a with
    | none => rfl
    | some o => rw [s.same a o e] at hn; cases hn
  have sub : ∀ b ∈ O ++ owned (σ.set i (some (.ref a))) (ρ.set i (some (.own d))), b ∈ a :: (O ++ owned σ ρ) := fun b hb => by
    rcases List.mem_append.mp hb with h | h
    · exact List.mem_cons_of_mem _ (List.mem_append_left _ h)
    · rcases owned_set h with q | q
      · exact List.mem_cons_of_mem _ (List.mem_append_right _ q)
      · cases q; exact List.mem_cons_self
  have g2 : Gr (hide H (O ++ owned σ ρ)) (hide H1 (a :: (O ++ owned σ ρ))) := fun b o e => by
    obtain ⟨nb, e'⟩ := hide_some e
    have ne : b ≠ a := ne_of_none e' hn
    rw [hide_out (by simp only [List.mem_cons, not_or]; exact ⟨ne, nb⟩)]
    exact g b o e'
  refine ⟨s.same.trans g, fun b hb => ?_, owned_nd s.nd (fun b e => by
    cases e
    intro z
    rcases owned_set z with q | q
    · exact nO q
    · cases q), s.old, ?_⟩
  · rcases owned_set hb with q | q
    · exact s.new b q
    · cases q; exact n0
  · have base : SlotsR K (hide H1 (a :: (O ++ owned σ ρ))) H1 σ ρ := s.slots.mono g2 fun b _ o e => g b o e
    exact (base.set (i := i) (x := some (.ref a)) (y := some (.own d)) (show SlotR K _ H1 (some (.ref a)) (some (.own d)) from ⟨a, rfl, r⟩)).mono (hide_less sub) fun _ _ _ e => e
/-- an own object is changed -/
theorem hide_upd {H : Hp} {O : List Addr} {a : Addr} {o : HO} (h : a ∈ O) : hide (upd H a o) O = hide H O := by
  funext b
  by_cases q : b ∈ O
  · rw [hide_in q, hide_in q]
  · rw [hide_out q, hide_out q, upd_ne fun e => q (by rw [e]; exact h)]
theorem owned_mem {i : Nat} {a : Addr} {d : PyData} (h1 : σ[i]? = some (some (.ref a))) (h2 : ρ[i]? = some (some (.own d))) : a ∈ owned σ ρ := by
  induction σ generalizing ρ i with
  | nil => simp at h1
  | cons u σ ih =>
    cases ρ with
    | nil => simp at h2
    | cons w ρ =>
      unfold owned
      cases i with
      | zero =>
        simp at h1 h2
        subst h1
        subst h2
        exact List.mem_cons_self
      | succ i =>
        have q := ih (ρ := ρ) (i := i) (by simpa using h1) (by simpa using h2)
        split
        · exact List.mem_cons_of_mem _ q
        · exact q
theorem owned_same {i : Nat} {a : Addr} {d d' : PyData} (h1 : σ[i]? = some (some (.ref a))) (h2 : ρ[i]? = some (some (.own d))) : owned σ (ρ.set i (some (.own d'))) = owned σ ρ := by
  induction σ generalizing ρ i with
  | nil => simp at h1
  | cons u σ ih =>
    cases ρ with
    | nil => simp at h2
    | cons w ρ =>
      cases i with
      | zero =>
        simp at h1 h2
        subst h1
        subst h2
        rfl
      | succ i =>
        rw [List.set_cons_succ]
        unfold owned
        rw [ih (ρ := ρ) (i := i) (by simpa using h1) (by simpa using h2)]
/-- the slots but one -/
theorem SlotsR.change {G : Hp} {H' : Hp} (h : SlotsR K G H σ ρ) (nd : (owned σ ρ).Nodup) {i : Nat} {a : Addr} {d d' : PyData} (h1 : σ[i]? = some (some (.ref a))) (h2 : ρ[i]? = some (some (.own d)))
    (e : ∀ b o, b ≠ a → H b = some o → H' b = some o) (r : OwnR K G H' a d') : SlotsR K G H' σ (ρ.set i (some (.own d'))) := by
  induction h generalizing i with
  | nil => exact .nil
  | @cons x y σ ρ k1 k2 ih =>
    cases i with
    | zero =>
      simp at h1 h2
      subst h1
      subst h2
      have nd' : a ∉ owned σ ρ ∧ (owned σ ρ).Nodup := List.nodup_cons.mp nd
      exact .cons ⟨a, rfl, r⟩ (k2.mono (Gr.refl _) fun b hb o q => e b o (fun z => nd'.1 (by rw [← z]; exact hb)) q)
    | succ i =>
      have h1' : σ[i]? = some (some (.ref a)) := by simpa using h1
      have h2' : ρ[i]? = some (some (.own d)) := by simpa using h2
      have ma := owned_mem h1' h2'
      have nd2 : (owned σ ρ).Nodup := by
        unfold owned at nd
        split at nd
        · exact (List.nodup_cons.mp nd).2
        · exact nd
      refine .cons ?_ (ih nd2 h1' h2')
      cases y with
      | none => trivial
      | some sv =>
        cases sv with
        | val d => exact k1
        | own d2 =>
          obtain ⟨b, e1, r1⟩ := k1
          subst e1
          refine ⟨b, rfl, r1.mono (Gr.refl _) fun o q => e b o (fun z => ?_) q⟩
          have nd3 : (b :: owned σ ρ).Nodup := nd
          exact (List.nodup_cons.mp nd3).1 (by rw [z]; exact ma)
theorem SR.change (s : SR K O H0 H σ ρ) {i : Nat} {a : Addr} {d d' : PyData} {o : HO} (h1 : σ[i]? = some (some (.ref a))) (h2 : ρ[i]? = some (some (.own d))) (r : OwnR K (hide H (O ++ owned σ ρ)) (upd H a o) a d') :
    SR K O H0 (upd H a o) σ (ρ.set i (some (.own d'))) := by
  have ma := owned_mem h1 h2
  have eo := owned_same (d' := d') h1 h2
  refine ⟨fun b u e => ?_, by rw [eo]; exact s.new, by rw [eo]; exact s.nd, s.old, ?_⟩
  · rw [upd_ne fun z => by rw [z, s.new a ma] at e; cases e]
    exact s.same b u e
  · rw [eo, hide_upd (List.mem_append_right _ ma)]
    exact s.slots.change s.nd h1 h2 (fun b u n e => by rw [upd_ne n]; exact e) r
/-- an own object becomes data -/
def frz (i : Nat) (ρ : En) : En := match ρ[i]? with
  | some (some (.own d)) => ρ.set i (some (.val d))
  | _ => ρ
theorem set_self {σ : L2.St} {i : Nat} {x : Option V} (h : σ[i]? = some x) : σ.set i x = σ := by
  apply List.ext_getElem?
  intro j
  by_cases e : i = j
  · subst e
    have hl : i < σ.length := (List.getElem?_eq_some_iff.mp h).1
    rw [List.getElem?_set_self hl, h]
  · rw [List.getElem?_set_ne e]
theorem owned_not {i : Nat} {a : Addr} {d d' : PyData} (nd : (owned σ ρ).Nodup) (h1 : σ[i]? = some (some (.ref a))) (h2 : ρ[i]? = some (some (.own d))) : a ∉ owned σ (ρ.set i (some (.val d'))) := by
  induction σ generalizing ρ i with
  | nil => simp at h1
  | cons u σ ih =>
    cases ρ with
    | nil => simp at h2
    | cons w ρ =>
      cases i with
      | zero =>
        simp at h1 h2
        subst h1
        subst h2
        exact (List.nodup_cons.mp nd).1
      | succ i =>
        rw [List.set_cons_succ]
        have h1' : σ[i]? = some (some (.ref a)) := by simpa using h1
        have h2' : ρ[i]? = some (some (.own d)) := by simpa using h2
        have nd2 : (owned σ ρ).Nodup := by
          unfold owned at nd
          split at nd
          · exact (List.nodup_cons.mp nd).2
          · exact nd
        have q := ih nd2 h1' h2'
        unfold owned
        split
        · rename_i b hb
          intro z
          rcases List.mem_cons.mp z with e | e
          · subst e
            unfold owned at nd
            rw [hb] at nd
            exact (List.nodup_cons.mp nd).1 (owned_mem h1' h2')
          · exact q e
        · exact q
theorem SR.frz (s : SR K O H0 H σ ρ) (i : Nat) : SR K O H0 H σ (frz i ρ) := by
  unfold DL.frz
  split
  · rename_i d e
    obtain ⟨x, e1, a, e2, r⟩ := s.slots.get e
    subst e2
    have sub : ∀ b ∈ owned σ (ρ.set i (some (.val d))), b ∈ owned σ ρ := by
      have := owned_set_sub (σ := σ) (ρ := ρ) (i := i) (x := some (.ref a)) (y := some (.val d)) rfl
      rw [set_self e1] at this
      exact this
    have nd' : (owned σ (ρ.set i (some (.val d)))).Nodup := by
      have := owned_nd (σ := σ) (ρ := ρ) (i := i) (x := some (.ref a)) (y := some (.val d)) s.nd (fun a e => by cases e)
      rw [set_self e1] at this
      exact this
    have g : Gr (hide H (O ++ owned σ ρ)) (hide H (O ++ owned σ (ρ.set i (some (.val d))))) := hide_less fun b hb => by
      rcases List.mem_append.mp hb with h | h
      · exact List.mem_append_left _ h
      · exact List.mem_append_right _ (sub b h)
    have ma := owned_mem e1 e
    have naO : a ∉ O := fun z => s.old a z (s.new a ma)
    have nn : a ∉ O ++ owned σ (ρ.set i (some (.val d))) := fun z => by
      rcases List.mem_append.mp z with h | h
      · exact naO h
      · exact owned_not s.nd e1 e h
    have rp : Rp K (hide H (O ++ owned σ (ρ.set i (some (.val d))))) (.ref a) d := by
      rcases r with ⟨xs, ds, rfl, h2, h3, h4⟩ | ⟨xs, ds, rfl, h2, h4⟩ | ⟨xs, ds, rfl, h2, h4⟩
      · exact .lst (.inl (by rw [hide_out nn]; exact h2)) h3 (h4.mono g)
      · exact .dK (.inl (by rw [hide_out nn]; exact h2)) (h4.mono g)
      · exact .dT (.inl (by rw [hide_out nn]; exact h2)) (h4.mono g)
    refine ⟨s.same, fun b hb => s.new b (sub b hb), nd', s.old, ?_⟩
    have q := (s.slots.mono g fun _ _ _ e => e).set (i := i) (x := some (.ref a)) (y := some (.val d)) (show SlotR K _ H (some (.ref a)) (some (.val d)) from ⟨_, rfl, rp⟩)
    rw [set_self e1] at q
    exact q
  · exact s
end
end DL

namespace DL
open PySem PySem.Spec PyProof.Rows L2

section
variable {X : Cx} {W : WX} {a b c e : Expr} {fa fb fc f : En → Rs PyData} {pos : Pos} {st : Stmt} {rest : List Stmt} {g g2 : En → SRes}
/-! ### blocks -/
def sNil : En → SRes := fun ρ => .nx ρ
def sSeq (g1 g2 : En → SRes) : En → SRes := fun ρ => sThen (g1 ρ) g2
theorem dss_nil : DSs X W [] sNil := PSs.imp pss_nil fun D σ H ⟨ρ, O, H0, s, q⟩ => q σ H s
theorem SK.seq {K : PySem.W.Frag} {mg : Str → Option Value} {W : WX} {O : List Addr} {H0 : Hp} {D : Ends} {r : SRes} {k : En → SRes} (h : SK K mg W O H0 D (sThen r k)) : SK K mg W O H0 { D with nx := tS K mg W k D } r := by
  cases r with
  | nx ρ => exact fun σ H s => ⟨ρ, O, H0, s, h⟩
  | ret d => exact h
  | brk ρ => exact h
  | ct ρ => exact h
  | ex e ρ => exact h
  | bad => exact h
theorem dss_cons (h1 : DS X W st g) (h2 : DSs X W rest g2) : DSs X W (st :: rest) (sSeq g g2) :=
  PSs.imp (pss_cons h1 h2) fun D σ H ⟨ρ, O, H0, s, q⟩ => ⟨ρ, O, H0, s, q.seq⟩
theorem dss_one (h1 : DS X W st g) : DSs X W [st] g := pss_one h1
def sFrz (i : Nat) (g : En → SRes) : En → SRes := fun ρ => g (frz i ρ)
theorem dss_frz (i : Nat) {sts : List Stmt} (h : DSs X W sts g) : DSs X W sts (sFrz i g) := PSs.imp h fun D σ H ⟨ρ, O, H0, s, q⟩ => ⟨frz i ρ, O, H0, s.frz i, q⟩
theorem ds_frz (i : Nat) (h : DS X W st g) : DS X W st (sFrz i g) := PS.imp h fun D σ H ⟨ρ, O, H0, s, q⟩ => ⟨frz i ρ, O, H0, s.frz i, q⟩
def sBrk : En → SRes := fun ρ => .brk ρ
def sCt : En → SRes := fun ρ => .ct ρ
theorem ds_pass : DS X W (.Pass pos) sNil := PS.imp ps_pass fun D σ H ⟨ρ, O, H0, s, q⟩ => q σ H s
theorem ds_break : DS X W (.Break pos) sBrk := PS.imp ps_break fun D σ H ⟨ρ, O, H0, s, q⟩ => q σ H s
theorem ds_continue : DS X W (.Continue pos) sCt := PS.imp ps_continue fun D σ H ⟨ρ, O, H0, s, q⟩ => q σ H s
def sNever : En → SRes := fun _ => .bad
theorem ds_never : DS X W st sNever := PS.imp ps_never fun D σ H ⟨ρ, O, H0, s, q⟩ => q
theorem dss_never {sts : List Stmt} : DSs X W sts sNever := PSs.imp pss_never fun D σ H ⟨ρ, O, H0, s, q⟩ => q
/-! ### return, expressions, stores -/
def sRet (f : En → Rs PyData) : En → SRes := fun ρ => eS ρ (f ρ) .ret
theorem RpH {K : PySem.W.Frag} {O : List Addr} {σ : L2.St} {ρ : En} {H : Hp} {v : V} {d : PyData} (h : Rp K (hide H (O ++ owned σ ρ)) v d) : Rp K (hide H O) v d := h.mono (hide_less fun a ha => List.mem_append_left _ ha)
theorem ds_ret (h : DE X W e f) : DS X W (.Return (some e) pos) (sRet f) := PS.imp (ps_ret h) fun D σ H ⟨ρ, O, H0, s, q⟩ => ⟨ρ, O, H0, s, SK.expr s q fun d H1 v s1 r1 q1 => q1 v H1 s1.same (RpH r1)⟩
def sRetN : En → SRes := fun _ => .ret .none
theorem ds_retN : DS X W (.Return none pos) sRetN := PS.imp ps_retN fun D σ H ⟨ρ, O, H0, s, q⟩ => q .non H s.same .non
def sDrop (f : En → Rs PyData) : En → SRes := fun ρ => eS ρ (f ρ) fun _ => .nx ρ
theorem ds_expr (h : DE X W e f) (hs : swapsWith e none pos.line X.env = pure false := by rfl) : DS X W (.Expr e pos) (sDrop f) := PS.imp (ps_expr h hs) fun D σ H ⟨ρ, O, H0, s, q⟩ => ⟨ρ, O, H0, s, SK.expr s q fun d H1 v s1 r1 q1 => q1 σ H1 s1⟩
def sSet (i : Nat) (f : En → Rs PyData) : En → SRes := fun ρ => eS ρ (f ρ) fun d => .nx (ρ.set i (some (.val d)))
theorem ds_set (i : Nat) {x : Str} {pos' : Pos} (hN : X.N.Nodup) (he : DE X W e f) (hi : X.N[i]? = some x := by rfl) (hx : Loc X.env.scope x := by first | exact .inl rfl | exact .inr rfl) (hs : swapsWith e (some (.Name x pos')) pos.line X.env = pure false := by rfl) (hf : X.fn x = true ∨ X.env.scope.names.lookup x = some .local := by exact .inl rfl) :
    DS X W (.Assign [.Name x pos'] e pos) (sSet i f) := PS.imp (ps_set hN hi hx he hs hf) fun D σ H ⟨ρ, O, H0, s, q⟩ => ⟨ρ, O, H0, s, SK.expr s q fun d H1 v s1 r1 q1 => q1 _ H1 (s1.setV r1)⟩
def sSetO (i : Nat) (f : En → Rs PyData) : En → SRes := fun ρ => eS ρ (f ρ) fun d => .nx (ρ.set i (some (.own d)))
theorem ds_setO (i : Nat) {x : Str} {pos' : Pos} (hN : X.N.Nodup) (he : OE X W e f) (hi : X.N[i]? = some x := by rfl) (hx : Loc X.env.scope x := by first | exact .inl rfl | exact .inr rfl) (hs : swapsWith e (some (.Name x pos')) pos.line X.env = pure false := by rfl) (hf : X.fn x = true ∨ X.env.scope.names.lookup x = some .local := by exact .inl rfl) :
    DS X W (.Assign [.Name x pos'] e pos) (sSetO i f) := PS.imp (ps_set hN hi hx he hs hf) fun D σ H ⟨ρ, O, H0, s, q⟩ => ⟨ρ, O, H0, s, SK.exprO s q fun d H1 a g s1 hn r1 q1 => q1 _ H1 (s.setO g hn r1)⟩
/-! ### if -/
def sIf (t : En → Rs Bool) (g1 g2 : En → SRes) : En → SRes := fun ρ => eS ρ (t ρ) fun c => if c then g1 ρ else g2 ρ
theorem ds_if {t : En → Rs Bool} {A B : List Stmt} {ga gb : En → SRes} (hc : DT X W c t) (ha : DSs X W A ga) (hb : DSs X W B gb) : DS X W (.If c A B pos) (sIf t ga gb) :=
  PS.imp (ps_if hc ha hb) fun D σ H ⟨ρ, O, H0, s, q⟩ => ⟨ρ, O, H0, s, SK.exprT s q fun k H1 s1 q1 => by
    cases k with
    | true => exact ⟨ρ, O, H0, s1, q1⟩
    | false => exact ⟨ρ, O, H0, s1, q1⟩⟩
/-! ### while, by fuel -/
def whileS (t : En → Rs Bool) (body : En → SRes) : Nat → En → SRes
  | 0, _ => .bad
  | n + 1, ρ => eS ρ (t ρ) fun c => if c then (match body ρ with
      | .nx ρ' => whileS t body n ρ'
      | .ct ρ' => whileS t body n ρ'
      | .brk ρ' => .nx ρ'
      | r => r) else .nx ρ
def sWhile (fuel : En → Nat) (t : En → Rs Bool) (body : En → SRes) : En → SRes := fun ρ => whileS t body (fuel ρ) ρ
theorem ds_while (fuel : En → Nat) {t : En → Rs Bool} {B : List Stmt} {gb : En → SRes} (hp : PassesOwn (model X.prog X.w) X.A X.env X.xe) (hc : DT X W c t) (hb : DSs X W B gb) : DS X W (.While c B [] pos) (sWhile fuel t gb) :=
  PS.imp (ps_while hp hc hb) fun D σ H ⟨ρ, O, H0, s, q⟩ => by
    refine ⟨fun m σ H => ∃ ρ, SR X.K O H0 H σ ρ ∧ SK X.K X.mg W O H0 D (whileS t gb m ρ), ⟨fuel ρ, ρ, s, q⟩, ?_⟩
    rintro m σ1 H1 ⟨ρ1, s1, q1⟩
    cases m with
    | zero => exact q1.elim
    | succ m =>
      refine ⟨ρ1, O, H0, s1, SK.exprT s1 q1 fun k H2 s2 q2 => ?_⟩
      cases k with
      | false => exact q2 σ1 H2 s2
      | true =>
        refine ⟨fun σ' H' => ∃ ρ', SR X.K O H0 H' σ' ρ' ∧ SK X.K X.mg W O H0 D (whileS t gb m ρ'), fun σ' H' h => ⟨m, Nat.lt_succ_self m, h⟩, ρ1, O, H0, s2, ?_⟩
        rw [if_pos rfl] at q2
        cases e : gb ρ1 with
        | nx ρ' => rw [e] at q2; exact fun σ' H' s' => ⟨ρ', s', q2⟩
        | ct ρ' => rw [e] at q2; exact fun σ' H' s' => ⟨ρ', s', q2⟩
        | brk ρ' => rw [e] at q2; exact q2
        | ret d => rw [e] at q2; exact q2
        | ex x ρ' => rw [e] at q2; exact q2
        | bad => rw [e] at q2; exact q2
/-! ### targets -/
/-- what a target does to the slots -/
abbrev TgD := PyData → En → Rs En
/-- σ' is σ but at is -/
def But (is : List Nat) (σ σ' : L2.St) : Prop := σ'.length = σ.length ∧ ∀ j, j ∉ is → σ'[j]? = σ[j]?
theorem But.refl (is : List Nat) (σ : L2.St) : But is σ σ := ⟨rfl, fun _ _ => rfl⟩
theorem But.set (i : Nat) (σ : L2.St) (v : Option V) : But [i] σ (σ.set i v) := ⟨by simp, fun j hj => by rw [List.getElem?_set_ne (by intro e; apply hj; simp [e])]⟩
theorem But.trans {i : Nat} {is : List Nat} {σ σ1 σ2 : L2.St} (a : But [i] σ σ1) (b : But is σ1 σ2) : But (i :: is) σ σ2 :=
  ⟨b.1.trans a.1, fun j hj => (b.2 j fun z => hj (List.mem_cons_of_mem _ z)).trans (a.2 j fun z => hj (by simp at z; simp [z]))⟩
def tG (K : PySem.W.Frag) (is : List Nat) (τ : TgD) : TG := fun v σ H Q => ∃ ρ O H0 d, SR K O H0 H σ ρ ∧ Rp K (hide H (O ++ owned σ ρ)) v d ∧ (match τ d ρ with
  | .ok ρ' => ∀ σ', SR K O H0 H σ' ρ' → But is σ σ' → Q σ' H
  | _ => False)
abbrev DG (X : Cx) (tg : Expr) (is : List Nat) (τ : TgD) : Prop := PG X tg (tG X.K is τ)
theorem PG.imp {X : Cx} {e : Expr} {t t' : TG} (h : PG X e t) (i : ∀ v σ H Q, t' v σ H Q → t v σ H Q) : PG X e t' := ⟨fun pins s σ H v u Q I r q => h.run pins s σ H v u Q I r (i v σ H Q q)⟩
def τName (i : Nat) : TgD := fun d ρ => .ok (ρ.set i (some (.val d)))
theorem dg_name (i : Nat) {x : Str} (hN : X.N.Nodup) (hi : X.N[i]? = some x := by rfl) (hx : Loc X.env.scope x := by first | exact .inl rfl | exact .inr rfl) (hf : X.fn x = true ∨ X.env.scope.names.lookup x = some .local := by first | exact .inl rfl | exact .inr rfl) : DG X (.Name x pos) [i] (τName i) :=
  PG.imp (pg_name hN hi hx hf) fun v σ H Q ⟨ρ, O, H0, d, s, r, q⟩ => q _ (s.setV r) (But.set i σ _)
abbrev TgDs := List PyData → En → Rs En
def tGs (K : PySem.W.Frag) (is : List Nat) (τ : TgDs) : TGs := fun vs σ H Q => ∃ ρ O H0 ds, SR K O H0 H σ ρ ∧ RpAll K (hide H (O ++ owned σ ρ)) vs ds ∧ (match τ ds ρ with
  | .ok ρ' => ∀ σ', SR K O H0 H σ' ρ' → But is σ σ' → Q σ' H
  | _ => False)
theorem PGs.imp {X : Cx} {e : List Expr} {t t' : TGs} (h : PGs X e t) (i : ∀ v σ H Q, t' v σ H Q → t v σ H Q) : PGs X e t' := ⟨fun pins s σ H v u Q I r q => h.run pins s σ H v u Q I r (i v σ H Q q)⟩
/-- names, one for each item -/
def τNames : List Nat → TgDs
  | [], [], ρ => .ok ρ
  | i :: is, d :: ds, ρ => τNames is ds (ρ.set i (some (.val d)))
  | _, _, _ => .bad
theorem dgs_nil : PGs X [] (tGs X.K [] (τNames [])) := PGs.imp pgs_nil fun vs σ H Q ⟨ρ, O, H0, ds, s, r, q⟩ => by
  cases ds with
  | nil =>
    cases r
    exact ⟨rfl, q σ s (But.refl _ _)⟩
  | cons d ds => exact q.elim
theorem dgs_cons (i : Nat) {is : List Nat} {x : Str} {p : Pos} {es : List Expr} (hN : X.N.Nodup) (h2 : PGs X es (tGs X.K is (τNames is))) (hi : X.N[i]? = some x := by rfl) (hx : Loc X.env.scope x := by first | exact .inl rfl | exact .inr rfl) (hf : X.fn x = true ∨ X.env.scope.names.lookup x = some .local := by first | exact .inl rfl | exact .inr rfl)
    (hs : (assignEach (.Name x p :: es) X.env).map (·.2) = assign (.Name x p) X.env :: (assignEach es X.env).map (·.2) := by rfl) : PGs X (.Name x p :: es) (tGs X.K (i :: is) (τNames (i :: is))) :=
  PGs.imp (pgs_cons (pg_name hN hi hx hf) h2 hs) fun vs σ H Q ⟨ρ, O, H0, ds, s, r, q⟩ => by
    cases ds with
    | nil => exact q.elim
    | cons d ds =>
      cases r with
      | @cons v vs _ _ r1 r2 =>
        have s' := s.setV (i := i) r1
        refine ⟨v, vs, rfl, _, O, H0, ds, s', r2.mono (hide_less fun a ha => ?_), ?_⟩
        · rcases List.mem_append.mp ha with h | h
          · exact List.mem_append_left _ h
          · exact List.mem_append_right _ (owned_set_sub (i := i) (x := some v) (y := some (.val d)) (by cases v <;> rfl) a h)
        · have q' : (match τNames is ds (ρ.set i (some (.val d))) with
            | .ok ρ' => ∀ σ', SR X.K O H0 H σ' ρ' → But (i :: is) σ σ' → Q σ' H
            | _ => False) := q
          split
          · rename_i ρ' e
            rw [e] at q'
            exact fun σ' s2 b => q' σ' s2 ((But.set i σ _).trans b)
          · rename_i hn
            split at q'
            · rename_i ρ' e
              exact hn _ e
            · exact q'
def τTup (is : List Nat) : TgD := fun d ρ => match d with
  | .tuple ds => if ds.length = is.length then τNames is ds ρ else .bad
  | _ => .bad
theorem dg_tup {es : List Expr} {is : List Nat} {k : Nat} (hc : X.calm = true) (h : PGs X es (tGs X.K is (τNames is))) (hn : (assignEach es X.env).length = is.length := by rfl) (hst : (assignEach es X.env).findIdx? (·.1) = none := by rfl) : DG X (.Tuple es k pos) is (τTup is) :=
  PG.imp (pg_tup hc h hn hst) fun v σ H Q ⟨ρ, O, H0, d, s, r, q⟩ => by
    unfold τTup at q
    cases d with
    | tuple ds =>
      cases r with
      | tup hs hl ra =>
        dsimp only at q
        split at q
        · rename_i ρ' e
          split at e
          · rename_i hl2
            exact ⟨_, _, rfl, Gr.seqT hide_sub hs.t, by rw [ra.length]; exact hl2, ρ, O, H0, ds, s, ra, by rw [e]; exact q⟩
          · cases e
        · exact q.elim
    | _ => exact q.elim
def sAsg (f : En → Rs PyData) (τ : TgD) : En → SRes := fun ρ => eS ρ (f ρ) fun d => match τ d ρ with
  | .ok ρ' => .nx ρ'
  | _ => .bad
theorem ds_asg {tg : Expr} {is : List Nat} {τ : TgD} (he : DE X W e f) (hg : DG X tg is τ) (hs : swapsWithSole [tg] e pos.line X.env = pure false := by rfl) (hw : swappedStores [tg] e X.env = pure none := by rfl)
    (h1 : (assignEach [tg] X.env).map (·.2) = [assign tg X.env] := by rfl) : DS X W (.Assign [tg] e pos) (sAsg f τ) :=
  PS.imp (ps_asg he hg hs hw h1) fun D σ H ⟨ρ, O, H0, s, q⟩ => ⟨ρ, O, H0, s, SK.expr s q fun d H1 v s1 r1 q1 => ⟨ρ, O, H0, d, s1, r1, by
    cases e : τ d ρ with
    | ok ρ' => rw [e] at q1; exact fun σ' s' _ => q1 σ' H1 s'
    | ex x => rw [e] at q1; exact q1
    | bad => rw [e] at q1; exact q1⟩⟩

/-! ### what is walked -/
/-- while the heap keeps G, the iterator gives values that stand for ds over P -/
def Wk (K : PySem.W.Frag) (G P : Hp) (J : It) (ds : List PyData) : Prop := ∀ H1, Gr G H1 → ∀ i, (∀ d, ds[i]? = some d → J.go i H1 ∧ ∀ x H2, J.yld i H1 x H2 → H2 = H1 ∧ Rp K P x d) ∧ (ds.length ≤ i → J.stop i H1)
theorem Wk.mono {K : PySem.W.Frag} {G G' P P' : Hp} {J : It} {ds : List PyData} (h : Wk K G P J ds) (g : Gr G G') (p : Gr P P') : Wk K G' P' J ds := fun H1 g1 i => ⟨fun d e => ⟨((h H1 (g.trans g1) i).1 d e).1, fun x H2 y => ⟨(((h H1 (g.trans g1) i).1 d e).2 x H2 y).1, ((((h H1 (g.trans g1) i).1 d e).2 x H2 y).2).mono p⟩⟩, (h H1 (g.trans g1) i).2⟩
def RKI (K : PySem.W.Frag) (mg : Str → Option Value) (W : WX) (b : Bool) (O : List Addr) (σ : L2.St) (H : Hp) (R : It → Hp → Prop) : Rs (List PyData) → Prop
  | .ok ds => ∀ J H', Gr H H' → ds.length ≤ 4611686018427387904 → Wk K (if b then H' else hide H' O) (hide H' O) J ds → R J H'
  | .ex e => ∀ H' c dd, Gr H H' → ExR K mg (hide H' O) c dd e → W c dd σ H'
  | .bad => False
/-- b: an own object may be walked (in a comprehension) -/
def tI (K : PySem.W.Frag) (mg : Str → Option Value) (W : WX) (b : Bool) (f : En → Rs (List PyData)) : TI := fun σ H R => ∃ ρ O H0, SR K O H0 H σ ρ ∧ RKI K mg W b (O ++ owned σ ρ) σ H R (f ρ)
abbrev DI (X : Cx) (W : WX) (b : Bool) (tg e : Expr) (f : En → Rs (List PyData)) : Prop := PI X tg e (tI X.K X.mg W b f)
theorem PI.imp {X : Cx} {tg e : Expr} {t t' : TI} (h : PI X tg e t) (i : ∀ σ H R, t' σ H R → t σ H R) : PI X tg e t' := ⟨fun pins s σ H R I q => h.run pins s σ H R I (i σ H R q)⟩
def oItems : PyData → Rs (List PyData)
  | .list ds => .ok ds
  | .tuple ds => .ok ds
  | .dict [(.none, .list ds)] => .ok ds
  | _ => .bad
def oItemsL : PyData → Rs (List PyData)
  | .list ds => .ok ds
  | .dict [(.none, .list ds)] => .ok ds
  | _ => .bad
def oItemsT : PyData → Rs (List PyData)
  | .tuple ds => .ok ds
  | _ => .bad
def iOf (op : PyData → Rs (List PyData)) (f : En → Rs PyData) : En → Rs (List PyData) := fun ρ => (f ρ).bind op
theorem wk_list {K : PySem.W.Frag} {G P : Hp} {a : Addr} {xs : List V} {ds : List PyData} (hl : SqL K G a xs) (r : RpAll K P xs ds) (inj : ∀ H1, Gr G H1 → ∀ ys, SqL K H1 a ys → True) : Wk K G P (Itl K a) ds := fun H1 g i => by
  have hl1 : SqL K H1 a xs := g.seq hl
  refine ⟨fun d e => ?_, fun h => ⟨xs, hl1, by rw [r.length]; exact h⟩⟩
  obtain ⟨x, e1, rx⟩ := r.get e
  exact ⟨⟨xs, x, hl1, e1⟩, fun y H2 ⟨e2, h2⟩ => ⟨e2, by
    have := h2 xs hl1
    rw [e1] at this
    cases this
    exact rx⟩⟩
theorem wk_tup {K : PySem.W.Frag} {G P : Hp} {a : Addr} {xs : List V} {ds : List PyData} (hl : SqT K G a xs) (r : RpAll K P xs ds) : Wk K G P (Itt K a) ds := fun H1 g i => by
  have hl1 : SqT K H1 a xs := Gr.seqT g hl
  refine ⟨fun d e => ?_, fun h => ⟨xs, hl1, by rw [r.length]; exact h⟩⟩
  obtain ⟨x, e1, rx⟩ := r.get e
  exact ⟨⟨xs, x, hl1, e1⟩, fun y H2 ⟨e2, h2⟩ => ⟨e2, by
    have := h2 xs hl1
    rw [e1] at this
    cases this
    exact rx⟩⟩
theorem RK.ofI {K : PySem.W.Frag} {mg : Str → Option Value} {W : WX} {bb : Bool} {O : List Addr} {σ : L2.St} {H : Hp} {R : It → Hp → Prop} {Q' : VK} {r : Rs PyData} {k : PyData → Rs (List PyData)} (h : RKI K mg W bb O σ H R (r.bind k))
    (hk : ∀ d H1 v, Gr H H1 → Rp K (hide H1 O) v d → RKI K mg W bb O σ H1 R (k d) → Q' v H1) : RK K mg W O σ H Q' r := by
  cases r with
  | ok d =>
    intro H' v g rp
    refine hk d H' v g rp ?_
    have h' : RKI K mg W bb O σ H R (k d) := h
    cases e : k d with
    | ok ds => rw [e] at h'; exact fun J H2 g2 => h' J H2 (g.trans g2)
    | ex x => rw [e] at h'; exact fun H2 c dd g2 => h' H2 c dd (g.trans g2)
    | bad => rw [e] at h'; exact h'
  | ex e => exact h
  | bad => exact h
theorem RKB.ofI {K : PySem.W.Frag} {mg : Str → Option Value} {W : WX} {bb : Bool} {O : List Addr} {σ : L2.St} {H : Hp} {R : It → Hp → Prop} {Q' : VK} {r : Rs PyData} {k : PyData → Rs (List PyData)} (h : RKI K mg W bb O σ H R (r.bind k))
    (hk : ∀ d H1 v, Gr H H1 → RpB K O H1 v d → RKI K mg W bb O σ H1 R (k d) → Q' v H1) : RKB K mg W O σ H Q' r := by
  cases r with
  | ok d =>
    intro H' v g rp
    refine hk d H' v g rp ?_
    have h' : RKI K mg W bb O σ H R (k d) := h
    cases e : k d with
    | ok ds => rw [e] at h'; exact fun J H2 g2 => h' J H2 (g.trans g2)
    | ex x => rw [e] at h'; exact fun H2 c dd g2 => h' H2 c dd (g.trans g2)
    | bad => rw [e] at h'; exact h'
  | ex e => exact h
  | bad => exact h
theorem mx62 {n : Nat} (h : n ≤ mx) : n ≤ 4611686018427387904 := Nat.le_trans h (by decide)
/-- a list of data -/
theorem di_list {tg : Expr} (h : DE X W e f) : DI X W false tg e (iOf oItemsL f) :=
  PI.imp (pi_list h) fun σ H R ⟨ρ, O, H0, s, q⟩ => ⟨ρ, O, H0, s, RK.ofI q fun d H1 v g r1 q1 => by
    unfold oItemsL at q1
    split at q1
    · cases r1 with
      | lst hl hz ra => exact ⟨_, rfl, ⟨_, .inl (Gr.rd hide_sub hl)⟩, q1 _ H1 (Gr.refl _) (by rw [← ra.length]; exact mx62 hz) (wk_list (.inl hl) ra fun _ _ _ _ => trivial)⟩
    · obtain ⟨a, is, rfl, rfl, hx, lx⟩ := RpB.scr (O := []) (H := hide H1 (O ++ owned σ ρ)) (.inl (by rw [hide_nil]; exact r1))
      exact ⟨_, rfl, ⟨_, hide_sub.seq hx⟩, q1 _ H1 (Gr.refl _) (by rw [List.length_map]; exact mx62 lx) (wk_list hx (rpAll_ints is) fun _ _ _ _ => trivial)⟩
    · exact q1.elim⟩
theorem di_tup {tg : Expr} (h : DE X W e f) (bb : Bool) : DI X W bb tg e (iOf oItemsT f) :=
  PI.imp (pi_tup h) fun σ H R ⟨ρ, O, H0, s, q⟩ => ⟨ρ, O, H0, s, RK.ofI q fun d H1 v g r1 q1 => by
    unfold oItemsT at q1
    split at q1
    · cases r1 with
      | tup hl hz ra => exact ⟨_, rfl, ⟨_, Gr.seqT hide_sub hl.t⟩, q1 _ H1 (Gr.refl _) (by rw [← ra.length]; exact mx62 hz) ((wk_tup hl.t ra).mono (by cases bb; exact Gr.refl _; exact hide_sub) (Gr.refl _))⟩
    · exact q1.elim⟩
/-- a list, an own one too, that nothing changes meanwhile -/
theorem di_listB {tg : Expr} (h : BE X W e f) : DI X W true tg e (iOf (fun d => match d with | .list ds => .ok ds | _ => .bad) f) :=
  PI.imp (pi_list h) fun σ H R ⟨ρ, O, H0, s, q⟩ => ⟨ρ, O, H0, s, RKB.ofI q fun d H1 v g r1 q1 => by
    cases d with
    | list ds =>
      obtain ⟨a, xs, rfl, hl, hz, ra⟩ := r1.list
      exact ⟨_, rfl, ⟨_, .inl hl⟩, q1 _ H1 (Gr.refl _) (by rw [← ra.length]; exact mx62 hz) (wk_list (.inl hl) ra fun _ _ _ _ => trivial)⟩
    | _ => exact q1.elim⟩
/-- a text's signs -/
def oSigns : PyData → Rs (List PyData)
  | .str z => if z.length ≤ mx then .ok (z.cps.toList.map fun c => .str ⟨#[c]⟩) else .bad
  | _ => .bad
theorem di_str {tg : Expr} (h : BE X W e f) (bb : Bool) : DI X W bb tg e (iOf oSigns f) :=
  PI.imp (pi_str h) fun σ H R ⟨ρ, O, H0, s, q⟩ => ⟨ρ, O, H0, s, RKB.ofI q fun d H1 v g r1 q1 => by
    unfold oSigns at q1
    split at q1
    · rename_i z
      cases r1.str
      split at q1
      · rename_i hz
        refine ⟨z, rfl, q1 _ H1 (Gr.refl _) (by rw [List.length_map, Array.length_toList]; exact mx62 hz) fun H2 g2 i => ⟨fun d e => ?_, fun h => ?_⟩⟩
        · rw [List.getElem?_map] at e
          cases e2 : z.cps.toList[i]? with
          | none => rw [e2] at e; cases e
          | some c =>
            rw [e2] at e
            cases e
            have e3 : z.cps[i]? = some c := by rw [← Array.getElem?_toList]; exact e2
            refine ⟨(Array.getElem?_eq_some_iff.mp e3).1, fun x H3 ⟨e4, c', e5, e6⟩ => ⟨e4, ?_⟩⟩
            rw [e3] at e5
            cases e5
            subst e6
            exact .str _
        · rw [List.length_map, Array.length_toList] at h
          exact h
      · exact q1.elim
    · exact q1.elim⟩
/-- range(n), range(a, b) -/
def rngD (i j : Int) : Rs (List PyData) := if decide (-4611686018427387904 ≤ i) && decide (i < 4611686018427387904) && decide (-4611686018427387904 ≤ j) && decide (j < 4611686018427387904) && decide ((j - i).toNat ≤ 4611686018427387904) then .ok ((List.range (j - i).toNat).map fun (k : Nat) => .int (i + (k : Int))) else .bad
def iRange1 (f : En → Rs PyData) : En → Rs (List PyData) := fun ρ => (f ρ).bind fun d => match d with
  | .int n => rngD 0 n
  | _ => .bad
def iRange2 (f g : En → Rs PyData) : En → Rs (List PyData) := fun ρ => (f ρ).bind fun d => (g ρ).bind fun e => match d, e with
  | .int m, .int n => rngD m n
  | _, _ => .bad
theorem wk_range {K : PySem.W.Frag} {G P : Hp} (lo : Int) (n : Nat) : Wk K G P (Itr lo n) ((List.range n).map fun (k : Nat) => .int (lo + (k : Int))) := fun H1 g i => by
  refine ⟨fun d e => ?_, fun h => ?_⟩
  · rw [List.getElem?_map] at e
    by_cases hi : i < n
    · rw [List.getElem?_range hi] at e
      cases e
      exact ⟨hi, fun x H2 ⟨e1, e2⟩ => ⟨e1, by rw [e2]; exact .int _⟩⟩
    · rw [List.getElem?_eq_none (by rw [List.length_range]; omega)] at e
      cases e
  · rw [List.length_map, List.length_range] at h
    exact h
theorem rngD_ok {i j : Int} {K : PySem.W.Frag} {mg : Str → Option Value} {bb : Bool} {O : List Addr} {σ : L2.St} {H : Hp} {R : It → Hp → Prop} (q : RKI K mg W bb O σ H R (rngD i j)) : (-(2 ^ 62) ≤ i ∧ i < 2 ^ 62 ∧ -(2 ^ 62) ≤ j ∧ j < 2 ^ 62) ∧ R (Itr i (j - i).toNat) H := by
  unfold rngD at q
  split at q
  · rename_i h
    simp only [Bool.and_eq_true, decide_eq_true_eq] at h
    exact ⟨by omega, q _ H (Gr.refl _) (by rw [List.length_map, List.length_range]; omega) (wk_range i _)⟩
  · exact q.elim
theorem di_range1 {tg : Expr} {p : Pos} (bb : Bool) (ha : BE X W a fa) (hm : X.mg "range" = none) (hg : Gl X "range" := by rfl) (hs : starEach [a] X.env = [(false, eval a X.env)] := by rfl) : DI X W bb tg (.Call (.Name "range" p) [a] [] pos) (iRange1 fa) :=
  PI.imp (pi_range1 hg hm (pa_cons ha pa_nil (by rw [hs]; rfl)) hs) fun σ H R ⟨ρ, O, H0, s, q⟩ => ⟨ρ, O, H0, s, RKB.ofI q fun d H1 v g r1 q1 => by
    cases d with
    | int n =>
      cases r1.int
      obtain ⟨h, q2⟩ := rngD_ok q1
      exact ⟨n, rfl, h.2.2.1, h.2.2.2, by simpa using q2⟩
    | _ => exact q1.elim⟩
theorem di_range2 {tg : Expr} {p : Pos} (bb : Bool) (ha : BE X W a fa) (hb : BE X W b fb) (hm : X.mg "range" = none) (hg : Gl X "range" := by rfl) (hs : starEach [a, b] X.env = [(false, eval a X.env), (false, eval b X.env)] := by rfl) (hs2 : starEach [b] X.env = [(false, eval b X.env)] := by rfl) :
    DI X W bb tg (.Call (.Name "range" p) [a, b] [] pos) (iRange2 fa fb) :=
  PI.imp (pi_range2 hg hm (pa_cons ha (pa_cons hb pa_nil (by rw [hs2]; rfl)) (by rw [hs, hs2])) hs hs2) fun σ H R ⟨ρ, O, H0, s, q⟩ => ⟨ρ, O, H0, s, RKB.ofI q fun d H1 v g r1 q1 => ⟨ρ, O, H0, s.grow g, RKB.ofI q1 fun e H2 u g2 r2 q2 => by
    cases d with
    | int m =>
      cases e with
      | int n =>
        cases r1.int
        cases r2.int
        obtain ⟨h, q3⟩ := rngD_ok q2
        exact ⟨m, n, rfl, h, q3⟩
      | _ => exact q2.elim
    | _ => exact q2.elim⟩⟩
/-! ### for -/
def forS (τ : TgD) (body : En → SRes) : List PyData → En → SRes
  | [], ρ => .nx ρ
  | d :: ds, ρ => match τ d ρ with
    | .ok ρ1 => (match body ρ1 with
      | .nx ρ' => forS τ body ds ρ'
      | .ct ρ' => forS τ body ds ρ'
      | .brk ρ' => .nx ρ'
      | r => r)
    | _ => .bad
def sFor (fi : En → Rs (List PyData)) (τ : TgD) (body : En → SRes) : En → SRes := fun ρ => eS ρ (fi ρ) fun ds => forS τ body ds ρ
theorem SK.weak {K : PySem.W.Frag} {mg : Str → Option Value} {W : WX} {O : List Addr} {H0 H1 : Hp} {D : Ends} {r : SRes} (g : Gr H0 H1) (old : ∀ a ∈ O, H0 a ≠ none) (h : SK K mg W O H0 D r) : SK K mg W O H1 D r := by
  cases r with
  | nx ρ => exact fun σ H s => h σ H (s.weak g old)
  | ret d => exact fun v H g' => h v H (g.trans g')
  | brk ρ => exact fun σ H s => h σ H (s.weak g old)
  | ct ρ => exact fun σ H s => h σ H (s.weak g old)
  | ex e ρ => exact fun c dd σ H s => h c dd σ H (s.weak g old)
  | bad => exact h
theorem hide_app {H : Hp} {O P : List Addr} : hide (hide H P) O = hide H (O ++ P) := by
  funext a
  by_cases h1 : a ∈ O
  · rw [hide_in h1, hide_in (List.mem_append_left _ h1)]
  · rw [hide_out h1]
    by_cases h2 : a ∈ P
    · rw [hide_in h2, hide_in (List.mem_append_right _ h2)]
    · rw [hide_out h2, hide_out fun z => (List.mem_append.mp z).elim h1 h2]
theorem ds_for {tg iter : Expr} {B : List Stmt} {fi : En → Rs (List PyData)} {is : List Nat} {τ : TgD} {gb : En → SRes} (hp : PassesOwn (model X.prog X.w) X.A X.env X.xe) (hc : X.calm = true) (hi : DI X W false tg iter fi) (hg : DG X tg is τ) (hb : DSs X W B gb)
    (hs : ∀ x, foldedSetIterable iter X.env x = pure x := by intro _; rfl) : DS X W (.For tg iter B [] pos) (sFor fi τ gb) :=
  PS.imp (ps_for hp hc hi hg hb hs) fun D σ H ⟨ρ, O, H0, s, q⟩ => by
    refine ⟨ρ, O, H0, s, ?_⟩
    unfold sFor at q
    cases e : fi ρ with
    | ex x => rw [e] at q; exact fun H' c dd g x => q c dd σ H' (s.grow g) x
    | bad => rw [e] at q; exact q
    | ok ds =>
      rw [e] at q
      intro J H1 g _ wk
      have s1 := s.grow g
      -- the ground of the loop
      obtain ⟨B0, hB0⟩ : ∃ B0, B0 = hide H1 (owned σ ρ) := ⟨_, rfl⟩
      have sB : SR X.K O B0 H1 σ ρ := by rw [hB0]; exact s1.rebase
      have g0 : Gr H0 B0 := by rw [hB0]; exact s1.base_sub
      have wk' : Wk X.K (hide H1 (O ++ owned σ ρ)) (hide B0 O) J ds := by rw [hB0, hide_app]; exact wk
      refine ⟨fun i m σ' H' => m = ds.length - i ∧ i ≤ ds.length ∧ ∃ ρ', SR X.K O B0 H' σ' ρ' ∧ SK X.K X.mg W O B0 D (forS τ gb (ds.drop i) ρ'), ⟨ds.length, by simp, Nat.zero_le _, ρ, sB, SK.weak g0 s.old q⟩, ?_⟩
      rintro i m σ2 H2 ⟨rfl, hi2, ρ2, s2, q2⟩
      have gG : Gr (hide H1 (O ++ owned σ ρ)) H2 := fun a o ea => by
        obtain ⟨na, ea'⟩ := hide_some ea
        refine s2.same a o ?_
        rw [hB0, hide_out fun z => na (List.mem_append_right _ z)]
        exact ea'
      by_cases hlt : i < ds.length
      · have ed : ds[i]? = some ds[i] := List.getElem?_eq_getElem hlt
        have edrop : ds.drop i = ds[i] :: ds.drop (i + 1) := by rw [List.drop_eq_getElem_cons hlt]
        obtain ⟨go, yl⟩ := (wk' H2 gG i).1 _ ed
        rw [edrop] at q2
        refine .inr ⟨go, fun σ' H' => ∃ ρ', SR X.K O B0 H' σ' ρ' ∧ SK X.K X.mg W O B0 D (forS τ gb (ds.drop (i + 1)) ρ'), fun σ' H' h => ⟨ds.length - (i + 1), by omega, rfl, hlt, h⟩, fun x H3 y => ?_⟩
        obtain ⟨rfl, rx⟩ := yl x H3 y
        refine ⟨ρ2, O, B0, ds[i], s2, rx.mono fun a o ea => ?_, ?_⟩
        · obtain ⟨na, ea'⟩ := hide_some ea
          have n2 : a ∉ owned σ2 ρ2 := fun z => by rw [s2.new a z] at ea'; cases ea'
          rw [hide_out fun z => (List.mem_append.mp z).elim na n2]
          exact s2.same a o ea'
        · unfold forS at q2
          cases et : τ ds[i] ρ2 with
          | ex x => rw [et] at q2; exact q2
          | bad => rw [et] at q2; exact q2
          | ok ρ3 =>
            rw [et] at q2
            intro σ3 s3 _
            refine ⟨ρ3, O, B0, s3, ?_⟩
            dsimp only at q2
            cases eb : gb ρ3 with
            | nx ρ' => rw [eb] at q2; exact fun σ' H' s' => ⟨ρ', s', q2⟩
            | ct ρ' => rw [eb] at q2; exact fun σ' H' s' => ⟨ρ', s', q2⟩
            | brk ρ' => rw [eb] at q2; exact q2
            | ret d => rw [eb] at q2; exact q2
            | ex x ρ' => rw [eb] at q2; exact q2
            | bad => rw [eb] at q2; exact q2
      · have ei : i = ds.length := by omega
        subst ei
        rw [List.drop_length] at q2
        exact .inl ⟨(wk' H2 gG _).2 (Nat.le_refl _), q2 σ2 H2 s2⟩
end
end DL

namespace DL
open PySem PySem.Spec PyProof.Rows L2

/-! ### functions -/
def RKF (K : PySem.W.Frag) (mg : Str → Option Value) (O : List Addr) (H : Hp) (Q : VK) (E : XK) : Rs PyData → Prop
  | .ok d => ∀ H' v, Gr H H' → Rp K (hide H' O) v d → Q v H'
  | .ex e => ∀ H' c dd, Gr H H' → ExR K mg (hide H' O) c dd e → E c dd H'
  | .bad => False
/-- what a def promises that denotes g -/
def spD (K : PySem.W.Frag) (mg : Str → Option Value) (g : List PyData → Rs PyData) : Sp := fun vs H Q E => ∃ O ds, (∀ a ∈ O, H a ≠ none) ∧ RpAll K (hide H O) vs ds ∧ RKF K mg O H Q E (g ds)
/-- the def of this name denotes g, by k calls at most one in another -/
def Fn (P : Program) (w : World) (K : PySem.W.Frag) (mg : Str → Option Value) (base : Heap) (k : Nat) (x : Str) (g : List PyData → Rs PyData) : Prop :=
  ∃ f fd ps, FnOk P w K mg base (L2.CX P w) k f fd ps (spD K mg g) ∧ mg x = some (.ref f) ∧ PySem.W.keepIn K (.ref f) = true ∧ Binds K fd ps []
theorem Fn.mono {P : Program} {w : World} {K : PySem.W.Frag} {mg : Str → Option Value} {base : Heap} {j k : Nat} {x : Str} {g : List PyData → Rs PyData} (F : Fn P w K mg base j x g) (h : j ≤ k) : Fn P w K mg base k x g :=
  let ⟨f, fd, ps, F, r⟩ := F
  ⟨f, fd, ps, F.mono h, r⟩
section
variable {X : Cx} {W : WX} {a b c e : Expr} {fa fb fc f : En → Rs PyData} {pos p : Pos} {st : Stmt} {rest : List Stmt} {x : Str} {es : List Expr} {k : Nat} {g : List PyData → Rs PyData}
def dCall (g : List PyData → Rs PyData) (f : En → Rs (List PyData)) : En → Rs PyData := fun ρ => (f ρ).bind g
theorem RK.toF {K : PySem.W.Frag} {mg : Str → Option Value} {O : List Addr} {σ : L2.St} {H : Hp} {Q : VK} {r : Rs PyData} (h : RK K mg W O σ H Q r) : RKF K mg O H Q (WE W σ) r := by
  cases r with
  | ok d => exact h
  | ex e => exact h
  | bad => exact h
theorem de_call {f : En → Rs (List PyData)} (F : Fn X.prog X.w X.K X.mg X.base k x g) (hr : Room k X.A) (tk : Takes X W) (ha : DA X W (a :: es) f) (hg : Gl X x := by rfl) (hdb : (x == ("__debug__" : Str)) = false := by decide)
    (he : starEach (a :: es) X.env = (false, eval a X.env) :: starEach es X.env := by rfl) (hpl : (backTo pos (starEach es X.env)).any (·.1) = false := by rfl) : DE X W (.Call (.Name x p) (a :: es) [] pos) (dCall g f) := by
  obtain ⟨fn, fd, ps, F, hm, hk, hb⟩ := F
  exact PE.imp (pe_callS F hr hg hm hk hb (fun σ => passAt tk σ) ha hdb he hpl) fun σ H Q ⟨ρ, O, H0, s, q⟩ => ⟨ρ, O, H0, s, RKA.of q fun ds H1 vs g1 r1 q1 => ⟨O ++ owned σ ρ, ds, (s.grow g1).there, r1, q1.toF⟩⟩

/-! ### a call with own lists among the arguments: what comes back holds no list -/
mutual
def flatD : PyData → Bool
  | .list _ => false
  | .dict _ => false
  | .tuple ds => flatDs ds
  | _ => true
def flatDs : List PyData → Bool
  | [] => true
  | d :: ds => flatD d && flatDs ds
end
/-- what is hidden are lists and dicts -/
def Lsts (H : Hp) (O : List Addr) : Prop := ∀ a ∈ O, (∃ xs, H a = some (.lst xs)) ∨ (∃ kvs, H a = some (.dK kvs)) ∨ ∃ kvs, H a = some (.dT kvs)
mutual
theorem Rp.flat {K : PySem.W.Frag} {H : Hp} {O : List Addr} (hl : Lsts H O) : ∀ {d : PyData} {v : V}, flatD d = true → Rp K H v d → Rp K (hide H O) v d
  | .none, _, _, h => by cases h; exact .non
  | .bool _, _, _, h => by cases h; exact .bl _
  | .int _, _, _, h => by cases h; exact .int _
  | .str _, _, _, h => by cases h; exact .str _
  | .list ds, _, p, h => by simp [flatD] at p
  | .dict ds, _, p, h => by simp [flatD] at p
  | .tuple ds, _, p, h => by
    cases h with
    | @tup a xs _ s l r =>
      refine .tup ?_ l (RpAll.flat hl (by simpa [flatD] using p) r)
      rcases s with ⟨o, s, od⟩ | s
      · left
        refine ⟨o, ?_, od⟩
        rw [hide_out fun z => by rcases hl a z with ⟨xs, q⟩ | ⟨kvs, q⟩ | ⟨kvs, q⟩ <;> (rw [s] at q; cases q)]
        exact s
      · exact .inr s
theorem RpAll.flat {K : PySem.W.Frag} {H : Hp} {O : List Addr} (hl : Lsts H O) : ∀ {ds : List PyData} {vs : List V}, flatDs ds = true → RpAll K H vs ds → RpAll K (hide H O) vs ds
  | [], _, _, h => by cases h; exact .nil
  | d :: ds, _, p, h => by
    cases h with
    | cons r t =>
      have p' : flatD d = true ∧ flatDs ds = true := by simpa [flatDs] using p
      exact .cons (Rp.flat hl p'.1 r) (RpAll.flat hl p'.2 t)
end
theorem OwnR.lsts {K : PySem.W.Frag} {G H : Hp} {a : Addr} {d : PyData} (h : OwnR K G H a d) : (∃ xs, H a = some (.lst xs)) ∨ (∃ kvs, H a = some (.dK kvs)) ∨ ∃ kvs, H a = some (.dT kvs) := by
  rcases h with ⟨xs, ds, h1, h2, h3⟩ | ⟨xs, ds, h1, h2, h3⟩ | ⟨xs, ds, h1, h2, h3⟩
  · exact .inl ⟨_, h2⟩
  · exact .inr (.inl ⟨_, h2⟩)
  · exact .inr (.inr ⟨_, h2⟩)
theorem SlotsR.lsts {K : PySem.W.Frag} {G H : Hp} {σ : L2.St} {ρ : En} (h : SlotsR K G H σ ρ) : Lsts H (owned σ ρ) := by
  induction h with
  | nil => intro a ha; simp [owned] at ha
  | @cons x y σ ρ h1 h2 ih =>
    intro a ha
    unfold owned at ha
    split at ha
    · rename_i b hb
      rcases List.mem_cons.mp ha with q | q
      · subst q
        unfold own1 at hb
        split at hb
        · cases hb
          obtain ⟨a', e1, r⟩ := h1
          cases e1
          exact r.lsts
        · cases hb
      · exact ih a q
    · exact ih a ha
def RKAB (K : PySem.W.Frag) (mg : Str → Option Value) (W : WX) (O : List Addr) (σ : L2.St) (H : Hp) (Q : List V → Hp → Prop) : Rs (List PyData) → Prop
  | .ok d => ∀ H' v, Gr H H' → RpAll K (hide H' O) v d → Q v H'
  | .ex e => ∀ H' c dd, Gr H H' → ExR K mg (hide H' O) c dd e → W c dd σ H'
  | .bad => False
/-- the same with the own objects as data: O is what the caller hides -/
def tAB (K : PySem.W.Frag) (mg : Str → Option Value) (W : WX) (f : En → Rs (List PyData)) : TA := fun σ H Q => ∃ ρ O H0, SR K O H0 H σ ρ ∧ (match f ρ with
  | .ok d => ∀ H' v, Gr H H' → RpAll K (hide H' O) v d → Q v H'
  | .ex e => ∀ H' c dd, Gr H H' → ExR K mg (hide H' (O ++ owned σ ρ)) c dd e → W c dd σ H'
  | .bad => False)
abbrev BA (X : Cx) (W : WX) (es : List Expr) (f : En → Rs (List PyData)) : Prop := PA X es (tAB X.K X.mg W f)
theorem ba_nil : BA X W [] aNil := PA.imp pa_nil fun σ H Q ⟨ρ, O, H0, s, q⟩ => q H [] (Gr.refl H) .nil
theorem RpB.rpO {K : PySem.W.Frag} {O : List Addr} {H0 H : Hp} {σ : L2.St} {ρ : En} {v : V} {d : PyData} (s : SR K O H0 H σ ρ) (h : RpB K (O ++ owned σ ρ) H v d) (hv : ∀ a, v = .ref a → a ∈ O → Rp K (hide H (O ++ owned σ ρ)) v d) : Rp K (hide H O) v d := by
  have g : Gr (hide H (O ++ owned σ ρ)) (hide H O) := hide_less fun a ha => List.mem_append_left _ ha
  rcases h with h | ⟨a, rfl, h⟩
  · exact h.mono g
  · by_cases n : a ∈ O
    · exact (hv a rfl n).mono g
    · have e : hide H O a = H a := hide_out n
      rcases h with ⟨xs, ds, rfl, h2, h3, h4⟩ | ⟨xs, ds, rfl, h2, h4⟩ | ⟨xs, ds, rfl, h2, h4⟩
      · exact .lst (.inl (e.trans h2)) h3 (h4.mono g)
      · exact .dK (.inl (e.trans h2)) (h4.mono g)
      · exact .dT (.inl (e.trans h2)) (h4.mono g)
/-- an own name as an argument -/
theorem ba_own (i : Nat) {y : Str} {p' : Pos} {g : En → Rs (List PyData)} (hr : BA X W es g) (hN : X.N[i]? = some y := by rfl) (hv : Vis X.env.scope y := by first | exact Or.inl rfl | exact Or.inr (Or.inl rfl) | exact Or.inr (Or.inr rfl)) (hd : (y == ("__debug__" : Str)) = false := by decide)
    (hcd : (y == ("__classdict__" : Str)) = false := by decide) (hs : starEach (.Name y p' :: es) X.env = (false, eval (.Name y p') X.env) :: starEach es X.env := by rfl) : BA X W (.Name y p' :: es) (aCons (bVar i) g) :=
  PA.imp (pa_cons (pe_var hN hv hd hcd) hr hs) fun σ H Q ⟨ρ, O, H0, s, q⟩ => by
    unfold aCons bVar at q
    have go : ∀ (v : V) (d : PyData), Rp X.K (hide H O) v d → (match (Rs.ok d).bind fun d => (g ρ).bind fun ds => Rs.ok (d :: ds) with
        | .ok d => ∀ H' v, Gr H H' → RpAll X.K (hide H' O) v d → Q v H'
        | .ex e => ∀ H' c dd, Gr H H' → ExR X.K X.mg (hide H' (O ++ owned σ ρ)) c dd e → W c dd σ H'
        | .bad => False) → tAB X.K X.mg W g σ H fun xs H2 => Q (v :: xs) H2 := fun v d r q => ⟨ρ, O, H0, s, by
      cases e : g ρ with
      | ok ds =>
        rw [e] at q
        exact fun H' vs g1 r1 => q H' (v :: vs) g1 (.cons (r.mono (hide_same _ g1)) r1)
      | ex x => rw [e] at q; exact q
      | bad => rw [e] at q; exact q⟩
    cases e : ρ[i]? with
    | none => rw [e] at q; exact q.elim
    | some sv =>
      cases sv with
      | none => rw [e] at q; exact q.elim
      | some sv =>
        cases sv with
        | val d =>
          rw [e] at q
          obtain ⟨x, e1, v, e2, rp⟩ := s.slots.get e
          subst e2
          exact ⟨v, e1, go v d (RpH rp) q⟩
        | own d =>
          rw [e] at q
          obtain ⟨x, e1, a, e2, rp⟩ := s.slots.get e
          subst e2
          have ma := owned_mem e1 e
          have naO : a ∉ O := fun z => s.old a z (s.new a ma)
          have g' : Gr (hide H (O ++ owned σ ρ)) (hide H O) := hide_less fun a ha => List.mem_append_left _ ha
          have ee : hide H O a = H a := hide_out naO
          refine ⟨.ref a, e1, go (.ref a) d ?_ q⟩
          rcases rp with ⟨xs, ds, rfl, h2, h3, h4⟩ | ⟨xs, ds, rfl, h2, h4⟩ | ⟨xs, ds, rfl, h2, h4⟩
          · exact .lst (.inl (ee.trans h2)) h3 (h4.mono g')
          · exact .dK (.inl (ee.trans h2)) (h4.mono g')
          · exact .dT (.inl (ee.trans h2)) (h4.mono g')
theorem ba_cons {g : En → Rs (List PyData)} (ha : DE X W a fa) (hr : BA X W es g) (hs : starEach (a :: es) X.env = (false, eval a X.env) :: starEach es X.env := by rfl) : BA X W (a :: es) (aCons fa g) :=
  PA.imp (pa_cons ha hr hs) fun σ H Q ⟨ρ, O, H0, s, q⟩ => ⟨ρ, O, H0, s, by
    unfold aCons at q
    cases e : fa ρ with
    | ok d =>
      rw [e] at q
      intro H1 v g1 r1
      refine ⟨ρ, O, H0, s.grow g1, ?_⟩
      cases e2 : g ρ with
      | ok ds =>
        rw [bind_ok, e2] at q
        exact fun H' vs g2 r2 => q H' (v :: vs) (g1.trans g2) (.cons ((RpH r1).mono (hide_same _ g2)) r2)
      | ex x =>
        rw [bind_ok, e2] at q
        exact fun H' c dd g2 r2 => q H' c dd (g1.trans g2) r2
      | bad =>
        rw [bind_ok, e2] at q
        exact q
    | ex x => rw [e] at q; exact q
    | bad => rw [e] at q; exact q⟩
/-- only what holds no list comes back -/
def outF : Rs PyData → Rs PyData
  | .ok d => if flatD d then .ok d else .bad
  | .ex e => if e.fs.all fun p => flatD p.2 then .ex e else .bad
  | .bad => .bad
def dCallB (g : List PyData → Rs PyData) (f : En → Rs (List PyData)) : En → Rs PyData := fun ρ => (f ρ).bind fun ds => outF (g ds)
theorem Lsts.grow {H H' : Hp} {O : List Addr} (g : Gr H H') (h : Lsts H O) : Lsts H' O := fun a ha => by
  rcases h a ha with ⟨xs, q⟩ | ⟨xs, q⟩ | ⟨xs, q⟩
  · exact .inl ⟨xs, g _ _ q⟩
  · exact .inr (.inl ⟨xs, g _ _ q⟩)
  · exact .inr (.inr ⟨xs, g _ _ q⟩)
theorem RpFs.flat {K : PySem.W.Frag} {H : Hp} {O : List Addr} (hl : Lsts H O) : ∀ {fs : List (Str × V)} {ds : List (PyData × PyData)}, RpFs K H fs ds → (ds.all fun p => flatD p.2) = true → RpFs K (hide H O) fs ds
  | _, _, .nil, _ => .nil
  | _, _, .cons r t, p => by
    rw [List.all_cons, Bool.and_eq_true] at p
    exact .cons (r.flat hl p.1) (RpFs.flat hl t p.2)
theorem de_callB {f : En → Rs (List PyData)} (F : Fn X.prog X.w X.K X.mg X.base k x g) (hr : Room k X.A) (tk : Takes X W) (ha : BA X W (a :: es) f) (hg : Gl X x := by rfl) (hdb : (x == ("__debug__" : Str)) = false := by decide)
    (he : starEach (a :: es) X.env = (false, eval a X.env) :: starEach es X.env := by rfl) (hpl : (backTo pos (starEach es X.env)).any (·.1) = false := by rfl) : DE X W (.Call (.Name x p) (a :: es) [] pos) (dCallB g f) := by
  obtain ⟨fn, fd, ps, F, hm, hk, hb⟩ := F
  refine PE.imp (pe_callS F hr hg hm hk hb (fun σ => passAt tk σ) ha hdb he hpl) fun σ H Q ⟨ρ, O, H0, s, q⟩ => ⟨ρ, O, H0, s, ?_⟩
  unfold dCallB at q
  cases e : f ρ with
  | ex x => rw [e] at q; exact q
  | bad => rw [e] at q; exact q
  | ok ds =>
    rw [e, bind_ok] at q
    intro H1 vs g1 r1
    have s1 := s.grow g1
    have ll := s1.slots.lsts
    refine ⟨O, ds, fun a ha => s1.there a (List.mem_append_left _ ha), r1, ?_⟩
    have hh : ∀ {H' : Hp}, hide (hide H' O) (owned σ ρ) = hide H' (O ++ owned σ ρ) := fun {H'} => by
      rw [hide_app]
      funext a
      unfold hide
      simp only [List.mem_append]
      congr 1
      rw [Or.comm]
    have lO : ∀ {H' : Hp}, Gr H1 H' → Lsts (hide H' O) (owned σ ρ) := fun {H'} g' a ha => by
      have naO : a ∉ O := fun z => s.old a z (s.new a ha)
      rw [hide_out naO]
      exact ll.grow g' a ha
    cases er : g ds with
    | ok d =>
      rw [er] at q
      unfold outF at q
      dsimp only at q
      split at q
      · rename_i fl
        exact fun H' v g' r' => q H' v (g1.trans g') (by rw [← hh]; exact r'.flat (lO g') fl)
      · exact q.elim
    | ex x =>
      rw [er] at q
      unfold outF at q
      dsimp only at q
      split at q
      · rename_i fl
        rintro H' c dd g' ⟨C, h1, h2, ⟨d, fs, h3, h4, h5⟩ | h3⟩
        · refine q H' c dd (g1.trans g') ⟨C, h1, h2, .inl ⟨d, fs, h3, ?_, by rw [← hh]; exact h5.flat (lO g') fl⟩⟩
          rw [← hh, hide_out fun z => by rcases lO g' d z with ⟨xs, w⟩ | ⟨xs, w⟩ | ⟨xs, w⟩ <;> (rw [h4] at w; cases w)]
          exact h4
        · exact q H' c dd (g1.trans g') ⟨C, h1, h2, .inr h3⟩
      · exact q.elim
    | bad =>
      rw [er] at q
      exact q

/-! ### own lists: append, x[k] = e -/
def sApp (i : Nat) (f : En → Rs PyData) : En → SRes := fun ρ => match ρ[i]? with
  | some (some (.own (.list ds))) => eS ρ (f ρ) fun d => if ds.length < mx then .nx (ρ.set i (some (.own (.list (ds ++ [d]))))) else .bad
  | _ => .bad
theorem own_list {K : PySem.W.Frag} {G H : Hp} {a : Addr} {ds : List PyData} (h : OwnR K G H a (.list ds)) : ∃ xs, H a = some (.lst xs) ∧ xs.length ≤ mx ∧ RpAll K G xs ds := by
  rcases h with ⟨xs, es, e, h2, h3, h4⟩ | ⟨xs, es, e, h2, h4⟩ | ⟨xs, es, e, h2, h4⟩
  · cases e; exact ⟨xs, h2, h3, h4⟩
  · cases e
  · cases e
theorem ds_app (i : Nat) {y : Str} {p1 p2 : Pos} {pos2 : Pos} (he : DE X W e f) (hN : X.N[i]? = some y := by rfl) (hv : Vis X.env.scope y := by first | exact Or.inl rfl | exact Or.inr (Or.inl rfl) | exact Or.inr (Or.inr rfl)) (hd : (y == ("__debug__" : Str)) = false := by decide)
    (hcd : (y == ("__classdict__" : Str)) = false := by decide) (hbase : attributeBase (.Name y p1) "append" X.env (eval (.Name y p1) X.env) = eval (.Name y p1) X.env := by rfl)
    (hfew : ((backTo pos (starEach (e :: []) X.env)).all (fun x => !x.1) && (backToKw pos (keywordEach [] X.env)).all (fun x => x.1.isSome)
      && decide ((e :: []).length + ([] : List Keyword).length + (if ([] : List Keyword).isEmpty then 0 else 1) < 30)) = true := by rfl)
    (hline : (p2.endLine == pos.line) = true := by rfl) (hs : starEach (e :: []) X.env = (false, eval e X.env) :: starEach [] X.env := by rfl) (hplain : (backTo pos (starEach [] X.env)).any (·.1) = false := by rfl)
    (hsw : swapsWith (.Call (.Attribute (.Name y p1) "append" p2) [e] [] pos) none pos2.line X.env = pure false := by rfl) :
    DS X W (.Expr (.Call (.Attribute (.Name y p1) "append" p2) [e] [] pos) pos2) (sApp i f) := by
  have h1 : PS X (.Expr (.Call (.Attribute (.Name y p1) "append" p2) [e] [] pos) pos2) (tDrop (tBM X.K "list" rAppend (tVar i) (tCons (tD X.K X.mg W f) tNil))) :=
    ps_expr (pe_bm PySem.F.plainAttrs_list PySem.F.slot_list_append PySem.F.type_list_append mt_append (pe_var hN hv hd hcd) (pa_cons he pa_nil hs) hbase hfew hline hs hplain) hsw
  exact
  PS.imp h1 fun D σ H ⟨ρ, O, H0, s, q⟩ => by
    unfold sApp at q
    split at q
    · rename_i ds ei
      obtain ⟨x, e1, a, e2, rp⟩ := s.slots.get ei
      subst e2
      obtain ⟨xs, hx, hl, rx⟩ := own_list rp
      refine ⟨.ref a, e1, .inl ⟨rfl, _, .inl (.inl hx)⟩, ρ, O, H0, s, SK.expr s q fun d H1 v s1 r1 q1 => ?_⟩
      obtain ⟨x, e1', a', e2', rp1⟩ := s1.slots.get ei
      rw [e1] at e1'
      cases e1'
      cases e2'
      obtain ⟨xs1, hx1, hl1, rx1⟩ := own_list rp1
      split at q1
      · rename_i hlt
        have hlt' : xs1.length < mx := by rw [rx1.length]; exact hlt
        refine ⟨a, xs1, v, rfl, rfl, hx1, by rw [← mx_line]; exact hlt', q1 σ _ (s1.change e1 ei (.inl ⟨_, _, rfl, upd_same, ?_, rx1.append (.cons r1 .nil)⟩))⟩
        rw [List.length_append]
        exact hlt'
      · exact q1.elim
    · exact q.elim
def sSetIx (i : Nat) (fk fe : En → Rs PyData) : En → SRes := fun ρ => match ρ[i]? with
  | some (some (.own (.list ds))) => eS ρ (fe ρ) fun d => eS ρ (fk ρ) fun k => match k with
    | .int k => (match ixN ds.length k with
      | some j => .nx (ρ.set i (some (.own (.list (ds.set j d)))))
      | none => .bad)
    | _ => .bad
  | _ => .bad

/-! ### list comprehensions -/
def WF : WX := fun _ _ _ _ => False
def wipeE (ρ : En) : List Nat → En
  | [] => ρ
  | v :: vs => (wipeE ρ vs).set v none
def lcL (τ : TgD) (tt : En → Rs Bool) (te : En → Rs PyData) : List PyData → En → Rs (List PyData)
  | [], _ => .ok []
  | d :: ds, ρ => match τ d ρ with
    | .ok ρ1 => (match tt ρ1 with
      | .ok true => (match te ρ1 with
        | .ok y => (lcL τ tt te ds ρ).bind fun r => .ok (y :: r)
        | _ => .bad)
      | .ok false => lcL τ tt te ds ρ
      | _ => .bad)
    | _ => .bad
/-- none of these slots holds an own object -/
def noOwn (ρ : En) (vs : List Nat) : Bool := vs.all fun v => match ρ[v]? with
  | some (some (.own _)) => false
  | _ => true
def lcD (vs : List Nat) (fi : En → Rs (List PyData)) (τ : TgD) (tt : En → Rs Bool) (te : En → Rs PyData) : En → Rs PyData := fun ρ => (fi ρ).bind fun ds =>
  if ds.length ≤ mx && noOwn ρ vs then (lcL τ tt te ds (wipeE ρ vs)).bind fun r => .ok (.list r) else .bad
theorem lcL_noex (τ : TgD) (tt : En → Rs Bool) (te : En → Rs PyData) : ∀ (ds : List PyData) (ρ : En) (e : Exn), lcL τ tt te ds ρ ≠ .ex e
  | [], _, _ => fun z => by cases z
  | d :: ds, ρ, e => by
    have ih := lcL_noex τ tt te ds ρ e
    unfold lcL
    split
    · split
      · split
        · intro z
          cases q : lcL τ tt te ds ρ with
          | ok r => rw [q] at z; cases z
          | ex x => rw [q] at z; cases z; exact ih q
          | bad => rw [q] at z; cases z
        · exact fun z => by cases z
      · exact ih
      · exact fun z => by cases z
    · exact fun z => by cases z
theorem lcL_len (τ : TgD) (tt : En → Rs Bool) (te : En → Rs PyData) : ∀ (ds : List PyData) (ρ : En) (r : List PyData), lcL τ tt te ds ρ = .ok r → r.length ≤ ds.length
  | [], _, _, h => by cases h; exact Nat.le_refl _
  | d :: ds, ρ, r, h => by
    unfold lcL at h
    split at h
    · split at h
      · split at h
        · cases q : lcL τ tt te ds ρ with
          | ok r' =>
            rw [q] at h
            cases h
            exact Nat.succ_le_succ (lcL_len τ tt te ds ρ r' q)
          | ex x => rw [q] at h; cases h
          | bad => rw [q] at h; cases h
        · cases h
      · exact Nat.le_succ_of_le (lcL_len τ tt te ds ρ r h)
      · cases h
    · cases h
/-- a target changes the slots is alone -/
def TgOk (is : List Nat) (τ : TgD) : Prop := ∀ d ρ ρ', τ d ρ = .ok ρ' → ∀ j, j ∉ is → ρ'[j]? = ρ[j]?
theorem tok_name (i : Nat) : TgOk [i] (τName i) := fun d ρ ρ' h j hj => by
  cases h
  rw [List.getElem?_set_ne (by intro e; apply hj; simp [e])]
theorem tok_names : ∀ (is : List Nat) (ds : List PyData) (ρ ρ' : En), τNames is ds ρ = .ok ρ' → ∀ j, j ∉ is → ρ'[j]? = ρ[j]?
  | [], [], _, _, h, _, _ => by cases h; rfl
  | [], _ :: _, _, _, h, _, _ => by cases h
  | _ :: _, [], _, _, h, _, _ => by cases h
  | i :: is, d :: ds, ρ, ρ', h, j, hj => by
    have := tok_names is ds _ ρ' h j fun z => hj (List.mem_cons_of_mem _ z)
    rw [this, List.getElem?_set_ne (by intro e; apply hj; simp [e])]
theorem tok_tup (is : List Nat) : TgOk is (τTup is) := fun d ρ ρ' h j hj => by
  unfold τTup at h
  split at h
  · split at h
    · exact tok_names is _ ρ ρ' h j hj
    · cases h
  · cases h
theorem wipe_get (σ : L2.St) : ∀ (vs : List Nat) (j : Nat), (wipe σ vs)[j]? = if j ∈ vs then (σ[j]?).map fun _ => none else σ[j]?
  | [], j => by simp [wipe]
  | v :: vs, j => by
    unfold wipe
    by_cases e : v = j
    · subst e
      rw [if_pos List.mem_cons_self]
      by_cases hl : v < (wipe σ vs).length
      · rw [List.getElem?_set_self hl]
        rw [wipe_length] at hl
        rw [List.getElem?_eq_getElem hl]
        rfl
      · rw [List.getElem?_eq_none (by simpa using hl)]
        rw [wipe_length] at hl
        rw [List.getElem?_eq_none (by omega)]
        rfl
    · rw [List.getElem?_set_ne e, wipe_get σ vs j]
      have : j ∈ v :: vs ↔ j ∈ vs := by simp [Ne.symm e]
      simp only [this]
theorem wipeE_get (ρ : En) : ∀ (vs : List Nat) (j : Nat), (wipeE ρ vs)[j]? = if j ∈ vs then (ρ[j]?).map fun _ => none else ρ[j]?
  | [], j => by simp [wipeE]
  | v :: vs, j => by
    unfold wipeE
    have hlen : ∀ vs : List Nat, (wipeE ρ vs).length = ρ.length := fun vs => by
      induction vs with
      | nil => rfl
      | cons v vs ih => unfold wipeE; rw [List.length_set, ih]
    by_cases e : v = j
    · subst e
      rw [if_pos List.mem_cons_self]
      by_cases hl : v < (wipeE ρ vs).length
      · rw [List.getElem?_set_self hl]
        rw [hlen] at hl
        rw [List.getElem?_eq_getElem hl]
        rfl
      · rw [List.getElem?_eq_none (by simpa using hl)]
        rw [hlen] at hl
        rw [List.getElem?_eq_none (by omega)]
        rfl
    · rw [List.getElem?_set_ne e, wipeE_get ρ vs j]
      have : j ∈ v :: vs ↔ j ∈ vs := by simp [Ne.symm e]
      simp only [this]
theorem SR.wipe {K : PySem.W.Frag} {O : List Addr} {H0 H : Hp} {σ : L2.St} {ρ : En} (s : SR K O H0 H σ ρ) : ∀ vs : List Nat, SR K O H0 H (L2.wipe σ vs) (wipeE ρ vs)
  | [] => s
  | v :: vs => (SR.wipe s vs).setN
theorem mem_owned {σ : L2.St} {ρ : En} {a : Addr} : a ∈ owned σ ρ ↔ ∃ (j : Nat) (d : PyData), σ[j]? = some (some (V.ref a)) ∧ ρ[j]? = some (some (SV.own d)) := by
  constructor
  · intro h
    induction σ generalizing ρ with
    | nil => simp [owned] at h
    | cons u σ ih =>
      cases ρ with
      | nil => simp [owned] at h
      | cons w ρ =>
        unfold owned at h
        split at h
        · rename_i b hb
          rcases List.mem_cons.mp h with e | e
          · subst e
            unfold own1 at hb
            split at hb
            · cases hb
              exact ⟨0, _, rfl, rfl⟩
            · cases hb
          · obtain ⟨j, d, h1, h2⟩ := ih e
            exact ⟨j + 1, d, by simpa using h1, by simpa using h2⟩
        · obtain ⟨j, d, h1, h2⟩ := ih h
          exact ⟨j + 1, d, by simpa using h1, by simpa using h2⟩
  · rintro ⟨j, d, h1, h2⟩
    exact owned_mem h1 h2
/-- within a block whose new list stands at D -/
theorem SR.block {K : PySem.W.Frag} {O : List Addr} {H0 H1 H' : Hp} {σ : L2.St} {ρ : En} {D : Addr} (s : SR K O H0 H1 σ ρ) (g : Gr H1 H') (hD : H1 D = none) (hD' : H' D ≠ none) : SR K (D :: O) (hide H' (owned σ ρ)) H' σ ρ := by
  have nD := s.fresh hD
  refine ⟨hide_sub, fun a h => hide_in h, s.nd, fun a h => ?_, s.slots.mono (fun b o e => ?_) fun a _ o e => g a o e⟩
  · rcases List.mem_cons.mp h with e | h
    · subst e
      rw [hide_out fun z => nD (List.mem_append_right _ z)]
      exact hD'
    · have n : a ∉ owned σ ρ := fun z => s.old a h (s.new a z)
      rw [hide_out n]
      exact (s.grow g).there a (List.mem_append_left _ h)
  · obtain ⟨nb, e'⟩ := hide_some e
    have ne : b ≠ D := ne_of_none e' hD
    rw [hide_out (by rw [List.cons_append, List.mem_cons, not_or]; exact ⟨ne, nb⟩)]
    exact g b o e'
theorem lc_go {K : PySem.W.Frag} {mg : Str → Option Value} {vs is : List Nat} {fi : En → Rs (List PyData)} {τ : TgD} {tt : En → Rs Bool} {te : En → Rs PyData} (hvs : ∀ j ∈ is, j ∈ vs) (hτ : TgOk is τ) {σ : L2.St} {H : Hp} {Q : VK}
    (q : tO K mg W (lcD vs fi τ tt te) σ H Q) : tLc (tI K mg W true fi) (tG K is τ) (tT K mg WF tt) (tD K mg WF te) vs σ H Q := by
  obtain ⟨ρ, O, H0, s, q⟩ := q
  refine ⟨ρ, O, H0, s, ?_⟩
  unfold lcD at q
  cases efi : fi ρ with
  | ex x => rw [efi] at q; exact q
  | bad => rw [efi] at q; exact q
  | ok ds =>
    rw [efi, bind_ok] at q
    intro J H1 g _ wk D hD
    have hchk : (decide (ds.length ≤ mx) && noOwn ρ vs) = true := by
      cases z : (decide (ds.length ≤ mx) && noOwn ρ vs) with
      | true => rfl
      | false =>
        rw [z, if_neg Bool.false_ne_true] at q
        exact q.elim
    rw [if_pos hchk] at q
    simp only [Bool.and_eq_true, decide_eq_true_eq] at hchk
    obtain ⟨hmx, hno⟩ := hchk
    cases el : lcL τ tt te ds (wipeE ρ vs) with
    | ex x => exact absurd el (lcL_noex τ tt te ds _ x)
    | bad => rw [el] at q; exact q.elim
    | ok r =>
      rw [el, bind_ok] at q
      have s1 := s.grow g
      have sw : SR K O H0 H1 (L2.wipe σ vs) (wipeE ρ vs) := s1.wipe vs
      -- the own objects are the same within the block
      have ow : ∀ a, a ∈ owned (L2.wipe σ vs) (wipeE ρ vs) → a ∈ owned σ ρ := fun a ha => by
        obtain ⟨j, d, h1, h2⟩ := mem_owned.mp ha
        rw [wipe_get] at h1
        rw [wipeE_get] at h2
        by_cases hj : j ∈ vs
        · rw [if_pos hj] at h1
          cases z : σ[j]? with
          | none => rw [z] at h1; cases h1
          | some u => rw [z] at h1; cases h1
        · rw [if_neg hj] at h1 h2
          exact mem_owned.mpr ⟨j, d, h1, h2⟩
      have keep : ∀ {σ' : L2.St} {ρ' : En} {d : PyData}, τ d (wipeE ρ vs) = .ok ρ' → But is (L2.wipe σ vs) σ' → ∀ a, a ∈ owned σ ρ → a ∈ owned σ' ρ' := fun {σ' ρ' d} et b a ha => by
        obtain ⟨j, d', h1, h2⟩ := mem_owned.mp ha
        have hj : j ∉ vs := fun z => by
          unfold noOwn at hno
          have := List.all_eq_true.mp hno j z
          rw [h2] at this
          cases this
        have hji : j ∉ is := fun z => hj (hvs j z)
        refine mem_owned.mpr ⟨j, d', ?_, ?_⟩
        · rw [b.2 j hji, wipe_get, if_neg hj, h1]
        · rw [hτ d _ ρ' et j hji, wipeE_get, if_neg hj, h2]
      let T : List Addr := D :: (O ++ owned σ ρ)
      let Pv : Nat → Hp → Prop := fun i H' => ∃ acc accD rest, H' D = some (.lst acc) ∧ RpAll K (hide H' T) acc accD ∧ acc.length ≤ i ∧ Gr H1 H' ∧ lcL τ tt te (ds.drop i) (wipeE ρ vs) = .ok rest ∧ accD ++ rest = r
      refine ⟨fun i m H' => m = ds.length - i ∧ i ≤ ds.length ∧ Pv i H', ⟨ds.length, by simp, Nat.zero_le _, [], [], r, upd_same, .nil, Nat.le_refl _, same_upd hD, el, rfl⟩, ?_⟩
      rintro i m H2 ⟨rfl, hi2, acc, accD, rest, hacc, racc, lacc, g2, erest, esum⟩
      by_cases hlt : i < ds.length
      · have ed : ds[i]? = some ds[i] := List.getElem?_eq_getElem hlt
        have edrop : ds.drop i = ds[i] :: ds.drop (i + 1) := by rw [List.drop_eq_getElem_cons hlt]
        obtain ⟨go, yl⟩ := (wk H2 g2 i).1 _ ed
        refine .inr ⟨go, Pv (i + 1), fun H' h => ⟨ds.length - (i + 1), by omega, rfl, hlt, h⟩, fun x H3 y => ?_⟩
        obtain ⟨rfl, rx⟩ := yl x H3 y
        have sb : SR K (D :: O) (hide H3 (owned (L2.wipe σ vs) (wipeE ρ vs))) H3 (L2.wipe σ vs) (wipeE ρ vs) := sw.block g2 hD (by rw [hacc]; exact fun z => by cases z)
        refine ⟨wipeE ρ vs, D :: O, _, ds[i], sb, rx.mono fun b o e => ?_, ?_⟩
        · obtain ⟨nb, e'⟩ := hide_some e
          have ne : b ≠ D := ne_of_none e' hD
          rw [hide_out (by
            rw [List.cons_append, List.mem_cons, not_or]
            exact ⟨ne, fun z => nb ((List.mem_append.mp z).elim (List.mem_append_left _) fun w => List.mem_append_right _ (ow b w))⟩)]
          exact g2 b o e'
        · rw [edrop] at erest
          unfold lcL at erest
          cases et : τ ds[i] (wipeE ρ vs) with
          | ex x => rw [et] at erest; cases erest
          | bad => rw [et] at erest; cases erest
          | ok ρ1 =>
            rw [et] at erest
            dsimp only at erest
            intro σ1 sr1 but
            refine ⟨?_, ρ1, D :: O, _, sr1, ?_⟩
            · apply List.ext_getElem?
              intro j
              rw [wipe_get, wipe_get]
              by_cases hj : j ∈ vs
              · rw [if_pos hj, if_pos hj]
                have hl : σ1.length = σ.length := by rw [but.1, wipe_length]
                by_cases hjl : j < σ.length
                · rw [List.getElem?_eq_getElem hjl, List.getElem?_eq_getElem (by omega)]
                  rfl
                · rw [List.getElem?_eq_none (by omega), List.getElem?_eq_none (by omega)]
              · rw [if_neg hj, if_neg hj, but.2 j fun z => hj (hvs j z), wipe_get, if_neg hj]
            · cases ett : tt ρ1 with
              | ex x => rw [ett] at erest; cases erest
              | bad => rw [ett] at erest; cases erest
              | ok bb =>
                rw [ett] at erest
                intro H4 g4
                cases bb with
                | false =>
                  rw [if_neg Bool.false_ne_true]
                  dsimp only at erest
                  exact ⟨acc, accD, rest, g4 _ _ hacc, racc.mono (hide_same _ g4), by omega, g2.trans g4, erest, esum⟩
                | true =>
                  rw [if_pos rfl]
                  dsimp only at erest
                  refine ⟨ρ1, D :: O, _, sr1.grow g4, ?_⟩
                  cases ete : te ρ1 with
                  | ex x => rw [ete] at erest; cases erest
                  | bad => rw [ete] at erest; cases erest
                  | ok yd =>
                    rw [ete] at erest
                    dsimp only at erest
                    intro H5 v g5 rv
                    cases erl : lcL τ tt te (ds.drop (i + 1)) (wipeE ρ vs) with
                    | ex x => rw [erl] at erest; cases erest
                    | bad => rw [erl] at erest; cases erest
                    | ok rest' =>
                      rw [erl] at erest
                      have e2 : rest = yd :: rest' := by
                        have := erest
                        simp only [bind_ok, Rs.ok.injEq] at this
                        exact this.symm
                      subst e2
                      have g45 := g4.trans g5
                      have hT : D ∈ T := List.mem_cons_self
                      have rvT : Rp K (hide H5 T) v yd := rv.mono (hide_less fun a ha => ?_)
                      refine ⟨acc, g45 _ _ hacc, by rw [← mx_line]; omega, acc ++ [v], accD ++ [yd], rest', upd_same, ?_, by rw [List.length_append]; exact Nat.succ_le_succ lacc, ?_, erl, by rw [List.append_assoc]; exact esum⟩
                      · rw [hide_upd hT]
                        exact (racc.mono (hide_same _ g45)).append (.cons rvT .nil)
                      · intro b o e
                        rw [upd_ne (ne_of_none e hD)]
                        exact g45 b o (g2 b o e)
                      · rcases List.mem_cons.mp ha with e | h
                        · subst e; exact List.mem_append_left _ List.mem_cons_self
                        · rcases List.mem_append.mp h with h | h
                          · exact List.mem_append_left _ (List.mem_cons_of_mem _ h)
                          · exact List.mem_append_right _ (keep et but a h)
      · have ei : i = ds.length := by omega
        subst ei
        rw [List.drop_length] at erest
        cases erest
        rw [List.append_nil] at esum
        subst esum
        exact .inl ⟨(wk H2 g2 _).2 (Nat.le_refl _), q H2 D (g.trans g2) (by
          cases z : H D with
          | none => rfl
          | some o => rw [g D o z] at hD; cases hD) (.inl ⟨acc, accD, rfl, hacc, by omega, racc⟩)⟩
end
end DL

namespace DL
open PySem PySem.Spec PyProof.Rows L2

section
variable {X : Cx} {W : WX} {a b c e : Expr} {fa fb fc f : En → Rs PyData} {pos p : Pos} {st : Stmt} {rest : List Stmt} {x : Str} {es : List Expr} {k : Nat} {g : List PyData → Rs PyData}
abbrev DTs (X : Cx) (W : WX) (ifs : List Expr) (t : En → Rs Bool) : Prop := PTs X ifs (tT X.K X.mg W t)
def tY : En → Rs Bool := fun _ => .ok true
theorem dts_nil : DTs X W [] tY := ⟨fun pins s σ H Q I ⟨ρ, O, H0, sr, q⟩ => pts_nil.run pins s σ H Q I (q H (Gr.refl H))⟩
theorem dts_one {t : En → Rs Bool} (h : DT X W c t) : DTs X W [c] t := pts_one h
section
variable {elt tg iter : Expr} {ifs : List Expr} {scope : Scope} {is : List Nat} {fi : En → Rs (List PyData)} {τ : TgD} {tt : En → Rs Bool} {te : En → Rs PyData}
theorem oe_lc (own : List (Str × Nat)) (hc : X.calm = true) (hN : X.N.Nodup) (hi : DI X W true tg iter fi) (ok : BlkOk X.N X.env.scope scope own)
    (hg : ∀ (s : Shared) (H : Hp) (C : Addr) (cl : List (Str × Addr)) (fp : List Addr), DG (X.blk s H scope (compEnvC scope cl C X.env) fp) tg is τ) (hτ : TgOk is τ)
    (ht : ∀ (s : Shared) (H : Hp) (C : Addr) (cl : List (Str × Addr)) (fp : List Addr), DTs (X.blk s H scope (compEnvC scope cl C X.env) fp) WF ifs tt)
    (he : ∀ (s : Shared) (H : Hp) (C : Addr) (cl : List (Str × Addr)) (fp : List Addr), DE (X.blk s H scope (compEnvC scope cl C X.env) fp) WF elt te) (hvs : ∀ j ∈ is, j ∈ own.map (·.2) := by decide) (hs : ∀ x, foldedSetIterable iter X.env x = pure x := by intro _; rfl) :
    OE X W (.ListComp elt [⟨tg, iter, ifs, 0⟩] scope pos) (lcD (own.map (·.2)) fi τ tt te) :=
  PE.imp (pe_lc hc hN hi ok hg ht he hs) fun σ H Q q => lc_go hvs hτ q
theorem ds_setLc (i : Nat) {y : Str} {py spos : Pos} (own : List (Str × Nat)) (hc : X.calm = true) (hN : X.N.Nodup) (hi : DI X W true tg iter fi) (ok : BlkOk X.N X.env.scope scope own)
    (hg : ∀ (s : Shared) (H : Hp) (C : Addr) (cl : List (Str × Addr)) (fp : List Addr), DG (X.blk s H scope (compEnvC scope cl C X.env) fp) tg is τ) (hτ : TgOk is τ)
    (ht : ∀ (s : Shared) (H : Hp) (C : Addr) (cl : List (Str × Addr)) (fp : List Addr), DTs (X.blk s H scope (compEnvC scope cl C X.env) fp) WF ifs tt)
    (he : ∀ (s : Shared) (H : Hp) (C : Addr) (cl : List (Str × Addr)) (fp : List Addr), DE (X.blk s H scope (compEnvC scope cl C X.env) fp) WF elt te)
    (hsw : swapsWith (.ListComp elt [⟨tg, iter, ifs, 0⟩] scope pos) (some (.Name y py)) spos.line X.env = pure true)
    (hy : X.N[i]? = some y := by rfl) (hyl : X.env.scope.names.lookup y = some .local := by rfl) (hvs : ∀ j ∈ is, j ∈ own.map (·.2) := by decide) (hs : ∀ x, foldedSetIterable iter X.env x = pure x := by intro _; rfl) :
    DS X W (.Assign [.Name y py] (.ListComp elt [⟨tg, iter, ifs, 0⟩] scope pos) spos) (sSetO i (lcD (own.map (·.2)) fi τ tt te)) :=
  PS.imp (ps_setLc hc hN hy hyl hsw hi ok hg ht he hs) fun D σ H ⟨ρ, O, H0, s, q⟩ => lc_go hvs hτ ⟨ρ, O, H0, s, SK.exprO s q fun d H1 a g s1 hn r1 q1 => q1 _ H1 (s.setO g hn r1)⟩
end

/-! ### further new lists -/
theorem RKO.grow {K : PySem.W.Frag} {mg : Str → Option Value} {O : List Addr} {σ : L2.St} {H H1 : Hp} {Q : VK} {r : Rs PyData} (g : Gr H H1) (h : RKO K mg W O σ H Q r) : RKO K mg W O σ H1 Q r := by
  cases r with
  | ok d => exact fun H2 a g2 hn => h H2 a (g.trans g2) (by
      cases z : H a with
      | none => rfl
      | some o => rw [g a o z] at hn; cases hn)
  | ex e => exact fun H' c dd g' => h H' c dd (g.trans g')
  | bad => exact h
theorem RKB.ofO {K : PySem.W.Frag} {mg : Str → Option Value} {O : List Addr} {σ : L2.St} {H : Hp} {Q Q' : VK} {r : Rs PyData} {k : PyData → Rs PyData} (h : RKO K mg W O σ H Q (r.bind k))
    (hk : ∀ d H1 v, Gr H H1 → RpB K O H1 v d → RKO K mg W O σ H1 Q (k d) → Q' v H1) : RKB K mg W O σ H Q' r := by
  cases r with
  | ok d => exact fun H' v g rp => hk d H' v g rp (RKO.grow g h)
  | ex e => exact h
  | bad => exact h
/-- list(x) -/
theorem oe_list (ha : BE X W a fa) (hm : X.mg "list" = none) (hg : Gl X "list" := by rfl)
    (he : starEach (a :: []) X.env = (false, eval a X.env) :: starEach [] X.env := by rfl) (hpl : (backTo pos (starEach [] X.env)).any (·.1) = false := by rfl) : OE X W (.Call (.Name "list" p) [a] [] pos) (b1 oList fa) :=
  PE.imp (pe_callTy call_list_of hg hm (by decide +kernel) (pa_cons ha pa_nil he) (by decide) (by decide) he hpl) fun σ H Q ⟨ρ, O, H0, s, q⟩ => ⟨ρ, O, H0, s, RKB.ofO q fun d H1 v g1 r1 q1 => by
    unfold oList at q1
    split at q1
    · obtain ⟨p, xs, rfl, hx, lx, rX⟩ := r1.list
      exact ⟨p, xs, rfl, .inl (.inl hx), fun l hl => q1.newL hl lx rX⟩
    · obtain ⟨p, xs, rfl, hx, lx, rX⟩ := r1.tuple
      exact ⟨p, xs, rfl, .inr hx, fun l hl => q1.newL hl lx rX⟩
    · exact q1.elim⟩
/-- list + list -/
def oAddL : PyData → PyData → Rs PyData
  | .list i, .list j => if i.length + j.length ≤ mx then .ok (.list (i ++ j)) else .bad
  | _, _ => .bad
def oMulL : PyData → PyData → Rs PyData
  | .list i, .int k => if decide (-4611686018427387904 ≤ k) && decide (k < 4611686018427387904) && decide (i.length * k.toNat ≤ mx) then .ok (.list (List.replicate k.toNat i).flatten) else .bad
  | _, _ => .bad
theorem oe_cat (ha : BE X W a fa) (hb : BE X W b fb) : OE X W (.BinOp a .Add b pos) (b2 oAddL fa fb) :=
  PE.imp (pe_op op_catR ha hb) fun σ H Q ⟨ρ, O, H0, s, q⟩ => ⟨ρ, O, H0, s, RKB.ofO q fun d H1 v g1 r1 q1 => ⟨ρ, O, H0, s.grow g1, RKB.ofO q1 fun e H2 u g2 r2 q2 => by
    unfold oAddL at q2
    split at q2
    · rename_i i j
      obtain ⟨p, xs, rfl, hx, lx, rX⟩ := r1.list
      obtain ⟨p', ys, rfl, hy, ly, rY⟩ := r2.list
      split at q2
      · rename_i hz
        have hz' : xs.length + ys.length ≤ mx := by rw [rX.length, rY.length]; exact hz
        exact ⟨p, p', xs, ys, rfl, rfl, Gr.rd g2 hx, hy, by rw [← mx_line]; exact hz', fun u hu => q2.newL hu (by rw [List.length_append]; exact hz') ((rX.mono (hide_same _ g2)).append rY)⟩
      · exact q2.elim
    · exact q2.elim⟩⟩
/-- list * int -/
theorem oe_rep (ha : BE X W a fa) (hb : BE X W b fb) : OE X W (.BinOp a .Mult b pos) (b2 oMulL fa fb) :=
  PE.imp (pe_op op_repR ha hb) fun σ H Q ⟨ρ, O, H0, s, q⟩ => ⟨ρ, O, H0, s, RKB.ofO q fun d H1 v g1 r1 q1 => ⟨ρ, O, H0, s.grow g1, RKB.ofO q1 fun e H2 u g2 r2 q2 => by
    unfold oMulL at q2
    split at q2
    · rename_i i k
      obtain ⟨p, xs, rfl, hx, lx, rX⟩ := r1.list
      cases r2.int
      split at q2
      · rename_i hc
        simp only [Bool.and_eq_true, decide_eq_true_eq] at hc
        obtain ⟨⟨h1, h2⟩, h3⟩ := hc
        refine ⟨p, k, xs, rfl, rfl, Gr.rd g2 hx, by omega, by omega, by rw [← mx_line, rX.length]; exact h3, fun u hu => q2.newL hu ?_ ((rX.mono (hide_same _ g2)).rep _)⟩
        rw [PyProof.Rows.lm_len_rep_flat, Nat.mul_comm, rX.length]
        exact h3
      · exact q2.elim
    · exact q2.elim⟩⟩

/-! ### slices -/
def PoD (K : PySem.W.Frag) (mg : Str → Option Value) (W : WX) (f : En → Rs (Option Int)) : TO := fun σ H Q => ∃ ρ O H0, SR K O H0 H σ ρ ∧ RKT K mg W (O ++ owned σ ρ) σ H Q (f ρ)
abbrev DO (X : Cx) (W : WX) (e : Option Expr) (f : En → Rs (Option Int)) : Prop := PO X e (PoD X.K X.mg W f)
theorem PO.imp {X : Cx} {e : Option Expr} {t t' : TO} (h : PO X e t) (i : ∀ σ H Q, t' σ H Q → t σ H Q) : PO X e t' := ⟨fun pins s σ H Q I q => h.run pins s σ H Q I (i σ H Q q)⟩
def pNo : En → Rs (Option Int) := fun _ => .ok none
def pSo (f : En → Rs PyData) : En → Rs (Option Int) := fun ρ => (f ρ).bind fun d => match d with
  | .int i => .ok (some i)
  | _ => .bad
theorem do_none : DO X W none pNo := PO.imp po_none fun σ H Q ⟨ρ, O, H0, s, q⟩ => q H (Gr.refl H)
theorem do_some (h : BE X W a fa) : DO X W (some a) (pSo fa) := PO.imp (po_some h) fun σ H Q ⟨ρ, O, H0, s, q⟩ => ⟨ρ, O, H0, s, RKB.ofT q fun d H1 v g r q1 => by
  cases d with
  | int i =>
    cases r.int
    exact ⟨i, rfl, q1 H1 (Gr.refl _)⟩
  | _ => exact q1.elim⟩
/-- xs[lo:hi] of data -/
def cutD {α : Type} (xs : List α) (lo hi : Option Int) : List α := (xs.drop (HT.sIx xs.length 0 lo)).take (HT.sIx xs.length xs.length hi - HT.sIx xs.length 0 lo)
theorem RpAll.cut {K : PySem.W.Frag} {H : Hp} {xs : List V} {ds : List PyData} (h : RpAll K H xs ds) (lo hi : Option Int) : RpAll K H (cutV xs lo hi) (cutD ds lo hi) := by
  unfold cutV cutD
  rw [h.length]
  exact (h.drop _).take _
def oCut (lo hi : Option Int) : PyData → Rs PyData
  | .list xs => .ok (.list (cutD xs lo hi))
  | .tuple xs => .ok (.tuple (cutD xs lo hi))
  | .str z => if z.length ≤ mx then .ok (.str (cutS z lo hi)) else .bad
  | _ => .bad
def dCut (f : En → Rs PyData) (flo fhi : En → Rs (Option Int)) : En → Rs PyData := fun ρ => (f ρ).bind fun d => (flo ρ).bind fun lo => (fhi ρ).bind fun hi => oCut lo hi d
def rSlR : V → Option Int → Option Int → Hp → VK → Prop := fun x lo hi H Q => ∃ a xs, x = .ref a ∧ Rd H a (.lst xs) ∧ ∀ p, H p = none → Q (.ref p) (upd H p (.lst (cutV xs lo hi)))
theorem sl_listR : SlR X rSlR := by
  intro pins s σ H x y v u lo hi sl Q I rx hs pl pu ⟨a, xs, e, hx, q⟩
  exact sl_list pins s σ H x y v u lo hi sl Q I rx hs pl pu ⟨a, xs, e, .inl hx, q⟩
theorem RKT.of2 {K : PySem.W.Frag} {mg : Str → Option Value} {O : List Addr} {σ : L2.St} {H : Hp} {Q : VK} {α : Type} {r : Rs α} {Q' : α → Hp → Prop} {k : α → Rs PyData} (h : RKO K mg W O σ H Q (r.bind k)) (hk : ∀ d H1, Gr H H1 → RKO K mg W O σ H1 Q (k d) → Q' d H1) : RKT K mg W O σ H Q' r := by
  cases r with
  | ok d => exact fun H' g => hk d H' g (RKO.grow g h)
  | ex e => exact h
  | bad => exact h
/-- t[lo:hi]: what is new has no dict -/
def rSlN (K : PySem.W.Frag) : V → Option Int → Option Int → Hp → VK → Prop := fun x lo hi H Q => ∃ a xs, x = .ref a ∧ SqT K H a xs ∧
  (HT.sIx xs.length 0 lo = 0 ∧ HT.sIx xs.length xs.length hi = xs.length → Q (.ref a) H) ∧ (¬ (HT.sIx xs.length 0 lo = 0 ∧ HT.sIx xs.length xs.length hi = xs.length) → ∀ p, H p = none → ∀ o : Obj, o.dict = none → Q (.ref p) (upd H p (.frz o (.tup (cutV xs lo hi)))))
theorem sl_tupN : SlR X (rSlN X.K) := by
  intro pins s σ H x v vl vu lo hi sl Q I rx hs pl pu h
  obtain ⟨a, xs, rfl, hx, q1, q2⟩ := h
  cases rx
  obtain ⟨its, r, ht, hz⟩ := I.tuple hx
  have hlen : its.toArray.size = xs.length := by rw [List.size_toArray]; exact r.length.symm
  refine ⟨"tuple", _, PyProof.Rows.slot_tuple_getitem.lookup, ht.typeIs, ?_⟩
  by_cases hw : HT.sIx xs.length 0 lo = 0 ∧ HT.sIx xs.length xs.length hi = xs.length
  · exact getItem_tuple_whole ht hs pl pu (by rw [hlen]; exact hw) ⟨.ref a, H, I, rfl, q1 hw⟩
  · refine HT.getItem_tuple_cut ht hs pl pu (by rw [hlen]; exact hw) ?_ (by rw [hlen]; exact hz)
    rw [hlen]
    refine ⟨.ref s.heap.objs.size, _, I.laid (t' := s.toks) (o := .frz _ (.tup (cutV xs lo hi))) (fun b ob q => Heap.get?_push_of_some _ q) (Nat.le_refl _) ⟨Heap.get?_push_size _ rfl, ?_⟩, rfl, q2 hw _ (I.hok.fresh (Nat.le_refl _)) _ rfl⟩
    exact ⟨Nat.le_trans (cutV_length xs lo hi) hz, _, (r.drop (HT.sIx xs.length 0 lo)).take (HT.sIx xs.length xs.length hi - HT.sIx xs.length 0 lo), IsTup.new _ _⟩
theorem cutV_mx {xs : List V} (h : xs.length ≤ mx) (lo hi : Option Int) : (cutV xs lo hi).length ≤ mx := Nat.le_trans (cutV_length xs lo hi) h
theorem cutV_all {xs : List V} {lo hi : Option Int} (h : HT.sIx xs.length 0 lo = 0 ∧ HT.sIx xs.length xs.length hi = xs.length) : cutV xs lo hi = xs := by
  unfold cutV
  rw [h.1, h.2, List.drop_zero, Nat.sub_zero, List.take_length]
theorem cutD_all {α : Type} {xs : List α} {lo hi : Option Int} (h : HT.sIx xs.length 0 lo = 0 ∧ HT.sIx xs.length xs.length hi = xs.length) : cutD xs lo hi = xs := by
  unfold cutD
  rw [h.1, h.2, List.drop_zero, Nat.sub_zero, List.take_length]
/-- a tuple's or a list's slice -/
theorem de_cut {lo hi : Option Expr} {flo fhi : En → Rs (Option Int)} {p2 : Pos} (ha : BE X W a fa) (hl : DO X W lo flo) (hh : DO X W hi fhi) : DE X W (.Subscript a (.Slice lo hi none p2) pos) (dCut fa flo fhi) :=
  PE.imp (pe_slice ((sl_listR.or sl_tupN).or sl_str) ha hl hh) fun σ H Q ⟨ρ, O, H0, s, q⟩ => ⟨ρ, O, H0, s, RKB.of q fun d H1 v g1 r1 q1 => ⟨ρ, O, H0, s.grow g1, RKT.of q1 fun l H2 g2 q2 => ⟨ρ, O, H0, (s.grow g1).grow g2, RKT.of q2 fun u H3 g3 q3 => by
    have r3 := (r1.grow g2).grow g3
    have th := (((s.grow g1).grow g2).grow g3).there
    unfold oCut at q3
    split at q3
    · obtain ⟨p, xs, rfl, hx, lx, rX⟩ := r3.list
      exact .inl (.inl ⟨p, xs, rfl, hx, fun q hq => q3.newL th hq (cutV_mx lx _ _) (rX.cut _ _)⟩)
    · have tX := r3.tupleRp
      obtain ⟨p, xs, rfl, hx, lx, rX⟩ := r3.tuple
      refine .inl (.inr ⟨p, xs, rfl, hx, fun h => ?_, fun h q hq => q3.newT th hq (cutV_mx lx _ _) (rX.cut _ _)⟩)
      rw [rX.length] at h
      rw [cutD_all h] at q3
      exact q3.here tX
    · rename_i z
      cases r3.str
      split at q3
      · rename_i hz
        exact .inr ⟨z, rfl, by rw [← mx_line]; exact hz, q3.here (.str _)⟩
      · exact q3.elim
    · exact q3.elim⟩⟩⟩
def oCutL (lo hi : Option Int) : PyData → Rs PyData
  | .list xs => .ok (.list (cutD xs lo hi))
  | _ => .bad
def dCutL (f : En → Rs PyData) (flo fhi : En → Rs (Option Int)) : En → Rs PyData := fun ρ => (f ρ).bind fun d => (flo ρ).bind fun lo => (fhi ρ).bind fun hi => oCutL lo hi d
theorem oe_cut {lo hi : Option Expr} {flo fhi : En → Rs (Option Int)} {p2 : Pos} (ha : BE X W a fa) (hl : DO X W lo flo) (hh : DO X W hi fhi) : OE X W (.Subscript a (.Slice lo hi none p2) pos) (dCutL fa flo fhi) :=
  PE.imp (pe_slice sl_listR ha hl hh) fun σ H Q ⟨ρ, O, H0, s, q⟩ => ⟨ρ, O, H0, s, RKB.ofO q fun d H1 v g1 r1 q1 => ⟨ρ, O, H0, s.grow g1, RKT.of2 q1 fun l H2 g2 q2 => ⟨ρ, O, H0, (s.grow g1).grow g2, RKT.of2 q2 fun u H3 g3 q3 => by
    have r3 := (r1.grow g2).grow g3
    unfold oCutL at q3
    split at q3
    · obtain ⟨p, xs, rfl, hx, lx, rX⟩ := r3.list
      exact ⟨p, xs, rfl, hx, fun q hq => q3.newL hq (cutV_mx lx _ _) (rX.cut _ _)⟩
    · exact q3.elim⟩⟩⟩

/-! ### range(a, b, c) -/
def rng3 (m n c : Int) : Rs (List PyData) := if decide (c ≠ 0) && decide (c.natAbs < 1073741824) && Builtin.Range.small m n c && decide (Builtin.Range.rangeSize m n c = ((Builtin.Range.rangeSize m n c).toNat : Int)) && decide ((Builtin.Range.rangeSize m n c).toNat ≤ 4611686018427387904) then
  .ok ((List.range (Builtin.Range.rangeSize m n c).toNat).map fun (k : Nat) => .int (m + (k : Int) * c)) else .bad
def iRange3 (f g h : En → Rs PyData) : En → Rs (List PyData) := fun ρ => (f ρ).bind fun d => (g ρ).bind fun e => (h ρ).bind fun k => match d, e, k with
  | .int m, .int n, .int c => rng3 m n c
  | _, _, _ => .bad
theorem wk_rangeC {K : PySem.W.Frag} {G P : Hp} (lo c : Int) (n : Nat) : Wk K G P (Itc lo c n) ((List.range n).map fun (k : Nat) => .int (lo + (k : Int) * c)) := fun H1 g i => by
  refine ⟨fun d e => ?_, fun h => ?_⟩
  · rw [List.getElem?_map] at e
    by_cases hi : i < n
    · rw [List.getElem?_range hi] at e
      cases e
      exact ⟨hi, fun x H2 ⟨e1, e2⟩ => ⟨e1, by rw [e2]; exact .int _⟩⟩
    · rw [List.getElem?_eq_none (by rw [List.length_range]; omega)] at e
      cases e
  · rw [List.length_map, List.length_range] at h
    exact h
theorem di_range3 {tg : Expr} (bb : Bool) (ha : BE X W a fa) (hb : BE X W b fb) (hcc : BE X W c fc) (hm : X.mg "range" = none) (hg : Gl X "range" := by rfl)
    (hs : starEach [a, b, c] X.env = (false, eval a X.env) :: starEach [b, c] X.env := by rfl) (hs2 : starEach [b, c] X.env = (false, eval b X.env) :: starEach [c] X.env := by rfl) (hs3 : starEach [c] X.env = (false, eval c X.env) :: starEach [] X.env := by rfl) (hpl : (backTo pos (starEach [b, c] X.env)).any (·.1) = false := by rfl) :
    DI X W bb tg (.Call (.Name "range" p) [a, b, c] [] pos) (iRange3 fa fb fc) :=
  PI.imp (pi_range3 hg hm (pa_cons ha (pa_cons hb (pa_cons hcc pa_nil hs3) hs2) hs) hs hpl) fun σ H R ⟨ρ, O, H0, s, q⟩ => ⟨ρ, O, H0, s, RKB.ofI q fun d H1 v g r1 q1 => ⟨ρ, O, H0, s.grow g, RKB.ofI q1 fun e H2 u g2 r2 q2 => ⟨ρ, O, H0, (s.grow g).grow g2, RKB.ofI q2 fun k H3 w g3 r3 q3 => by
    cases d with
    | int m =>
      cases e with
      | int n =>
        cases k with
        | int cc =>
          cases r1.int
          cases r2.int
          cases r3.int
          dsimp only at q3
          unfold rng3 at q3
          split at q3
          · rename_i h
            simp only [Bool.and_eq_true, decide_eq_true_eq] at h
            exact ⟨m, n, cc, _, rfl, ⟨h.1.1.1.1, h.1.1.1.2, h.1.1.2, h.1.2⟩, q3 _ H3 (Gr.refl _) (by rw [List.length_map, List.length_range]; exact h.2) (wk_rangeC m cc _)⟩
          · exact q3.elim
        | _ => exact q3.elim
      | _ => exact q3.elim
    | _ => exact q3.elim⟩⟩⟩

/-! ### a def denotes its body's function -/
def outS : SRes → Rs PyData
  | .ret d => .ok d
  | .nx _ => .ok .none
  | .ex e _ => .ex e
  | _ => .bad
def runF (n m : Nat) (body : En → SRes) (ds : List PyData) : Rs PyData := if ds.length = m then outS (body (ds.map (fun d => some (.val d)) ++ List.replicate (n - m) none)) else .bad
theorem slots_start {K : PySem.W.Frag} {G H : Hp} : ∀ {vs : List V} {ds : List PyData} (j : Nat), RpAll K G vs ds → SlotsR K G H (vs.map some ++ List.replicate j none) (ds.map (fun d => some (.val d)) ++ List.replicate j none)
  | _, _, 0, .nil => .nil
  | _, _, j + 1, .nil => .cons trivial (slots_start (vs := []) (ds := []) j .nil)
  | _, _, j, .cons r t => .cons ⟨_, rfl, r⟩ (slots_start j t)
theorem owned_start : ∀ (vs : List V) (ds : List PyData) (j : Nat), owned (vs.map some ++ List.replicate j none) (ds.map (fun d => some (SV.val d)) ++ List.replicate j none) = []
  | [], [], 0 => rfl
  | [], [], j + 1 => owned_start [] [] j
  | [], d :: ds, 0 => rfl
  | [], d :: ds, j + 1 => by
    show owned (none :: List.replicate j none) (some (SV.val d) :: _) = []
    unfold owned own1
    have := owned_none (ds.map (fun d => some (SV.val d)) ++ List.replicate (j + 1) none) j
    exact this
  | v :: vs, [], 0 => by cases vs <;> rfl
  | v :: vs, [], j + 1 => by
    show owned (some v :: _) (none :: _) = []
    unfold owned
    have e : own1 (some v) (none : Option SV) = none := by cases v <;> rfl
    rw [e]
    exact owned_noneR (vs.map some ++ List.replicate (j + 1) none) j
  | v :: vs, d :: ds, j => by
    show owned (some v :: _) (some (SV.val d) :: _) = []
    unfold owned
    have e : own1 (some v) (some (SV.val d)) = none := by cases v <;> rfl
    rw [e]
    exact owned_start vs ds j
where
  owned_none : ∀ (ρ : En) (j : Nat), owned (List.replicate j none) ρ = []
    | _, 0 => by unfold owned; rfl
    | [], j + 1 => by rw [List.replicate_succ]; unfold owned; rfl
    | y :: ρ, j + 1 => by rw [List.replicate_succ]; unfold owned own1; exact owned_none ρ j
  owned_noneR : ∀ (σ : L2.St) (j : Nat), owned σ (List.replicate j none) = []
    | [], j => by unfold owned; rfl
    | u :: σ, 0 => by unfold owned; rfl
    | u :: σ, j + 1 => by
      rw [List.replicate_succ]
      unfold owned
      have e : own1 u (none : Option SV) = none := by cases u with | none => rfl | some v => cases v <;> rfl
      rw [e]
      exact owned_noneR σ j
end
section
variable {P : Program} {w : World} {K : PySem.W.Frag} {mg : Str → Option Value} {base : Heap}
theorem fnok_mk {name : Str} {st : Stmt} {f : Addr} {fd : FuncData} {N ps : List Str} {k : Nat} {body : En → SRes} (F : Fun K name name st f fd) (S : FnScope N ps (defScope st))
    (hb : ∀ (cdv : Value) (A : Around) (outer : List Env) (s : Shared) (H : Hp) (E : XK), Room k (A.deeper (envOfC name (defScope st) s.heap.objs.size f cdv)) →
      Takes (cxOf (L2.CX P w) P w K mg base N name (defScope st) f cdv A outer s H E) (fun c d _ H => E c d H) → PassesOwn (model P w) (A.deeper (envOfC name (defScope st) s.heap.objs.size f cdv)) (envOfC name (defScope st) s.heap.objs.size f cdv) (cxOf (L2.CX P w) P w K mg base N name (defScope st) f cdv A outer s H E).xe →
      DSs (cxOf (L2.CX P w) P w K mg base N name (defScope st) f cdv A outer s H E) (fun c d _ H => E c d H) (defBody st) body) : FnOk P w K mg base (L2.CX P w) (k + 1) f fd ps (spD K mg (runF N.length ps.length body)) := by
  have hpl : ps.length ≤ N.length := by
    have := congrArg List.length S.pre
    rw [List.length_take] at this
    omega
  refine F.okX S (fun vs H Q E h => ?_) (fun cdv A outer s H vs Q E hr h => ⟨_, hb cdv A outer s H E hr (takes_of rfl rfl rfl rfl) PassesOwn.leaving, ?_⟩)
  · obtain ⟨O, ds, th, r, q⟩ := h
    rw [r.length]
    unfold runF at q
    split at q
    · assumption
    · exact q.elim
  · obtain ⟨O, ds, th, r, q⟩ := h
    unfold runF at q
    split at q
    · rename_i hl
      have el : vs.length = ps.length := by rw [r.length]; exact hl
      refine ⟨ds.map (fun d => some (.val d)) ++ List.replicate (N.length - ps.length) none, O, H, ⟨Gr.refl H, fun a h => ?_, ?_, th, ?_⟩, ?_⟩
      · unfold L2.start at h
        rw [el, owned_start] at h
        cases h
      · unfold L2.start
        rw [el, owned_start]
        exact List.nodup_nil
      · unfold L2.start
        rw [el, owned_start, List.append_nil]
        exact slots_start _ r
      · cases eb : body (ds.map (fun d => some (.val d)) ++ List.replicate (N.length - ps.length) none) with
        | ret d => rw [eb] at q; exact fun v H' g r' => q H' v g r'
        | nx ρ => rw [eb] at q; exact fun σ' H' s' => q H' .non s'.same .non
        | brk ρ => rw [eb] at q; exact q.elim
        | ct ρ => rw [eb] at q; exact q.elim
        | ex e ρ => rw [eb] at q; exact fun c dd σ' H' s' x => q H' c dd s'.same (x.mono (hide_less fun a ha => List.mem_append_left _ ha))
        | bad => rw [eb] at q; exact q.elim
    · exact q.elim
theorem fn_mk {name : Str} {st : Stmt} {f : Addr} {fd : FuncData} {N ps : List Str} {k : Nat} {body : En → SRes} (F : Fun K name name st f fd) (S : FnScope N ps (defScope st)) (bn : Binds K fd ps []) (hm : mg name = some (.ref f))
    (hb : ∀ (cdv : Value) (A : Around) (outer : List Env) (s : Shared) (H : Hp) (E : XK), Room k (A.deeper (envOfC name (defScope st) s.heap.objs.size f cdv)) →
      Takes (cxOf (L2.CX P w) P w K mg base N name (defScope st) f cdv A outer s H E) (fun c d _ H => E c d H) → PassesOwn (model P w) (A.deeper (envOfC name (defScope st) s.heap.objs.size f cdv)) (envOfC name (defScope st) s.heap.objs.size f cdv) (cxOf (L2.CX P w) P w K mg base N name (defScope st) f cdv A outer s H E).xe →
      DSs (cxOf (L2.CX P w) P w K mg base N name (defScope st) f cdv A outer s H E) (fun c d _ H => E c d H) (defBody st) body) : Fn P w K mg base (k + 1) name (runF N.length ps.length body) :=
  ⟨f, fd, ps, fnok_mk F S hb, hm, F.kp, bn⟩
/-- nothing is promised -/
theorem fn_zero {name : Str} {f : Addr} {fd : FuncData} {ps : List Str} {k : Nat} (kp : PySem.W.keepIn K (.ref f) = true) (bn : Binds K fd ps []) (hm : mg name = some (.ref f)) : Fn P w K mg base k name fun _ => .bad :=
  ⟨f, fd, ps, ⟨fun vs H Q E h => by obtain ⟨O, ds, th, r, q⟩ := h; exact q.elim, fun A outer s H args us vs Q E hr he hb hv h => by obtain ⟨O, ds, th, r, q⟩ := h; exact q.elim⟩, hm, kp, bn⟩

/-! ### the law's end -/
/-- what the law promises: True, for every script of at most 63 ints -/
def spL (K : PySem.W.Frag) : Sp := fun vs H Q _ => ∃ (a : Addr) (ns : List Int), vs = [.ref a] ∧ SqL K H a (ns.map V.int) ∧ ns.length ≤ 63 ∧ ∀ H', Q (.bl true) H'
/-- the script as data -/
abbrev scr (ns : List Int) : PyData := .dict [(.none, .list (ns.map PyData.int))]
theorem law_end {P : Program} {w : World} {K : PySem.W.Frag} {mg : Str → Option Value} {fa : Addr} {k : Nat} {g : List PyData → Rs PyData}
    (h : ∃ fd : FuncData, (∀ (s : Shared) (v : Value), BindsTo s fd ⟨[v], []⟩ [("script", v)]) ∧ ∀ base : Heap, K.In base → base.Ns mainGlobals mg → FnOk P w K mg base (L2.CX P w) k fa fd ["script"] (spD K mg g))
    (t : ∀ ns : List Int, ns.length ≤ 63 → g [scr ns] = .ok (.bool true)) :
    ∃ fd : FuncData, (∀ (s : Shared) (v : Value), BindsTo s fd ⟨[v], []⟩ [("script", v)]) ∧ ∀ base : Heap, K.In base → base.Ns mainGlobals mg → FnOk P w K mg base (L2.CX P w) k fa fd ["script"] (spL K) := by
  obtain ⟨fd, hb, hF⟩ := h
  refine ⟨fd, hb, fun base kb nb => (hF base kb nb).imp fun vs H Q E ⟨a, ns, e, hs, hl, q⟩ => ?_⟩
  subst e
  refine ⟨[], [scr ns], fun a h => (by cases h), .cons (.scr (by rw [hide_nil]; exact hs) (Nat.le_trans hl (by decide))) .nil, ?_⟩
  rw [t ns hl]
  intro H' v g' r
  cases r
  exact q H'
theorem cx_no {P : Program} {w : World} {outer : List Env} {H : Hp} {s : Shared} {e : Value} {s' : Shared} (h : L2.CX P w outer H s (fun _ _ _ => False) e s') : False := by
  obtain ⟨_, _, _, _, _, _, _, _, _, _, _, _, z⟩ := h
  exact z
end
end DL

namespace DL
open PySem PySem.Spec PyProof.Rows L2

section
variable {X : Cx} {W : WX} {a b c e : Expr} {fa fb fc f : En → Rs PyData} {pos p : Pos} {st : Stmt} {rest : List Stmt} {x : Str} {es : List Expr} {k : Nat} {g : List PyData → Rs PyData}
/-! ### x in c, for a list, a tuple, a text -/
def inOk (xs : List PyData) (d : PyData) : Bool := PyData.plainAll xs && d.plain && decide (min (PyData.depthAll xs) d.depth ≤ 60)
/-- one sign in a text -/
def signIn (z t : Str) : Bool := !(Builtin.Str.occurrences t z 0 t.length 1).isEmpty
def oIn : PyData → PyData → Rs PyData
  | d, .list xs => if inOk xs d then .ok (.bool (xs.any fun y => PyData.eqv y d)) else .bad
  | d, .tuple xs => if inOk xs d then .ok (.bool (xs.any fun y => PyData.eqv y d)) else .bad
  | .str z, .str t => .ok (.bool (signIn z t))
  | _, _ => .bad
def oNotIn : PyData → PyData → Rs PyData
  | d, .list xs => if inOk xs d then .ok (.bool (!xs.any fun y => PyData.eqv y d)) else .bad
  | d, .tuple xs => if inOk xs d then .ok (.bool (!xs.any fun y => PyData.eqv y d)) else .bad
  | .str z, .str t => .ok (.bool (!signIn z t))
  | _, _ => .bad
theorem inOk_of {xs : List PyData} {d : PyData} (h : inOk xs d = true) : PyData.plainAll xs = true ∧ d.plain = true ∧ min (PyData.depthAll xs) d.depth ≤ 60 := by
  unfold inOk at h
  simp only [Bool.and_eq_true, decide_eq_true_eq] at h
  exact ⟨h.1.1, h.1.2, h.2⟩
def rInP (K : PySem.W.Frag) (neg : Bool) : R2 := fun x y H Q => (∃ d xs, Dp K H x d ∧ (Dp K H y (.list xs) ∨ Dp K H y (.tuple xs)) ∧ inOk xs d = true ∧ Q (.bl (if neg then !(xs.any fun y => PyData.eqv y d) else xs.any fun y => PyData.eqv y d)) H) ∨
  (∃ i j, x = .str i ∧ y = .str j ∧ Q (.bl (if neg then !signIn i j else signIn i j)) H)
theorem op_inP (hu : X.A.units + 64 < cLine) : OpR X (compareOp .In) (rInP X.K false) := by
  intro pins s σ H x y v u Q I rx ry h
  rcases h with ⟨d, xs, hd, hx, ho, q⟩ | h
  · obtain ⟨h1, h2, h3⟩ := inOk_of ho
    obtain ⟨as, r1⟩ := Dp.reads I d x v hd rx
    rcases hx with hx | hx
    · obtain ⟨bs, r2⟩ := Dp.reads I _ y u hx ry
      exact SeqAt.in_list_data r2 r1 h1 h2 (by omega) ⟨.bl _, H, I, rfl, q⟩
    · obtain ⟨bs, r2⟩ := Dp.reads I _ y u hx ry
      exact SeqAt.in_tuple_data r2 r1 h1 h2 (by omega) ⟨.bl _, H, I, rfl, q⟩
  · exact op_in_str pins s σ H x y v u Q I rx ry h
theorem op_notInP (hu : X.A.units + 64 < cLine) : OpR X (compareOp .NotIn) (rInP X.K true) := by
  intro pins s σ H x y v u Q I rx ry h
  rcases h with ⟨d, xs, hd, hx, ho, q⟩ | h
  · obtain ⟨h1, h2, h3⟩ := inOk_of ho
    obtain ⟨as, r1⟩ := Dp.reads I d x v hd rx
    rcases hx with hx | hx
    · obtain ⟨bs, r2⟩ := Dp.reads I _ y u hx ry
      exact SeqAt.notIn_list_data r2 r1 h1 h2 (by omega) ⟨.bl _, H, I, rfl, q⟩
    · obtain ⟨bs, r2⟩ := Dp.reads I _ y u hx ry
      exact SeqAt.notIn_tuple_data r2 r1 h1 h2 (by omega) ⟨.bl _, H, I, rfl, q⟩
  · exact op_notin_str pins s σ H x y v u Q I rx ry h
theorem ok_in : Ok2 X (rInP X.K false) oIn := by
  intro W O σ H Q x y d e th rx ry q
  unfold oIn at q
  split at q
  · rename_i xs
    split at q
    · rename_i h
      obtain ⟨h1, h2, h3⟩ := inOk_of h
      exact .inl ⟨d, xs, rx.dp h2, .inl (ry.dp (by simpa [PyData.plain] using h1)), h, q.here (.bl _)⟩
    · exact q.elim
  · rename_i xs
    split at q
    · rename_i h
      obtain ⟨h1, h2, h3⟩ := inOk_of h
      exact .inl ⟨d, xs, rx.dp h2, .inr (ry.dp (by simpa [PyData.plain] using h1)), h, q.here (.bl _)⟩
    · exact q.elim
  · exact .inr ⟨_, _, rx.str, ry.str, q.here (.bl _)⟩
  · exact q.elim
theorem ok_notin : Ok2 X (rInP X.K true) oNotIn := by
  intro W O σ H Q x y d e th rx ry q
  unfold oNotIn at q
  split at q
  · rename_i xs
    split at q
    · rename_i h
      obtain ⟨h1, h2, h3⟩ := inOk_of h
      exact .inl ⟨d, xs, rx.dp h2, .inl (ry.dp (by simpa [PyData.plain] using h1)), h, q.here (.bl _)⟩
    · exact q.elim
  · rename_i xs
    split at q
    · rename_i h
      obtain ⟨h1, h2, h3⟩ := inOk_of h
      exact .inl ⟨d, xs, rx.dp h2, .inr (ry.dp (by simpa [PyData.plain] using h1)), h, q.here (.bl _)⟩
    · exact q.elim
  · exact .inr ⟨_, _, rx.str, ry.str, q.here (.bl _)⟩
  · exact q.elim

/-! ### a list, a tuple, a text, walked -/
def iAnyV (K : PySem.W.Frag) (tl : TE) : TI := fun σ H R => tl σ H fun x H1 => (∃ a, x = .ref a ∧ (∃ xs, SqL K H1 a xs) ∧ R (Itl K a) H1) ∨ (∃ a, x = .ref a ∧ (∃ xs, SqT K H1 a xs) ∧ R (Itt K a) H1) ∨ (∃ z, x = .str z ∧ R (Its z) H1)
theorem pi_any {tg l : Expr} {tl : TE} (hl : PE X l tl) : PI X tg l (iAnyV X.K tl) := by
  refine ⟨fun pins s σ H R I h => ?_⟩
  refine thn (hl.run pins s σ H _ I h) fun v s1 ⟨x, H1, I1, r1, q1⟩ => ?_
  rcases q1 with ⟨a, e, ⟨xs, hq⟩, q⟩ | ⟨a, e, ⟨xs, hq⟩, q⟩ | ⟨z, ex, q⟩
  · subst e
    cases r1
    obtain ⟨its, rv, p, hz⟩ := I1.list hq
    refine wpAny_pyIter_list p.isList ?_
    refine ⟨s1.heap.objs.size, [s1.heap.objs.size], _, _, H1, rfl, I1.kept (t' := s1.toks) fun b o e => Heap.get?_push_of_some _ e, turn_list a _, ⟨_, Heap.get?_push_size _ rfl, rfl, rfl⟩, fun b hb => ?_, q⟩
    have e : b = s1.heap.objs.size := by simpa using hb
    subst e
    exact I1.fpOk (Nat.le_refl _) (I1.hok.fresh (Nat.le_refl _))
  · subst e
    cases r1
    obtain ⟨its, rv, p, hz⟩ := I1.tuple hq
    refine wpAny_pyIter_tuple (show s1.heap.IsTuple a its.toArray from p) ?_
    refine ⟨s1.heap.objs.size, [s1.heap.objs.size], _, _, H1, rfl, I1.kept (t' := s1.toks) fun b o e => Heap.get?_push_of_some _ e, turn_tuple a _, ⟨_, Heap.get?_push_size _ rfl, rfl, rfl⟩, fun b hb => ?_, q⟩
    have e : b = s1.heap.objs.size := by simpa using hb
    subst e
    exact I1.fpOk (Nat.le_refl _) (I1.hok.fresh (Nat.le_refl _))
  · subst ex
    obtain ⟨t, rfl⟩ := r1
    cases ha : z.cps.all (· < 128)
    · exact wpAny_pyIter_wide ha (pi_one (tk := s1.toks) I1 _ (turn_str _ z t "str_iterator" (.inr rfl)) ⟨_, Heap.get?_push_size _ rfl, rfl, rfl⟩ q)
    · exact wpAny_pyIter_ascii ha (pi_one (tk := s1.toks) I1 _ (turn_str _ z t "str_ascii_iterator" (.inl rfl)) ⟨_, Heap.get?_push_size _ rfl, rfl, rfl⟩ q)
/-- what a walk over data gives -/
def oAny : PyData → Rs (List PyData)
  | .list ds => .ok ds
  | .tuple ds => .ok ds
  | .dict [(.none, .list ds)] => .ok ds
  | .str z => if z.length ≤ mx then .ok (z.cps.toList.map fun c => .str ⟨#[c]⟩) else .bad
  | _ => .bad
theorem wk_str {K : PySem.W.Frag} {G P : Hp} (z : Str) : Wk K G P (Its z) (z.cps.toList.map fun c => .str ⟨#[c]⟩) := fun H2 g2 i => by
  refine ⟨fun d e => ?_, fun h => ?_⟩
  · rw [List.getElem?_map] at e
    cases e2 : z.cps.toList[i]? with
    | none => rw [e2] at e; cases e
    | some c =>
      rw [e2] at e
      cases e
      have e3 : z.cps[i]? = some c := by rw [← Array.getElem?_toList]; exact e2
      refine ⟨(Array.getElem?_eq_some_iff.mp e3).1, fun x H3 ⟨e4, c', e5, e6⟩ => ⟨e4, ?_⟩⟩
      rw [e3] at e5
      cases e5
      subst e6
      exact .str _
  · rw [List.length_map, Array.length_toList] at h
    exact h
theorem di_any {tg : Expr} (h : DE X W e f) : DI X W false tg e (iOf oAny f) :=
  PI.imp (pi_any h) fun σ H R ⟨ρ, O, H0, s, q⟩ => ⟨ρ, O, H0, s, RK.ofI q fun d H1 v g r1 q1 => by
    unfold oAny at q1
    split at q1
    · cases r1 with
      | lst hl hz ra => exact .inl ⟨_, rfl, ⟨_, .inl (Gr.rd hide_sub hl)⟩, q1 _ H1 (Gr.refl _) (by rw [← ra.length]; exact mx62 hz) (wk_list (.inl hl) ra fun _ _ _ _ => trivial)⟩
    · cases r1 with
      | tup hl hz ra => exact .inr (.inl ⟨_, rfl, ⟨_, Gr.seqT hide_sub hl.t⟩, q1 _ H1 (Gr.refl _) (by rw [← ra.length]; exact mx62 hz) (wk_tup hl.t ra)⟩)
    · obtain ⟨a, is, rfl, rfl, hx, lx⟩ := RpB.scr (O := []) (H := hide H1 (O ++ owned σ ρ)) (.inl (by rw [hide_nil]; exact r1))
      exact .inl ⟨_, rfl, ⟨_, hide_sub.seq hx⟩, q1 _ H1 (Gr.refl _) (by rw [List.length_map]; exact mx62 lx) (wk_list hx (rpAll_ints is) fun _ _ _ _ => trivial)⟩
    · cases r1
      split at q1
      · rename_i z hz
        exact .inr (.inr ⟨z, rfl, q1 _ H1 (Gr.refl _) (by rw [List.length_map, Array.length_toList]; exact mx62 hz) (wk_str z)⟩)
      · exact q1.elim
    · exact q1.elim⟩
theorem di_anyB {tg : Expr} (h : BE X W e f) : DI X W true tg e (iOf oAny f) :=
  PI.imp (pi_any h) fun σ H R ⟨ρ, O, H0, s, q⟩ => ⟨ρ, O, H0, s, RKB.ofI q fun d H1 v g r1 q1 => by
    unfold oAny at q1
    split at q1
    · obtain ⟨a, xs, rfl, hl, hz, ra⟩ := r1.list
      exact .inl ⟨_, rfl, ⟨_, .inl hl⟩, q1 _ H1 (Gr.refl _) (by rw [← ra.length]; exact mx62 hz) (wk_list (.inl hl) ra fun _ _ _ _ => trivial)⟩
    · obtain ⟨a, xs, rfl, hl, hz, ra⟩ := r1.tuple
      exact .inr (.inl ⟨_, rfl, ⟨_, hl⟩, q1 _ H1 (Gr.refl _) (by rw [← ra.length]; exact mx62 hz) (wk_tup hl ra)⟩)
    · obtain ⟨a, is, rfl, rfl, hx, lx⟩ := r1.scr
      exact .inl ⟨_, rfl, ⟨_, hx⟩, q1 _ H1 (Gr.refl _) (by rw [List.length_map]; exact mx62 lx) (wk_list hx (rpAll_ints is) fun _ _ _ _ => trivial)⟩
    · cases r1.str
      split at q1
      · rename_i z hz
        exact .inr (.inr ⟨z, rfl, q1 _ H1 (Gr.refl _) (by rw [List.length_map, Array.length_toList]; exact mx62 hz) (wk_str z)⟩)
      · exact q1.elim
    · exact q1.elim⟩
end
/-! ### builtins by name -/
theorem bt_len : bootBuiltins "len" = some (.builtin "len") := by decide +kernel
theorem bt_int : bootBuiltins "int" = some (.type "int") := by decide +kernel
theorem bt_bool : bootBuiltins "bool" = some (.type "bool") := by decide +kernel
theorem bt_str : bootBuiltins "str" = some (.type "str") := by decide +kernel
theorem bt_tuple : bootBuiltins "tuple" = some (.type "tuple") := by decide +kernel
theorem bt_list : bootBuiltins "list" = some (.type "list") := by decide +kernel
theorem bt_min : bootBuiltins "min" = some (.builtin "min") := by decide +kernel
theorem bt_max : bootBuiltins "max" = some (.builtin "max") := by decide +kernel
theorem bt_sum : bootBuiltins "sum" = some (.builtin "sum") := by decide +kernel
theorem bt_sorted : bootBuiltins "sorted" = some (.builtin "sorted") := by decide +kernel
theorem bt_isinstance : bootBuiltins "isinstance" = some (.builtin "isinstance") := by decide +kernel
end DL

/-! DL10: texts. -/
namespace DL
open PySem PySem.Spec PyProof.Rows L2
def strsOf : List PyData → Option (List Str)
  | [] => some []
  | .str x :: ds => (strsOf ds).map (x :: ·)
  | _ => none
theorem strsOf_map (ys : List Str) : strsOf (ys.map .str) = some ys := by
  induction ys with
  | nil => rfl
  | cons y ys ih => rw [List.map_cons, strsOf, ih] <;> rfl
theorem strsOf_eq : ∀ {ds : List PyData} {ys : List Str}, strsOf ds = some ys → ds = ys.map .str
  | [], ys, h => by cases h; rfl
  | d :: ds, ys, h => by
    cases d with
    | str x =>
      rw [strsOf] at h
      cases e : strsOf ds with
      | none => rw [e] at h; cases h
      | some zs =>
        rw [e] at h
        cases h
        rw [strsOf_eq e]
        rfl
    | _ => cases h
def oJoin : PyData → PyData → Rs PyData
  | .str a, .list ds => match strsOf ds with
    | some ys => if (ys.map (·.length)).sum + ys.length * a.length ≤ mx then .ok (.str (Txt.join a ys)) else .bad
    | none => .bad
  | .str a, .tuple ds => match strsOf ds with
    | some ys => if (ys.map (·.length)).sum + ys.length * a.length ≤ mx then .ok (.str (Txt.join a ys)) else .bad
    | none => .bad
  | _, _ => .bad
/-- a method of a text: what is no text is not covered -/
def strM (op : PyData → PyData → Rs PyData) (fo fe : En → Rs PyData) : En → Rs PyData := fun ρ => (fo ρ).bind fun d => match d with
  | .str a => (fe ρ).bind fun e => op (.str a) e
  | _ => .bad
section
variable {X : Cx} {W : WX} {o e : Expr} {fo fe : En → Rs PyData} {apos pos : Pos}
theorem de_join (ho : BE X W o fo) (he : BE X W e fe) (hs : starEach [e] X.env = [(false, eval e X.env)] := by rfl) (hbase : attributeBase o "join" X.env (eval o X.env) = eval o X.env := by rfl) (hline : (apos.endLine == pos.line) = true := by rfl) :
    DE X W (.Call (.Attribute o "join" apos) [e] [] pos) (strM oJoin fo fe) :=
  PE.imp (pe_join ho he hs hbase hline) fun σ H Q ⟨ρ, O, H0, s, q⟩ => ⟨ρ, O, H0, s, RKB.of q fun d H1 v g1 r1 q1 => by
    cases d with
    | str a =>
      cases r1.str
      refine ⟨⟨a, rfl⟩, ρ, O, H0, s.grow g1, RKB.of q1 fun e H2 u g2 r2 q2 => ?_⟩
      unfold oJoin at q2
      split at q2
      · rename_i a' ds heq
        cases heq
        obtain ⟨p, xs, rfl, hx, lx, rX⟩ := r2.list
        split at q2
        · rename_i ys hy
          rw [strsOf_eq hy] at rX
          split at q2
          · rename_i hz
            have ex := rX.strs
            subst ex
            exact ⟨a, p, ys, rfl, rfl, .inl (.inl hx), hz, q2.here (.str _)⟩
          · exact q2.elim
        · exact q2.elim
      · rename_i a' ds heq
        cases heq
        obtain ⟨p, xs, rfl, hx, lx, rX⟩ := r2.tuple
        split at q2
        · rename_i ys hy
          rw [strsOf_eq hy] at rX
          split at q2
          · rename_i hz
            have ex := rX.strs
            subst ex
            exact ⟨a, p, ys, rfl, rfl, .inr hx, hz, q2.here (.str _)⟩
          · exact q2.elim
        · exact q2.elim
      · exact q2.elim
    | _ => exact q1.elim⟩
end
end DL

/-! DL11: sorted(xs), xs a list of pairs of ints. -/
namespace DL
open PySem PySem.Spec PyProof.Rows L2
def leP (a b : Int × Int) : Bool := !SrtO.lexB b a
theorem leP_iff {a b : Int × Int} : leP a b = true ↔ (a.1 < b.1 ∨ (a.1 = b.1 ∧ a.2 ≤ b.2)) := by
  unfold leP
  rw [Bool.not_eq_true', SrtO.lexB_no]
  omega
def PrAll (K : PySem.W.Frag) (H : Hp) : List V → List (Int × Int) → Prop
  | [], [] => True
  | x :: xs, p :: ps => (∃ t, x = .ref t ∧ SqN K H t [.int p.1, .int p.2]) ∧ PrAll K H xs ps
  | _, _ => False
def rSortD (K : PySem.W.Frag) : List V → Hp → VK → Prop := fun vs H Q => ∃ (a : Addr) (xs : List V) (ps : List (Int × Int)) (G : Hp), Gr G H ∧ vs = [V.ref a] ∧ SqL K H a xs ∧ PrAll K G xs ps ∧ ∀ ys p, PrAll K G ys (ps.mergeSort leP) → H p = none → Q (.ref p) (upd H p (.lst ys))
section
variable {X : Cx}
open Classical in
noncomputable def kvOf (K : PySem.W.Frag) (H : Hp) (v : Value) : Int × Int := if h : ∃ p : Int × Int, ∃ t, v = .ref t ∧ SqT K H t [.int p.1, .int p.2] then Classical.choose h else (0, 0)
theorem kvOf_eq {pins : List (Addr × Obj)} {σ : L2.St} {H : Hp} {s : Shared} (I : Inv X pins σ H s) {t : Addr} {p : Int × Int} (h : SqT X.K H t [.int p.1, .int p.2]) : kvOf X.K H (.ref t) = p := by
  have hx : ∃ p : Int × Int, ∃ t', Value.ref t = .ref t' ∧ SqT X.K H t' [.int p.1, .int p.2] := ⟨p, t, rfl, h⟩
  unfold kvOf
  rw [dif_pos hx]
  obtain ⟨t', e, h'⟩ := Classical.choose_spec hx
  cases e
  have q := I.tuple_inj h' h
  simp only [List.cons.injEq, V.int.injEq, and_true] at q
  exact Prod.ext q.1 q.2
theorem prAll_vals {pins : List (Addr × Obj)} {σ : L2.St} {H G : Hp} {s : Shared} (I : Inv X pins σ H s) (g : Gr G H) : ∀ {xs : List V} {ps : List (Int × Int)} {its : List Value}, PrAll X.K G xs ps → Vals xs its → its.map (kvOf X.K H) = ps ∧ ∀ v ∈ its, ∃ t, v = .ref t ∧ SqN X.K G t [.int (kvOf X.K H v).1, .int (kvOf X.K H v).2]
  | [], [], _, _, .nil => ⟨rfl, fun v h => by cases h⟩
  | x :: xs, p :: ps, _, ⟨⟨t, e, h⟩, r⟩, .cons rv rr => by
    subst e
    cases rv
    obtain ⟨e1, e2⟩ := prAll_vals I g r rr
    have ek := kvOf_eq I (Gr.seqT g h.t)
    refine ⟨by rw [List.map_cons, ek, e1], fun v hv => ?_⟩
    rcases List.mem_cons.mp hv with q | q
    · subst q
      exact ⟨t, rfl, by rw [ek]; exact h⟩
    · exact e2 v q
  | [], _ :: _, _, h, _ => h.elim
  | _ :: _, [], _, h, _ => h.elim
theorem prAll_back {K : PySem.W.Frag} {H : Hp} {k : Value → Int × Int} : ∀ {out : List Value}, (∀ v ∈ out, ∃ t, v = .ref t ∧ SqN K H t [.int (k v).1, .int (k v).2]) → PrAll K H (out.map backV) (out.map k)
  | [], _ => trivial
  | v :: out, h => by
    obtain ⟨t, rfl, q⟩ := h v List.mem_cons_self
    exact ⟨⟨t, rfl, q⟩, prAll_back fun u hu => h u (List.mem_cons_of_mem _ hu)⟩
theorem cr_sortD : CallR X (.builtin "sorted") (rSortD X.K) := by
  intro pins s σ H vs us Q I r h
  obtain ⟨a, xs, ps, G, g, rfl, hs, hx, q⟩ := h
  obtain ⟨its, rv, hl, hz⟩ := I.list hs
  obtain ⟨u, rfl, ru⟩ := vals1 r
  obtain rfl : u = Value.ref a := ru
  obtain ⟨e1, e2⟩ := prAll_vals I g hx rv
  refine SrtO.sorted_pairsO (k := kvOf X.K H) hl.isList (by rw [← rv.length]; exact hz) (fun v hv => ?_) fun h' d out h1 h2 kp hd hn => ?_
  · obtain ⟨t, rfl, ht⟩ := e2 v hv
    obtain ⟨its2, r2, ⟨o, ho, hc, n, hd⟩, _⟩ := I.tuple (Gr.seqT g ht.t)
    obtain ⟨u1, u2, rfl, ri, rj⟩ := vals2 r2
    obtain ⟨t1, rfl⟩ := ri
    obtain ⟨t2, rfl⟩ := rj
    exact ⟨t, o, t1, t2, n, rfl, ho, hc, hd⟩
  · have h3 : ∀ u ∈ out, ∃ t, u = Value.ref t ∧ SqN X.K G t [.int (kvOf X.K H u).1, .int (kvOf X.K H u).2] := fun u hu => e2 u (h2.perm.mem_iff.mp hu)
    obtain ⟨n, hn⟩ := hn
    have eo : out.map (kvOf X.K H) = ps.mergeSort leP := by
      refine List.Perm.eq_of_pairwise (le := fun a b => leP a b = true) (fun a b _ _ h1 h2 => ?_) ?_ (List.pairwise_mergeSort (fun a b c h1 h2 => ?_) (fun a b => ?_) _) ?_
      · rw [leP_iff] at h1 h2
        exact Prod.ext (by omega) (by omega)
      · rw [List.pairwise_map]
        refine List.Pairwise.imp (fun {x y} hxy => ?_) h1
        have hxy' : SrtO.lexB (kvOf X.K H y) (kvOf X.K H x) = false := hxy
        unfold leP
        rw [hxy']
        rfl
      · rw [leP_iff] at h1 h2 ⊢
        omega
      · rw [Bool.or_eq_true, leP_iff, leP_iff]
        omega
      · rw [← e1]
        exact (h2.perm.map _).trans (List.mergeSort_perm _ _).symm
    have ey : PrAll X.K G (out.map backV) (ps.mergeSort leP) := by
      rw [← eo]
      exact prAll_back h3
    refine ⟨.ref d, upd H d (.lst (out.map backV)), I.laid (t' := s.toks) kp hd ⟨?_, out, n, vals_back fun u hu => (h3 u hu).imp fun t h => h.1, hn⟩, rfl, q _ d ey (I.hok.fresh hd)⟩
    rw [List.length_map, h2.perm.length_eq, ← rv.length]
    exact hz
end
/-! ### sorted(xs) of data -/
def prD (p : Int × Int) : PyData := .tuple [.int p.1, .int p.2]
def pairsOf : List PyData → Option (List (Int × Int))
  | [] => some []
  | .tuple [.int i, .int j] :: ds => (pairsOf ds).map ((i, j) :: ·)
  | _ => none
theorem pairsOf_map (ps : List (Int × Int)) : pairsOf (ps.map prD) = some ps := by
  induction ps with
  | nil => rfl
  | cons p ps ih =>
    rw [List.map_cons]
    show (pairsOf (ps.map prD)).map ((p.1, p.2) :: ·) = _
    rw [ih] <;> rfl
theorem pairsOf_cons {d : PyData} {ds : List PyData} {ps : List (Int × Int)} (h : pairsOf (d :: ds) = some ps) : ∃ i j qs, d = .tuple [.int i, .int j] ∧ pairsOf ds = some qs ∧ ps = (i, j) :: qs := by
  unfold pairsOf at h
  split at h
  · rename_i heq; cases heq
  · rename_i i j ds' heq
    cases heq
    cases e : pairsOf ds with
    | none => rw [e] at h; cases h
    | some qs =>
      rw [e] at h
      cases h
      exact ⟨i, j, qs, rfl, rfl, rfl⟩
  · cases h
theorem pairsOf_eq : ∀ {ds : List PyData} {ps : List (Int × Int)}, pairsOf ds = some ps → ds = ps.map prD := by
  intro ds
  induction ds with
  | nil => intro ps h; cases h; rfl
  | cons d ds ih =>
    intro ps h
    obtain ⟨i, j, qs, rfl, e, rfl⟩ := pairsOf_cons h
    rw [ih e]
    rfl
def oSortP : PyData → Rs PyData
  | .list ds => match pairsOf ds with
    | some ps => .ok (.list ((ps.mergeSort leP).map prD))
    | none => .bad
  | _ => .bad
theorem prAll_of {K : PySem.W.Frag} {H : Hp} : ∀ {xs : List V} {ps : List (Int × Int)}, RpAll K H xs (ps.map prD) → PrAll K H xs ps
  | _, [], .nil => trivial
  | _, p :: ps, .cons r t => by
    refine ⟨?_, prAll_of t⟩
    unfold prD at r
    generalize hd : PyData.tuple [.int p.1, .int p.2] = d at r
    cases r with
    | tup s l r =>
      cases hd
      cases r with
      | cons r1 t1 =>
        cases t1 with
        | cons r2 t2 =>
          cases t2
          cases r1
          cases r2
          exact ⟨_, rfl, s⟩
    | _ => cases hd
theorem of_prAll {K : PySem.W.Frag} {H : Hp} : ∀ {xs : List V} {ps : List (Int × Int)}, PrAll K H xs ps → RpAll K H xs (ps.map prD)
  | [], [], _ => .nil
  | _ :: _, p :: ps, ⟨⟨t, e, h⟩, r⟩ => by
    subst e
    exact .cons (.tup h (by show 2 ≤ 16777216; decide) (.cons (.int _) (.cons (.int _) .nil))) (of_prAll r)
  | [], _ :: _, h => h.elim
  | _ :: _, [], h => h.elim
theorem prAll_len {K : PySem.W.Frag} {H : Hp} : ∀ {xs : List V} {ps : List (Int × Int)}, PrAll K H xs ps → xs.length = ps.length
  | [], [], _ => rfl
  | _ :: _, _ :: _, h => by rw [List.length_cons, List.length_cons, prAll_len h.2]
  | [], _ :: _, h => h.elim
  | _ :: _, [], h => h.elim
section
variable {X : Cx} {W : WX} {a : Expr} {fa : En → Rs PyData} {pos p : Pos}
theorem ok_sortP : Ok1 X (rSortD X.K) oSortP := by
  intro W O σ H Q x d th rx q
  unfold oSortP at q
  split at q
  · rename_i ds
    obtain ⟨p, xs, rfl, hx, lx, rX⟩ := rx.list
    split at q
    · rename_i ps hp
      rw [pairsOf_eq hp] at rX
      have pr := prAll_of rX
      refine ⟨p, xs, ps, hide H O, hide_sub, rfl, .inl hx, pr, fun ys p' hy hn => q.newL th hn ?_ (of_prAll hy)⟩
      rw [prAll_len hy, List.length_mergeSort, ← prAll_len pr]
      exact lx
    · exact q.elim
  · exact q.elim
/-- sorted(xs), pairs -/
theorem de_sortP (ha : BE X W a fa) (hm : X.mg "sorted" = none) (hg : Gl X "sorted" := by rfl)
    (he : starEach (a :: []) X.env = (false, eval a X.env) :: starEach [] X.env := by rfl) (hpl : (backTo pos (starEach [] X.env)).any (·.1) = false := by rfl) : DE X W (.Call (.Name "sorted" p) [a] [] pos) (b1 oSortP fa) :=
  de_call1 cr_sortD ok_sortP ha hm (by decide +kernel) hg (by decide) (by decide) he hpl
end
end DL

/-! DM1: reckoning with denotations. -/
namespace DL
open PySem PySem.Spec PyProof.Rows L2

/-! ### the combinators unfold -/
section
variable {ρ : En}
@[simp] theorem x_seq (g1 g2 : En → SRes) : sSeq g1 g2 ρ = sThen (g1 ρ) g2 := Eq.trans rfl rfl
@[simp] theorem x_ret (f : En → Rs PyData) : sRet f ρ = eS ρ (f ρ) .ret := Eq.trans rfl rfl
@[simp] theorem x_retN : sRetN ρ = .ret .none := Eq.trans rfl rfl
@[simp] theorem x_nil : sNil ρ = .nx ρ := Eq.trans rfl rfl
@[simp] theorem x_brk : sBrk ρ = .brk ρ := Eq.trans rfl rfl
@[simp] theorem x_ct : sCt ρ = .ct ρ := Eq.trans rfl rfl
@[simp] theorem x_drop (f : En → Rs PyData) : sDrop f ρ = eS ρ (f ρ) fun _ => .nx ρ := Eq.trans rfl rfl
@[simp] theorem x_set (i : Nat) (f : En → Rs PyData) : sSet i f ρ = eS ρ (f ρ) fun d => .nx (ρ.set i (some (.val d))) := Eq.trans rfl rfl
@[simp] theorem x_setO (i : Nat) (f : En → Rs PyData) : sSetO i f ρ = eS ρ (f ρ) fun d => .nx (ρ.set i (some (.own d))) := Eq.trans rfl rfl
@[simp] theorem x_if (t : En → Rs Bool) (g1 g2 : En → SRes) : sIf t g1 g2 ρ = eS ρ (t ρ) fun c => if c then g1 ρ else g2 ρ := Eq.trans rfl rfl
@[simp] theorem x_for (fi : En → Rs (List PyData)) (τ : TgD) (b : En → SRes) : sFor fi τ b ρ = eS ρ (fi ρ) fun ds => forS τ b ds ρ := Eq.trans rfl rfl
@[simp] theorem x_asg (f : En → Rs PyData) (τ : TgD) : sAsg f τ ρ = eS ρ (f ρ) fun d => match τ d ρ with | .ok ρ' => .nx ρ' | _ => .bad := Eq.trans rfl rfl
@[simp] theorem x_frz (i : Nat) (g : En → SRes) : sFrz i g ρ = g (frz i ρ) := Eq.trans rfl rfl
@[simp] theorem x_b1 (op : PyData → Rs PyData) (f : En → Rs PyData) : b1 op f ρ = (f ρ).bind op := Eq.trans rfl rfl
@[simp] theorem x_b2 (op : PyData → PyData → Rs PyData) (f g : En → Rs PyData) : b2 op f g ρ = (f ρ).bind fun d => (g ρ).bind fun e => op d e := Eq.trans rfl rfl
@[simp] theorem x_c (d : PyData) : dC d ρ = .ok d := Eq.trans rfl rfl
@[simp] theorem x_tst (f : En → Rs PyData) : tst f ρ = (f ρ).bind oTru := Eq.trans rfl rfl
@[simp] theorem x_andD (f g : En → Rs Bool) : tAndD f g ρ = (f ρ).bind fun c => if c then g ρ else .ok false := Eq.trans rfl rfl
@[simp] theorem x_orD (f g : En → Rs Bool) : tOrD f g ρ = (f ρ).bind fun c => if c then .ok true else g ρ := Eq.trans rfl rfl
@[simp] theorem x_notD (f : En → Rs Bool) : tNotD f ρ = (f ρ).bind fun c => .ok (!c) := Eq.trans rfl rfl
def andV (d : PyData) (r : Rs PyData) : Rs PyData := match d with
  | .bool b => if b then r else .ok (.bool false)
  | _ => .bad
def orV (d : PyData) (r : Rs PyData) : Rs PyData := match d with
  | .bool b => if b then .ok (.bool true) else r
  | _ => .bad
@[simp] theorem x_vAnd (f g : En → Rs PyData) : vAnd f g ρ = (f ρ).bind fun d => andV d (g ρ) := by
  unfold vAnd
  refine congrArg _ (funext fun d => ?_)
  cases d <;> try rfl
  rename_i b
  cases b <;> rfl
@[simp] theorem x_vOr (f g : En → Rs PyData) : vOr f g ρ = (f ρ).bind fun d => orV d (g ρ) := by
  unfold vOr
  refine congrArg _ (funext fun d => ?_)
  cases d <;> try rfl
  rename_i b
  cases b <;> rfl
@[simp] theorem andV_b (b : Bool) (r : Rs PyData) : andV (.bool b) r = if b then r else .ok (.bool false) := Eq.trans rfl rfl
@[simp] theorem orV_b (b : Bool) (r : Rs PyData) : orV (.bool b) r = if b then .ok (.bool true) else r := Eq.trans rfl rfl
@[simp] theorem x_vIf (t : En → Rs Bool) (f g : En → Rs PyData) : vIf t f g ρ = (t ρ).bind fun c => if c then f ρ else g ρ := Eq.trans rfl rfl
@[simp] theorem x_aNil : aNil ρ = .ok [] := Eq.trans rfl rfl
@[simp] theorem x_aCons (f : En → Rs PyData) (g : En → Rs (List PyData)) : aCons f g ρ = (f ρ).bind fun d => (g ρ).bind fun ds => .ok (d :: ds) := Eq.trans rfl rfl
@[simp] theorem x_mkT (f : En → Rs (List PyData)) : mkT f ρ = (f ρ).bind fun ds => if ds.length ≤ mx then .ok (.tuple ds) else .bad := Eq.trans rfl rfl
@[simp] theorem x_mkL (f : En → Rs (List PyData)) : mkL f ρ = (f ρ).bind fun ds => if ds.length ≤ mx then .ok (.list ds) else .bad := Eq.trans rfl rfl
@[simp] theorem x_call (g : List PyData → Rs PyData) (f : En → Rs (List PyData)) : dCall g f ρ = (f ρ).bind g := Eq.trans rfl rfl
@[simp] theorem x_callB (g : List PyData → Rs PyData) (f : En → Rs (List PyData)) : dCallB g f ρ = (f ρ).bind fun ds => outF (g ds) := Eq.trans rfl rfl
@[simp] theorem x_iOf (op : PyData → Rs (List PyData)) (f : En → Rs PyData) : iOf op f ρ = (f ρ).bind op := Eq.trans rfl rfl
def rV1 : PyData → Rs (List PyData)
  | .int n => rngD 0 n
  | _ => .bad
def rV2 : PyData → PyData → Rs (List PyData)
  | .int m, .int n => rngD m n
  | _, _ => .bad
def rV3 : PyData → PyData → PyData → Rs (List PyData)
  | .int m, .int n, .int c => rng3 m n c
  | _, _, _ => .bad
@[simp] theorem rV1_i (n : Int) : rV1 (.int n) = rngD 0 n := Eq.trans rfl rfl
@[simp] theorem rV2_i (m n : Int) : rV2 (.int m) (.int n) = rngD m n := Eq.trans rfl rfl
@[simp] theorem rV3_i (m n c : Int) : rV3 (.int m) (.int n) (.int c) = rng3 m n c := Eq.trans rfl rfl
@[simp] theorem x_range1 (f : En → Rs PyData) : iRange1 f ρ = (f ρ).bind rV1 := by
  unfold iRange1
  refine congrArg _ (funext fun d => ?_)
  cases d <;> rfl
@[simp] theorem x_range2 (f g : En → Rs PyData) : iRange2 f g ρ = (f ρ).bind fun d => (g ρ).bind fun e => rV2 d e := by
  unfold iRange2
  refine congrArg _ (funext fun d => ?_)
  refine congrArg _ (funext fun e => ?_)
  cases d <;> cases e <;> rfl
@[simp] theorem x_range3 (f g h : En → Rs PyData) : iRange3 f g h ρ = (f ρ).bind fun d => (g ρ).bind fun e => (h ρ).bind fun k => rV3 d e k := by
  unfold iRange3
  refine congrArg _ (funext fun d => ?_)
  refine congrArg _ (funext fun e => ?_)
  refine congrArg _ (funext fun k => ?_)
  cases d <;> cases e <;> cases k <;> rfl
@[simp] theorem x_pNo : pNo ρ = .ok none := Eq.trans rfl rfl
def soV : PyData → Rs (Option Int)
  | .int i => .ok (some i)
  | _ => .bad
@[simp] theorem soV_i (i : Int) : soV (.int i) = .ok (some i) := Eq.trans rfl rfl
@[simp] theorem x_pSo (f : En → Rs PyData) : pSo f ρ = (f ρ).bind soV := by
  unfold pSo
  refine congrArg _ (funext fun d => ?_)
  cases d <;> rfl
@[simp] theorem x_cut (f : En → Rs PyData) (l h : En → Rs (Option Int)) : dCut f l h ρ = (f ρ).bind fun d => (l ρ).bind fun lo => (h ρ).bind fun hi => oCut lo hi d := Eq.trans rfl rfl
@[simp] theorem x_cutL (f : En → Rs PyData) (l h : En → Rs (Option Int)) : dCutL f l h ρ = (f ρ).bind fun d => (l ρ).bind fun lo => (h ρ).bind fun hi => oCutL lo hi d := Eq.trans rfl rfl
@[simp] theorem x_lc (vs : List Nat) (fi : En → Rs (List PyData)) (τ : TgD) (tt : En → Rs Bool) (te : En → Rs PyData) : lcD vs fi τ tt te ρ = (fi ρ).bind fun ds =>
  if ds.length ≤ mx && noOwn ρ vs then (lcL τ tt te ds (wipeE ρ vs)).bind fun r => .ok (.list r) else .bad := rfl
@[simp] theorem x_tY : tY ρ = .ok true := Eq.trans rfl rfl
@[simp] theorem x_tName (i : Nat) (d : PyData) : τName i d ρ = .ok (ρ.set i (some (.val d))) := Eq.trans rfl rfl
end
/-! ### slots of a written state -/
@[simp] theorem x_var0 (d : PyData) (ρ : En) : dVar 0 (some (.val d) :: ρ) = .ok d := Eq.trans rfl rfl
@[simp] theorem x_varS (i : Nat) (x : Option SV) (ρ : En) : dVar (i + 1) (x :: ρ) = dVar i ρ := Eq.trans rfl rfl
@[simp] theorem x_bvar0 (d : PyData) (ρ : En) : bVar 0 (some (.val d) :: ρ) = .ok d := Eq.trans rfl rfl
@[simp] theorem x_bvar0o (d : PyData) (ρ : En) : bVar 0 (some (.own d) :: ρ) = .ok d := Eq.trans rfl rfl
@[simp] theorem x_bvarS (i : Nat) (x : Option SV) (ρ : En) : bVar (i + 1) (x :: ρ) = bVar i ρ := Eq.trans rfl rfl
theorem frz_val {i : Nat} {ρ : En} {d : PyData} (h : ρ[i]? = some (some (.val d))) : frz i ρ = ρ := by unfold frz; rw [h]
theorem frz_own {i : Nat} {ρ : En} {d : PyData} (h : ρ[i]? = some (some (.own d))) : frz i ρ = ρ.set i (some (.val d)) := by unfold frz; rw [h]
@[simp] theorem frz_zero_own (d : PyData) (ρ : En) : frz 0 (some (.own d) :: ρ) = some (.val d) :: ρ := Eq.trans rfl rfl
@[simp] theorem frz_zero_val (d : PyData) (ρ : En) : frz 0 (some (.val d) :: ρ) = some (.val d) :: ρ := Eq.trans rfl rfl
@[simp] theorem frz_zero_none (ρ : En) : frz 0 (none :: ρ) = none :: ρ := Eq.trans rfl rfl
@[simp] theorem frz_succ (i : Nat) (x : Option SV) (ρ : En) : frz (i + 1) (x :: ρ) = x :: frz i ρ := by
  unfold frz
  rw [List.getElem?_cons_succ]
  cases e : ρ[i]? with
  | none => rfl
  | some y =>
    cases y with
    | none => rfl
    | some sv => cases sv <;> rfl
@[simp] theorem x_app (i : Nat) (f : En → Rs PyData) (ρ : En) (ds : List PyData) (h : ρ[i]? = some (some (.own (.list ds)))) : sApp i f ρ = eS ρ (f ρ) fun d => if ds.length < mx then .nx (ρ.set i (some (.own (.list (ds ++ [d]))))) else .bad := by
  unfold sApp
  rw [h]
/-! ### operations -/
@[simp] theorem tru_bool (b : Bool) : oTru (.bool b) = .ok b := Eq.trans rfl rfl
@[simp] theorem add_ii (i j : Int) : oAdd (.int i) (.int j) = .ok (.int (i + j)) := Eq.trans rfl rfl
@[simp] theorem add_ss (i j : Str) : oAdd (.str i) (.str j) = if i.length + j.length ≤ mx then .ok (.str (i ++ j)) else .bad := Eq.trans rfl rfl
@[simp] theorem add_tt (i j : List PyData) : oAdd (.tuple i) (.tuple j) = if i.length + j.length ≤ mx then .ok (.tuple (i ++ j)) else .bad := Eq.trans rfl rfl
@[simp] theorem add_ll (i j : List PyData) : oAdd (.list i) (.list j) = if i.length + j.length ≤ mx then .ok (.list (i ++ j)) else .bad := Eq.trans rfl rfl
@[simp] theorem addL_ll (i j : List PyData) : oAddL (.list i) (.list j) = if i.length + j.length ≤ mx then .ok (.list (i ++ j)) else .bad := Eq.trans rfl rfl
@[simp] theorem sub_ii (i j : Int) : oSub (.int i) (.int j) = .ok (.int (i - j)) := Eq.trans rfl rfl
@[simp] theorem mul_ii (i j : Int) : oMul (.int i) (.int j) = if mulOk i j then .ok (.int (i * j)) else .bad := Eq.trans rfl rfl
@[simp] theorem mod_ii (i j : Int) : oMod (.int i) (.int j) = if 0 < j then .ok (.int (i % j)) else .bad := Eq.trans rfl rfl
@[simp] theorem div_ii (i j : Int) : oDiv (.int i) (.int j) = if 0 < j ∧ j < 1073741824 then .ok (.int (i / j)) else .bad := Eq.trans rfl rfl
@[simp] theorem pow_18 : oPow (.int 10) (.int 18) = .ok (.int 1000000000000000000) := by
  simp only [oPow]
  have e : (decide ((0 : Int) ≤ 18) && decide ((18 : Int) ≤ 1000000) && decide ((10 : Int).natAbs < 18446744073709551616)) = true := by decide +kernel
  rw [if_pos e]
  have e2 : (10 : Int) ^ (18 : Int).toNat = 1000000000000000000 := by decide +kernel
  rw [e2]
@[simp] theorem lt_ii (i j : Int) : oLt (.int i) (.int j) = .ok (.bool (decide (i < j))) := Eq.trans rfl rfl
@[simp] theorem le_ii (i j : Int) : oLe (.int i) (.int j) = .ok (.bool (decide (i ≤ j))) := Eq.trans rfl rfl
@[simp] theorem gt_ii (i j : Int) : oGt (.int i) (.int j) = .ok (.bool (decide (j < i))) := Eq.trans rfl rfl
@[simp] theorem ge_ii (i j : Int) : oGe (.int i) (.int j) = .ok (.bool (decide (j ≤ i))) := Eq.trans rfl rfl
@[simp] theorem eq_ii (i j : Int) : oEq (.int i) (.int j) = .ok (.bool (decide (i = j))) := by
  have e : cmpOk (.int i) (.int j) = true := Eq.trans rfl rfl
  unfold oEq
  rw [if_pos e]
  have : PyData.eqv (.int i) (.int j) = (i == j) := by simp [PyData.eqv]
  rw [this, Bool.beq_eq_decide_eq]
@[simp] theorem ne_ii (i j : Int) : oNe (.int i) (.int j) = .ok (.bool (!decide (i = j))) := by
  have e : cmpOk (.int i) (.int j) = true := Eq.trans rfl rfl
  unfold oNe
  rw [if_pos e]
  have : PyData.eqv (.int i) (.int j) = (i == j) := by simp [PyData.eqv]
  rw [this, Bool.beq_eq_decide_eq]
@[simp] theorem eq_ss (i j : Str) : oEq (.str i) (.str j) = .ok (.bool (decide (i = j))) := by
  have e : cmpOk (.str i) (.str j) = true := Eq.trans rfl rfl
  unfold oEq
  rw [if_pos e]
  have : PyData.eqv (.str i) (.str j) = (i == j) := by simp [PyData.eqv]
  rw [this, Bool.beq_eq_decide_eq]
@[simp] theorem ne_ss (i j : Str) : oNe (.str i) (.str j) = .ok (.bool (!decide (i = j))) := by
  have e : cmpOk (.str i) (.str j) = true := Eq.trans rfl rfl
  unfold oNe
  rw [if_pos e]
  have : PyData.eqv (.str i) (.str j) = (i == j) := by simp [PyData.eqv]
  rw [this, Bool.beq_eq_decide_eq]
@[simp] theorem eq_bb (i j : Bool) : oEq (.bool i) (.bool j) = .ok (.bool (decide (i = j))) := by
  have e : cmpOk (.bool i) (.bool j) = true := Eq.trans rfl rfl
  unfold oEq
  rw [if_pos e]
  have : PyData.eqv (.bool i) (.bool j) = (i == j) := by simp [PyData.eqv]
  rw [this, Bool.beq_eq_decide_eq]
@[simp] theorem is_n : oIs .none .none = .ok (.bool true) := Eq.trans rfl rfl
@[simp] theorem is_i (i : Int) : oIs (.int i) .none = .ok (.bool false) := Eq.trans rfl rfl
@[simp] theorem is_b (i : Bool) : oIs (.bool i) .none = .ok (.bool false) := Eq.trans rfl rfl
@[simp] theorem is_s (i : Str) : oIs (.str i) .none = .ok (.bool false) := Eq.trans rfl rfl
@[simp] theorem is_t (i : List PyData) : oIs (.tuple i) .none = .ok (.bool false) := Eq.trans rfl rfl
@[simp] theorem is_l (i : List PyData) : oIs (.list i) .none = .ok (.bool false) := Eq.trans rfl rfl
@[simp] theorem isnot_n : oIsNot .none .none = .ok (.bool false) := Eq.trans rfl rfl
@[simp] theorem isnot_i (i : Int) : oIsNot (.int i) .none = .ok (.bool true) := Eq.trans rfl rfl
@[simp] theorem isnot_b (i : Bool) : oIsNot (.bool i) .none = .ok (.bool true) := Eq.trans rfl rfl
@[simp] theorem isnot_s (i : Str) : oIsNot (.str i) .none = .ok (.bool true) := Eq.trans rfl rfl
@[simp] theorem isnot_t (i : List PyData) : oIsNot (.tuple i) .none = .ok (.bool true) := Eq.trans rfl rfl
@[simp] theorem isnot_l (i : List PyData) : oIsNot (.list i) .none = .ok (.bool true) := Eq.trans rfl rfl
@[simp] theorem len_l (xs : List PyData) : oLen (.list xs) = .ok (.int xs.length) := Eq.trans rfl rfl
@[simp] theorem len_t (xs : List PyData) : oLen (.tuple xs) = .ok (.int xs.length) := Eq.trans rfl rfl
@[simp] theorem len_scr (xs : List PyData) : oLen (.dict [(.none, .list xs)]) = .ok (.int xs.length) := Eq.trans rfl rfl
@[simp] theorem len_s (z : Str) : oLen (.str z) = if z.length ≤ mx then .ok (.int z.length) else .bad := Eq.trans rfl rfl
@[simp] theorem int_i (i : Int) : oInt (.int i) = .ok (.int i) := Eq.trans rfl rfl
@[simp] theorem tuple_l (xs : List PyData) : oTuple (.list xs) = .ok (.tuple xs) := Eq.trans rfl rfl
@[simp] theorem tuple_t (xs : List PyData) : oTuple (.tuple xs) = .ok (.tuple xs) := Eq.trans rfl rfl
@[simp] theorem list_l (xs : List PyData) : oList (.list xs) = .ok (.list xs) := Eq.trans rfl rfl
@[simp] theorem list_t (xs : List PyData) : oList (.tuple xs) = .ok (.list xs) := Eq.trans rfl rfl
@[simp] theorem min_ii (i j : Int) : oMin2 (.int i) (.int j) = .ok (.int (if j < i then j else i)) := Eq.trans rfl rfl
@[simp] theorem max_ii (i j : Int) : oMax2 (.int i) (.int j) = .ok (.int (if j > i then j else i)) := Eq.trans rfl rfl
@[simp] theorem not_b (b : Bool) : oNot (.bool b) = .ok (.bool (!b)) := Eq.trans rfl rfl
@[simp] theorem neg_i (i : Int) : oNeg (.int i) = .ok (.int (-i)) := Eq.trans rfl rfl
@[simp] theorem ixl (xs : List PyData) (i : Int) : oIx (.list xs) (.int i) = match atI xs i with | some d => .ok d | none => .bad := Eq.trans rfl rfl
@[simp] theorem ixt (xs : List PyData) (i : Int) : oIx (.tuple xs) (.int i) = match atI xs i with | some d => .ok d | none => .bad := Eq.trans rfl rfl
@[simp] theorem ixs (xs : List PyData) (i : Int) : oIx (.dict [(.none, .list xs)]) (.int i) = match atI xs i with | some d => .ok d | none => .bad := Eq.trans rfl rfl
@[simp] theorem cut_l (lo hi : Option Int) (xs : List PyData) : oCut lo hi (.list xs) = .ok (.list (cutD xs lo hi)) := Eq.trans rfl rfl
@[simp] theorem cut_t (lo hi : Option Int) (xs : List PyData) : oCut lo hi (.tuple xs) = .ok (.tuple (cutD xs lo hi)) := Eq.trans rfl rfl
@[simp] theorem any_l (xs : List PyData) : oAny (.list xs) = .ok xs := Eq.trans rfl rfl
@[simp] theorem any_t (xs : List PyData) : oAny (.tuple xs) = .ok xs := Eq.trans rfl rfl
/-- an item at a written place -/
@[simp] theorem at0 {α : Type} (x : α) (xs : List α) : atI (x :: xs) 0 = some x := atI_nat (j := 0) rfl
theorem at_nat {α : Type} (xs : List α) (j : Nat) : atI xs (j : Int) = xs[j]? := by
  cases e : xs[j]? with
  | some v => exact atI_nat e
  | none =>
    unfold atI ixN
    have h : xs.length ≤ j := List.getElem?_eq_none_iff.mp e
    rw [if_pos (Int.natCast_nonneg j), if_neg (by omega)]
    rfl
@[simp] theorem at1 {α : Type} (x y : α) (xs : List α) : atI (x :: y :: xs) 1 = some y := at_nat _ 1
@[simp] theorem at2 {α : Type} (x y z : α) (xs : List α) : atI (x :: y :: z :: xs) 2 = some z := at_nat _ 2
@[simp] theorem at3 {α : Type} (x y z u : α) (xs : List α) : atI (x :: y :: z :: u :: xs) 3 = some u := at_nat _ 3
@[simp] theorem isTup_t (xs : List PyData) : oIsTup (.tuple xs) = .ok (.bool true) := Eq.trans rfl rfl
@[simp] theorem isTup_i (i : Int) : oIsTup (.int i) = .ok (.bool false) := Eq.trans rfl rfl
@[simp] theorem isTup_b (i : Bool) : oIsTup (.bool i) = .ok (.bool false) := Eq.trans rfl rfl
@[simp] theorem isTup_s (i : Str) : oIsTup (.str i) = .ok (.bool false) := Eq.trans rfl rfl
@[simp] theorem isTup_n : oIsTup .none = .ok (.bool false) := Eq.trans rfl rfl
@[simp] theorem isInt_t (xs : List PyData) : oIsInt (.tuple xs) = .ok (.bool false) := Eq.trans rfl rfl
@[simp] theorem isInt_i (i : Int) : oIsInt (.int i) = .ok (.bool true) := Eq.trans rfl rfl
@[simp] theorem isInt_b (i : Bool) : oIsInt (.bool i) = .ok (.bool true) := Eq.trans rfl rfl
@[simp] theorem isInt_s (i : Str) : oIsInt (.str i) = .ok (.bool false) := Eq.trans rfl rfl
@[simp] theorem isInt_n : oIsInt .none = .ok (.bool false) := Eq.trans rfl rfl
@[simp] theorem isBool_t (xs : List PyData) : oIsBool (.tuple xs) = .ok (.bool false) := Eq.trans rfl rfl
@[simp] theorem isBool_i (i : Int) : oIsBool (.int i) = .ok (.bool false) := Eq.trans rfl rfl
@[simp] theorem isBool_b (i : Bool) : oIsBool (.bool i) = .ok (.bool true) := Eq.trans rfl rfl
@[simp] theorem isBool_s (i : Str) : oIsBool (.str i) = .ok (.bool false) := Eq.trans rfl rfl
@[simp] theorem isBool_n : oIsBool .none = .ok (.bool false) := Eq.trans rfl rfl
@[simp] theorem isStr_t (xs : List PyData) : oIsStr (.tuple xs) = .ok (.bool false) := Eq.trans rfl rfl
@[simp] theorem isStr_i (i : Int) : oIsStr (.int i) = .ok (.bool false) := Eq.trans rfl rfl
@[simp] theorem isStr_b (i : Bool) : oIsStr (.bool i) = .ok (.bool false) := Eq.trans rfl rfl
@[simp] theorem isStr_s (i : Str) : oIsStr (.str i) = .ok (.bool true) := Eq.trans rfl rfl
@[simp] theorem isStr_n : oIsStr .none = .ok (.bool false) := Eq.trans rfl rfl
/-- a range of few turns -/
theorem rng_nat {n : Nat} (h : n ≤ 1000000000) : rngD 0 (n : Int) = .ok ((List.range n).map fun (k : Nat) => .int (k : Int)) := by
  unfold rngD
  have e : ((n : Int) - 0).toNat = n := by omega
  rw [e]
  have c : (decide (-4611686018427387904 ≤ (0 : Int)) && decide ((0 : Int) < 4611686018427387904) && decide (-4611686018427387904 ≤ (n : Int)) && decide ((n : Int) < 4611686018427387904) && decide (n ≤ 4611686018427387904)) = true := by
    simp only [Bool.and_eq_true, decide_eq_true_eq]
    omega
  rw [if_pos c]
  simp
@[simp] theorem mulOk_r {i j : Int} (h : -18446744073709551616 < j ∧ j < 18446744073709551616) : mulOk i j = true := by
  unfold mulOk
  simp [h.1, h.2]
theorem mulOk_l {i j : Int} (h : -18446744073709551616 < i ∧ i < 18446744073709551616) : mulOk i j = true := by
  unfold mulOk
  simp [h.1, h.2]
/-! ### ifs -/
section
variable {p : Prop} [Decidable p]
@[simp] theorem if_ok_true (d : Bool) : (if p then Rs.ok true else Rs.ok d) = Rs.ok (decide p || d) := by by_cases h : p <;> simp [h]
@[simp] theorem if_ok_false (d : Bool) : (if p then Rs.ok d else Rs.ok false) = Rs.ok (decide p && d) := by by_cases h : p <;> simp [h]
@[simp] theorem bind_if {α β : Type} (a b : Rs α) (k : α → Rs β) : (if p then a else b).bind k = if p then a.bind k else b.bind k := by by_cases h : p <;> simp [h]
@[simp] theorem eS_if {α : Type} (ρ : En) (a b : Rs α) (k : α → SRes) : eS ρ (if p then a else b) k = if p then eS ρ a k else eS ρ b k := by by_cases h : p <;> simp [h]
@[simp] theorem then_if (a b : SRes) (k : En → SRes) : sThen (if p then a else b) k = if p then sThen a k else sThen b k := by by_cases h : p <;> simp [h]
@[simp] theorem outS_if (a b : SRes) : outS (if p then a else b) = if p then outS a else outS b := by by_cases h : p <;> simp [h]
end
@[simp] theorem outS_ret (d : PyData) : outS (.ret d) = .ok d := Eq.trans rfl rfl
@[simp] theorem outS_nx (ρ : En) : outS (.nx ρ) = .ok .none := Eq.trans rfl rfl
@[simp] theorem outS_ex (e : Exn) (ρ : En) : outS (.ex e ρ) = .ex e := Eq.trans rfl rfl
@[simp] theorem outS_bad : outS .bad = .bad := Eq.trans rfl rfl
@[simp] theorem if_okb_true {p : Prop} [Decidable p] (d : Bool) : (if p then Rs.ok (PyData.bool true) else Rs.ok (.bool d)) = Rs.ok (.bool (decide p || d)) := by by_cases h : p <;> simp [h]
@[simp] theorem if_okb_false {p : Prop} [Decidable p] (d : Bool) : (if p then Rs.ok (PyData.bool d) else Rs.ok (.bool false)) = Rs.ok (.bool (decide p && d)) := by by_cases h : p <;> simp [h]
@[simp] theorem if_okb_f1 {p : Prop} [Decidable p] (d : Bool) : (if p then Rs.ok (PyData.bool false) else Rs.ok (.bool d)) = Rs.ok (.bool (!decide p && d)) := by by_cases h : p <;> simp [h]
@[simp] theorem if_okb_t2 {p : Prop} [Decidable p] (d : Bool) : (if p then Rs.ok (PyData.bool d) else Rs.ok (.bool true)) = Rs.ok (.bool (!decide p || d)) := by by_cases h : p <;> simp [h]
/-- a def that runs to its end -/
theorem runF_ret {n m : Nat} {b : En → SRes} {ds : List PyData} {d : PyData} (hl : ds.length = m) (h : b (ds.map (fun d => some (.val d)) ++ List.replicate (n - m) none) = .ret d) : runF n m b ds = .ok d := by
  unfold runF
  rw [if_pos hl, h]
  rfl
theorem runF_nx {n m : Nat} {b : En → SRes} {ds : List PyData} {ρ : En} (hl : ds.length = m) (h : b (ds.map (fun d => some (.val d)) ++ List.replicate (n - m) none) = .nx ρ) : runF n m b ds = .ok .none := by
  unfold runF
  rw [if_pos hl, h]
  rfl
end DL
namespace DL
open PySem PySem.Spec PyProof.Rows L2
/-! ### loops -/
/-- behind a turn -/
def AftD (r : SRes) (I : En → Prop) (R : SRes → Prop) : Prop := match r with
  | .nx ρ => I ρ
  | .ct ρ => I ρ
  | .brk ρ => R (.nx ρ)
  | r => R r
structure Aft (r : SRes) (I : En → Prop) (R : SRes → Prop) : Prop where
  out : AftD r I R
@[simp] theorem aft_nx (ρ : En) (I : En → Prop) (R : SRes → Prop) : Aft (.nx ρ) I R = I ρ := propext ⟨fun h => h.out, fun h => ⟨h⟩⟩
@[simp] theorem aft_ct (ρ : En) (I : En → Prop) (R : SRes → Prop) : Aft (.ct ρ) I R = I ρ := propext ⟨fun h => h.out, fun h => ⟨h⟩⟩
@[simp] theorem aft_brk (ρ : En) (I : En → Prop) (R : SRes → Prop) : Aft (.brk ρ) I R = R (.nx ρ) := propext ⟨fun h => h.out, fun h => ⟨h⟩⟩
@[simp] theorem aft_ret (d : PyData) (I : En → Prop) (R : SRes → Prop) : Aft (.ret d) I R = R (.ret d) := propext ⟨fun h => h.out, fun h => ⟨h⟩⟩
@[simp] theorem aft_ex (e : Exn) (ρ : En) (I : En → Prop) (R : SRes → Prop) : Aft (.ex e ρ) I R = R (.ex e ρ) := propext ⟨fun h => h.out, fun h => ⟨h⟩⟩
/-- by what is left -/
theorem for_ind {τ : TgD} {b : En → SRes} (I : List PyData → En → Prop) (R : SRes → Prop) (hs : ∀ d ds ρ, I (d :: ds) ρ → ∃ ρ1, τ d ρ = .ok ρ1 ∧ Aft (b ρ1) (I ds) R) (he : ∀ ρ, I [] ρ → R (.nx ρ)) : ∀ {ds : List PyData} {ρ : En}, I ds ρ → R (forS τ b ds ρ)
  | [], ρ, h => he ρ h
  | d :: ds, ρ, h => by
    obtain ⟨ρ1, e, q⟩ := hs d ds ρ h
    unfold forS
    rw [e]
    dsimp only
    have q := q.out
    cases eb : b ρ1 with
    | nx ρ' => rw [eb] at q; exact for_ind I R hs he q
    | ct ρ' => rw [eb] at q; exact for_ind I R hs he q
    | brk ρ' => rw [eb] at q; exact q
    | ret d => rw [eb] at q; exact q
    | ex x ρ' => rw [eb] at q; exact q
    | bad => rw [eb] at q; exact q
/-- over a range, one name -/
theorem for_rng {i : Nat} {b : En → SRes} (n : Nat) (I : Nat → En → Prop) (R : SRes → Prop) {ρ : En} (h0 : I 0 ρ) (hs : ∀ (k : Nat) ρ, k < n → I k ρ → Aft (b (ρ.set i (some (.val (.int (k : Int)))))) (I (k + 1)) R) (he : ∀ ρ, I n ρ → R (.nx ρ)) : R (forS (τName i) b ((List.range n).map fun (k : Nat) => .int (k : Int)) ρ) := by
  have go : ∀ (m k : Nat) (ρ : En), k + m = n → I k ρ → R (forS (τName i) b ((List.range' k m).map fun (k : Nat) => .int (k : Int)) ρ) := by
    intro m
    induction m with
    | zero => intro k ρ e h; exact he ρ (by rw [← e]; exact h)
    | succ m ih =>
      intro k ρ e h
      rw [List.range'_succ, List.map_cons]
      have q := (hs k ρ (by omega) h).out
      show R (match b (ρ.set i (some (.val (.int (k : Int))))) with
        | .nx ρ' => forS (τName i) b ((List.range' (k + 1) m).map fun (k : Nat) => .int (k : Int)) ρ'
        | .ct ρ' => forS (τName i) b ((List.range' (k + 1) m).map fun (k : Nat) => .int (k : Int)) ρ'
        | .brk ρ' => .nx ρ'
        | r => r)
      cases eb : b (ρ.set i (some (.val (.int (k : Int))))) with
      | nx ρ' => rw [eb] at q; exact ih (k + 1) ρ' (by omega) q
      | ct ρ' => rw [eb] at q; exact ih (k + 1) ρ' (by omega) q
      | brk ρ' => rw [eb] at q; exact q
      | ret d => rw [eb] at q; exact q
      | ex x ρ' => rw [eb] at q; exact q
      | bad => rw [eb] at q; exact q
  have e := go n 0 ρ (by omega) h0
  rwa [← List.range_eq_range'] at e
/-- draws: each below its size -/
inductive Dr : List Int → List Int → Prop
  | nil : Dr [] []
  | cons {o n : Int} {os ns : List Int} : 0 ≤ o → o < n → Dr os ns → Dr (o :: os) (n :: ns)
theorem Dr.length {os ns : List Int} (h : Dr os ns) : os.length = ns.length := by
  induction h with
  | nil => rfl
  | cons _ _ _ ih => rw [List.length_cons, List.length_cons, ih]
theorem Dr.get {os ns : List Int} (h : Dr os ns) {i : Nat} {n : Int} (e : ns[i]? = some n) : ∃ o, os[i]? = some o ∧ 0 ≤ o ∧ o < n := by
  induction h generalizing i with
  | nil => simp at e
  | cons h1 h2 _ ih =>
    cases i with
    | zero => simp at e; subst e; exact ⟨_, rfl, h1, h2⟩
    | succ i =>
      obtain ⟨o, q, r⟩ := ih (i := i) (by simpa using e)
      exact ⟨o, by simpa using q, r⟩
theorem Dr.snoc {os ns : List Int} {o n : Int} (h : Dr os ns) (h1 : 0 ≤ o) (h2 : o < n) : Dr (os ++ [o]) (ns ++ [n]) := by
  induction h with
  | nil => exact .cons h1 h2 .nil
  | cons a b _ ih => exact .cons a b ih
theorem at_int {α : Type} (xs : List α) {i : Int} (h : 0 ≤ i) : atI xs i = xs[i.toNat]? := by
  have e : i = ((i.toNat : Nat) : Int) := by omega
  rw [e, at_nat, Int.toNat_natCast]
theorem map_at {α β : Type} (f : α → β) (xs : List α) (i : Nat) : (xs.map f)[i]? = (xs[i]?).map f := List.getElem?_map
theorem ints_app (a : List Int) (x : Int) : a.map PyData.int ++ [.int x] = (a ++ [x]).map PyData.int := by rw [List.map_append]; rfl
end DL

/-! DM2: what every law draws, and how it compares. -/
namespace DL
open PySem PySem.Spec PyProof.Rows L2
@[simp] theorem mx_1 : (1 : Nat) ≤ mx := by decide
@[simp] theorem mx_2 : (2 : Nat) ≤ mx := by decide
@[simp] theorem mx_3 : (3 : Nat) ≤ mx := by decide
@[simp] theorem mx_4 : (4 : Nat) ≤ mx := by decide
@[simp] theorem mx_5 : (5 : Nat) ≤ mx := by decide
@[simp] theorem mx_6 : (6 : Nat) ≤ mx := by decide
@[simp] theorem mx_7 : (7 : Nat) ≤ mx := by decide
@[simp] theorem mx_8 : (8 : Nat) ≤ mx := by decide
@[simp] theorem mx_9 : (9 : Nat) ≤ mx := by decide
@[simp] theorem mx_10 : (10 : Nat) ≤ mx := by decide
@[simp] theorem mx_11 : (11 : Nat) ≤ mx := by decide
@[simp] theorem mx_12 : (12 : Nat) ≤ mx := by decide
@[simp] theorem mx_13 : (13 : Nat) ≤ mx := by decide
@[simp] theorem mx_14 : (14 : Nat) ≤ mx := by decide
@[simp] theorem mx_15 : (15 : Nat) ≤ mx := by decide
@[simp] theorem mx_16 : (16 : Nat) ≤ mx := by decide
@[simp] theorem mx_17 : (17 : Nat) ≤ mx := by decide
@[simp] theorem mx_18 : (18 : Nat) ≤ mx := by decide
@[simp] theorem mx_19 : (19 : Nat) ≤ mx := by decide
@[simp] theorem mx_20 : (20 : Nat) ≤ mx := by decide
@[simp] theorem mx_21 : (21 : Nat) ≤ mx := by decide
@[simp] theorem mx_22 : (22 : Nat) ≤ mx := by decide
@[simp] theorem mx_23 : (23 : Nat) ≤ mx := by decide
@[simp] theorem mx_24 : (24 : Nat) ≤ mx := by decide
@[simp] theorem mx_25 : (25 : Nat) ≤ mx := by decide
@[simp] theorem mx_26 : (26 : Nat) ≤ mx := by decide
@[simp] theorem mx_27 : (27 : Nat) ≤ mx := by decide
@[simp] theorem mx_28 : (28 : Nat) ≤ mx := by decide
@[simp] theorem mx_29 : (29 : Nat) ≤ mx := by decide
@[simp] theorem mx_30 : (30 : Nat) ≤ mx := by decide
@[simp] theorem mx_31 : (31 : Nat) ≤ mx := by decide
@[simp] theorem mx_32 : (32 : Nat) ≤ mx := by decide
@[simp] theorem mx_33 : (33 : Nat) ≤ mx := by decide
@[simp] theorem mx_34 : (34 : Nat) ≤ mx := by decide
@[simp] theorem mx_35 : (35 : Nat) ≤ mx := by decide
@[simp] theorem mx_36 : (36 : Nat) ≤ mx := by decide
@[simp] theorem mx_37 : (37 : Nat) ≤ mx := by decide
@[simp] theorem mx_38 : (38 : Nat) ≤ mx := by decide
@[simp] theorem mx_39 : (39 : Nat) ≤ mx := by decide
@[simp] theorem mx_40 : (40 : Nat) ≤ mx := by decide
@[simp] theorem mx_0 : (0 : Nat) < mx := by decide
def c_cell : En → SRes :=
  (sSeq (sIf (tst (b2 oLt (dVar 1) (b1 oLen (dVar 0))))
  (sRet (b1 oInt (b2 oIx (dVar 0) (dVar 1))))
  sNil)
  (sRet (dC (.int 0))))
def g_cell : List PyData → Rs PyData := runF 2 2 c_cell
def c_draws_1 : En → SRes :=
  (sSeq (sApp 2 (b2 oMod (b1 oInt (dVar 3)) (dVar 4)))
  (sSet 3 (b2 oDiv (dVar 3) (dVar 4))))
def c_draws_2 : En → SRes :=
  (sSeq (sSet 5 (b2 oMod (b1 oInt (b2 oAdd (b2 oAdd (b2 oMul (dVar 5) (dC (.int 39373))) (b2 oMul (dC (.int 6007)) (dVar 6))) (dC (.int 91)))) (dC (.int 2147483647))))
  (sSeq (sSet 7 (b2 oMod (b1 oInt (b2 oAdd (b2 oAdd (b2 oMul (b2 oDiv (dVar 5) (dC (.int 5))) (dC (.int 40692))) (b2 oMul (dC (.int 211)) (dVar 6))) (dC (.int 3)))) (dC (.int 2147483399))))
  (sApp 2 (b2 oMod (b1 oInt (dVar 7)) (b2 oIx (dVar 1) (dVar 6))))))
def c_draws : En → SRes :=
  (sSeq (sSetO 2 (mkL aNil))
  (sSeq (sIf (tst (b2 oGe (dVar 0) (b2 oPow (dC (.int 10)) (dC (.int 18)))))
  (sSeq (sSet 3 (b1 oInt (dVar 0)))
  (sSeq (sFor (iOf oAny (dVar 1)) (τName 4) c_draws_1)
  (sFrz 2 (sRet (dVar 2)))))
  sNil)
  (sSeq (sSet 5 (b2 oMod (b1 oInt (dVar 0)) (dC (.int 2147483647))))
  (sSeq (sFor (iRange1 (b1 oLen (dVar 1))) (τName 6) c_draws_2)
  (sFrz 2 (sRet (dVar 2)))))))
def g_draws : List PyData → Rs PyData := runF 8 2 c_draws
def c_same_1 (self : List PyData → Rs PyData) : En → SRes :=
  (sIf (tNotD (tst (dCall self (aCons (b2 oIx (dVar 0) (dVar 2)) (aCons (b2 oIx (dVar 1) (dVar 2)) aNil)))))
  (sRet (dC (.bool false)))
  sNil)
def c_same (self : List PyData → Rs PyData) : En → SRes :=
  (sSeq (sIf (tst (b1 oIsTup (dVar 1)))
  (sSeq (sIf (tOrD (tNotD (tst (b1 oIsTup (dVar 0)))) (tst (b2 oNe (b1 oLen (dVar 0)) (b1 oLen (dVar 1)))))
  (sRet (dC (.bool false)))
  sNil)
  (sSeq (sFor (iRange1 (b1 oLen (dVar 1))) (τName 2) (c_same_1 self))
  (sRet (dC (.bool true)))))
  sNil)
  (sSeq (sIf (tst (b2 oIs (dVar 1) (dC .none)))
  (sRet (b2 oIs (dVar 0) (dC .none)))
  sNil)
  (sSeq (sIf (tst (b1 oIsBool (dVar 1)))
  (sRet (vAnd (b1 oIsBool (dVar 0)) (b2 oEq (dVar 0) (dVar 1))))
  sNil)
  (sSeq (sIf (tst (b1 oIsInt (dVar 1)))
  (sRet (vAnd (b1 oIsInt (dVar 0)) (vAnd (b1 oNot (b1 oIsBool (dVar 0))) (b2 oEq (dVar 0) (dVar 1)))))
  sNil)
  (sRet (vAnd (b1 oIsStr (dVar 0)) (b2 oEq (dVar 0) (dVar 1))))))))
def g_same : Nat → List PyData → Rs PyData
  | 0 => fun _ => .bad
  | n + 1 => runF 3 2 (c_same (g_same n))
/-- over a list, by place -/
theorem for_at {τ : TgD} {b : En → SRes} (xs : List PyData) (I : Nat → En → Prop) (R : SRes → Prop) {ρ : En} (h0 : I 0 ρ) (hs : ∀ (k : Nat) d ρ, xs[k]? = some d → I k ρ → ∃ ρ1, τ d ρ = .ok ρ1 ∧ Aft (b ρ1) (I (k + 1)) R) (he : ∀ ρ, I xs.length ρ → R (.nx ρ)) : R (forS τ b xs ρ) := by
  refine for_ind (fun ds ρ => ∃ k, xs.drop k = ds ∧ k ≤ xs.length ∧ I k ρ) R ?_ ?_ ⟨0, rfl, Nat.zero_le _, h0⟩
  · rintro d ds ρ ⟨k, e, hk, hi⟩
    have hk' : k < xs.length := by
      rcases Nat.lt_or_ge k xs.length with h | h
      · exact h
      · rw [List.drop_eq_nil_of_le h] at e
        cases e
    have ek : xs[k]? = some d := by
      have := congrArg (·[0]?) e
      simpa using this
    obtain ⟨ρ1, t, q⟩ := hs k d ρ ek hi
    refine ⟨ρ1, t, ?_⟩
    have ed : xs.drop (k + 1) = ds := by
      have h2 := congrArg List.tail e
      rw [List.tail_drop] at h2
      exact h2
    have q := q.out
    refine ⟨?_⟩
    cases eb : b ρ1 with
    | nx ρ' => rw [eb] at q; exact ⟨k + 1, ed, hk', q⟩
    | ct ρ' => rw [eb] at q; exact ⟨k + 1, ed, hk', q⟩
    | brk ρ' => rw [eb] at q; exact q
    | ret d => rw [eb] at q; exact q
    | ex x ρ' => rw [eb] at q; exact q
    | bad => rw [eb] at q; exact q
  · rintro ρ ⟨k, e, hk, hi⟩
    have : k = xs.length := by
      have := congrArg List.length e
      simp at this
      omega
    subst this
    exact he ρ hi
theorem cell_ok (ns : List Int) (k : Nat) : ∃ c : Int, g_cell [scr ns, .int (k : Int)] = .ok (.int c) := by
  by_cases h : k < ns.length
  · refine ⟨ns[k], ?_⟩
    have h' : (k : Int) < (ns.length : Int) := by omega
    simp [g_cell, runF, c_cell, at_nat, h, List.getElem?_eq_getElem h]
  · refine ⟨0, ?_⟩
    have h' : ¬ (k : Int) < (ns.length : Int) := by omega
    simp [g_cell, runF, c_cell, h]
def Szs (ns : List Int) : Prop := ∀ n ∈ ns, 0 < n ∧ n < 1000000000
theorem Szs.app {a b : List Int} (h : Szs a) (g : Szs b) : Szs (a ++ b) := fun n hn => (List.mem_append.mp hn).elim (h n) (g n)
theorem szs_cons {n : Int} {ns : List Int} (h : Szs (n :: ns)) : (0 < n ∧ n < 1000000000) ∧ Szs ns := ⟨h n List.mem_cons_self, fun m hm => h m (List.mem_cons_of_mem _ hm)⟩
/-- the first loop: the number's digits -/
theorem huge_turn (c s z5 z6 z7 : Option SV) (acc : List Int) (rest n : Int) (h1 : 0 < n) (h2 : n < 1000000000) (hm : acc.length < mx) :
    c_draws_1 [c, s, some (.own (.list (acc.map .int))), some (.val (.int rest)), some (.val (.int n)), z5, z6, z7] = .nx [c, s, some (.own (.list ((acc ++ [rest % n]).map .int))), some (.val (.int (rest / n))), some (.val (.int n)), z5, z6, z7] := by
  have h3 : n < 1073741824 := by omega
  simp [c_draws_1, x_app, h1, h3, hm]
theorem huge_loop (c s z5 z6 z7 : Option SV) : ∀ (ns acc : List Int) (rest : Int) (z4 : Option SV), Szs ns → acc.length + ns.length ≤ 100000 →
    ∃ (os : List Int) (rest' : Int) (y4 : Option SV), forS (τName 4) c_draws_1 (ns.map .int)
      [c, s, some (.own (.list (acc.map .int))), some (.val (.int rest)), z4, z5, z6, z7] = .nx [c, s, some (.own (.list ((acc ++ os).map .int))), some (.val (.int rest')), y4, z5, z6, z7] ∧ Dr os ns
  | [], acc, rest, z4, _, _ => ⟨[], rest, z4, by rw [List.append_nil]; rfl, .nil⟩
  | n :: ns, acc, rest, z4, hs, hl => by
    obtain ⟨⟨h1, h2⟩, hs'⟩ := szs_cons hs
    have hl' : acc.length + (ns.length + 1) ≤ 100000 := hl
    have hm : acc.length < mx := by show _ < 16777216; omega
    obtain ⟨os, r', y4, e, d⟩ := huge_loop c s z5 z6 z7 ns (acc ++ [rest % n]) (rest / n) (some (.val (.int n))) hs' (by rw [List.length_append]; simp; omega)
    refine ⟨rest % n :: os, r', y4, ?_, .cons (Int.emod_nonneg _ (by omega)) (Int.emod_lt_of_pos _ h1) d⟩
    rw [List.append_assoc] at e
    rw [List.map_cons]
    unfold forS
    show (match c_draws_1 [c, s, some (.own (.list (acc.map .int))), some (.val (.int rest)), some (.val (.int n)), z5, z6, z7] with
      | .nx ρ' => forS (τName 4) c_draws_1 (ns.map .int) ρ'
      | .ct ρ' => forS (τName 4) c_draws_1 (ns.map .int) ρ'
      | .brk ρ' => .nx ρ'
      | r => r) = _
    rw [huge_turn c s z5 z6 z7 acc rest n h1 h2 hm]
    exact e
/-- the second loop -/
theorem mix_turn (c z3 z4 y7 : Option SV) (ns os : List Int) (m n : Int) (k : Nat) (hk : ns[k]? = some n) (h1 : 0 < n) (lo : os.length < mx) :
    ∃ m' o o', c_draws_2 [c, some (.val (.list (ns.map .int))), some (.own (.list (os.map .int))), z3, z4, some (.val (.int m)), some (.val (.int (k : Int))), y7] = .nx [c, some (.val (.list (ns.map .int))), some (.own (.list ((os ++ [o % n]).map .int))), z3, z4, some (.val (.int m')), some (.val (.int (k : Int))), some (.val (.int o'))] := by
  refine ⟨(m * 39373 + 6007 * (k : Int) + 91) % 2147483647, (((m * 39373 + 6007 * (k : Int) + 91) % 2147483647) / 5 * 40692 + 211 * (k : Int) + 3) % 2147483399, (((m * 39373 + 6007 * (k : Int) + 91) % 2147483647) / 5 * 40692 + 211 * (k : Int) + 3) % 2147483399, ?_⟩
  simp [c_draws_2, x_app, at_nat, hk, h1, lo, mulOk_l]
theorem mix_loop (c z3 z4 : Option SV) (ns : List Int) (hs : Szs ns) (hl : ns.length ≤ 100000) (m0 : Int) :
    ∃ (os : List Int) (y5 y6 y7 : Option SV), forS (τName 6) c_draws_2 ((List.range ns.length).map fun (k : Nat) => .int (k : Int))
      [c, some (.val (.list (ns.map .int))), some (.own (.list [])), z3, z4, some (.val (.int m0)), none, none] = .nx [c, some (.val (.list (ns.map .int))), some (.own (.list (os.map .int))), z3, z4, y5, y6, y7] ∧ Dr os ns := by
  refine for_rng ns.length (fun k ρ => ∃ (os : List Int) (m : Int) (y6 y7 : Option SV), ρ = [c, some (.val (.list (ns.map .int))), some (.own (.list (os.map .int))), z3, z4, some (.val (.int m)), y6, y7] ∧ Dr os (ns.take k))
    (fun r => ∃ (os : List Int) (y5 y6 y7 : Option SV), r = .nx [c, some (.val (.list (ns.map .int))), some (.own (.list (os.map .int))), z3, z4, y5, y6, y7] ∧ Dr os ns) ⟨[], m0, none, none, rfl, .nil⟩ ?_ ?_
  · rintro k ρ hk ⟨os, m, y6, y7, rfl, d⟩
    have en : ns[k]? = some ns[k] := List.getElem?_eq_getElem hk
    obtain ⟨hp, hp2⟩ := hs ns[k] (List.getElem_mem hk)
    have lo : os.length < mx := by
      rw [d.length, List.length_take]
      show _ < 16777216
      omega
    have tk : ns.take (k + 1) = ns.take k ++ [ns[k]] := by rw [List.take_add_one, en]; rfl
    obtain ⟨m', o, o', e⟩ := mix_turn c z3 z4 y7 ns os m ns[k] k en hp lo
    show Aft (c_draws_2 [c, some (.val (.list (ns.map .int))), some (.own (.list (os.map .int))), z3, z4, some (.val (.int m)), some (.val (.int (k : Int))), y7]) _ _
    rw [e, aft_nx]
    exact ⟨_, _, _, _, rfl, by rw [tk]; exact d.snoc (Int.emod_nonneg _ (by omega)) (Int.emod_lt_of_pos _ hp)⟩
  · rintro ρ ⟨os, m, y6, y7, rfl, d⟩
    rw [List.take_length] at d
    exact ⟨os, _, y6, y7, rfl, d⟩
theorem draws_ok (cell : Int) (ns : List Int) (hs : Szs ns) (hl : ns.length ≤ 100000) : ∃ os : List Int, g_draws [.int cell, .list (ns.map .int)] = .ok (.list (os.map .int)) ∧ Dr os ns := by
  by_cases h : 1000000000000000000 ≤ cell
  · obtain ⟨os, r', y4, e1, d1⟩ := huge_loop (some (.val (.int cell))) (some (.val (.list (ns.map .int)))) none none none ns [] cell none hs (by simpa using hl)
    refine ⟨os, ?_, d1⟩
    simp at e1
    simp [g_draws, runF, c_draws, h, e1]
  · obtain ⟨os, y5, y6, y7, e1, d1⟩ := mix_loop (some (.val (.int cell))) none none ns hs hl (cell % 2147483647)
    refine ⟨os, ?_, d1⟩
    simp [g_draws, runF, c_draws, h, rng_nat (show ns.length ≤ 1000000000 by omega), e1]
/-! ### same -/
def okD : Nat → PyData → Bool
  | 0, _ => false
  | n + 1, .tuple ds => ds.all (okD n) && decide (ds.length ≤ 1000000)
  | _ + 1, .list _ => false
  | _ + 1, .dict _ => false
  | _ + 1, _ => true
theorem same_tup (n : Nat) (ds : List PyData) (hl : ds.length ≤ 1000000) (ih : ∀ d ∈ ds, g_same n [d, d] = .ok (.bool true)) : g_same (n + 1) [.tuple ds, .tuple ds] = .ok (.bool true) := by
  have lp : ∃ z, forS (τName 2) (c_same_1 (g_same n)) ((List.range ds.length).map fun (k : Nat) => .int (k : Int)) [some (.val (.tuple ds)), some (.val (.tuple ds)), none] = .nx [some (.val (.tuple ds)), some (.val (.tuple ds)), z] := by
    refine for_rng ds.length (fun k ρ => ∃ z, ρ = [some (.val (.tuple ds)), some (.val (.tuple ds)), z]) (fun r => ∃ z, r = .nx [some (.val (.tuple ds)), some (.val (.tuple ds)), z]) ⟨none, rfl⟩ ?_ ?_
    · rintro k ρ hk ⟨z, rfl⟩
      have en : ds[k]? = some ds[k] := List.getElem?_eq_getElem hk
      have ih := ih ds[k] (List.getElem_mem hk)
      simp [c_same_1, at_nat, en, ih]
    · rintro ρ ⟨z, rfl⟩
      exact ⟨z, rfl⟩
  obtain ⟨z, e⟩ := lp
  simp [g_same, runF, c_same, rng_nat (show ds.length ≤ 1000000000 by omega), e]
theorem same_ok (n : Nat) : ∀ (d : PyData), okD n d = true → g_same n [d, d] = .ok (.bool true) := by
  induction n with
  | zero => intro d h; simp [okD] at h
  | succ n ih =>
    intro d h
    cases d with
    | none => simp [g_same, runF, c_same]
    | bool b => simp [g_same, runF, c_same]
    | int b => simp [g_same, runF, c_same]
    | str b => simp [g_same, runF, c_same]
    | list b => simp [okD] at h
    | dict b => simp [okD] at h
    | tuple ds =>
      unfold okD at h
      simp only [Bool.and_eq_true, List.all_eq_true, decide_eq_true_eq] at h
      exact same_tup n ds h.2 fun d hd => ih d (h.1 d hd)
theorem fits {i : Int} (h : -9223372036854775808 ≤ i ∧ i < 9223372036854775808) : Builtin.Range.rangeFitsLong i = true := by
  unfold Builtin.Range.rangeFitsLong
  have e : (2 : Int) ^ 63 = 9223372036854775808 := by decide +kernel
  rw [e, Bool.and_eq_true, decide_eq_true_eq, decide_eq_true_eq]
  exact h
/-- a rising range of few turns -/
theorem rng3_nat {n : Nat} {c : Int} (h : n ≤ 1000000) (hc : 0 < c ∧ c < 1000000) : ∃ ks : List Nat, rng3 0 (n : Int) c = .ok (ks.map fun (k : Nat) => .int (k : Int)) ∧ ∀ k ∈ ks, k < n := by
  have hs : Builtin.Range.rangeSize 0 (n : Int) c = if (0 : Int) < n then ((n : Int) - 0 - 1) / c + 1 else 0 := by
    unfold Builtin.Range.rangeSize
    rw [if_pos hc.1]
  have b : 0 ≤ Builtin.Range.rangeSize 0 (n : Int) c ∧ Builtin.Range.rangeSize 0 (n : Int) c ≤ n ∧ (Builtin.Range.rangeSize 0 (n : Int) c = 0 ∨ (Builtin.Range.rangeSize 0 (n : Int) c - 1) * c ≤ n - 1) := by
    rw [hs]
    split
    · have d1 : 0 ≤ ((n : Int) - 0 - 1) / c := Int.ediv_nonneg (by omega) (by omega)
      have d2 : ((n : Int) - 0 - 1) / c ≤ ((n : Int) - 0 - 1) := Int.ediv_le_self _ (by omega)
      have d3 : ((n : Int) - 0 - 1) / c * c ≤ ((n : Int) - 0 - 1) := Int.ediv_mul_le _ (by omega)
      refine ⟨by omega, by omega, .inr ?_⟩
      rw [Int.add_sub_cancel]
      omega
    · exact ⟨by omega, by omega, .inl rfl⟩
  have sm : Builtin.Range.small 0 (n : Int) c = true := by
    unfold Builtin.Range.small
    rw [if_pos hc.1, fits (by omega), fits (i := (n : Int)) (by omega), fits (i := c) (by omega), fits (i := Builtin.Range.rangeSize 0 (n : Int) c) (by omega), fits (i := (n : Int) + (c - 1)) (by omega)]
    simp
  unfold rng3
  generalize Builtin.Range.rangeSize 0 (n : Int) c = z at *
  rw [if_pos]
  · refine ⟨(List.range z.toNat).map fun k => k * c.toNat, ?_, ?_⟩
    · rw [List.map_map]
      refine congrArg Rs.ok (List.map_congr_left fun k _ => ?_)
      show PyData.int _ = PyData.int _
      rw [Int.zero_add, Int.natCast_mul, Int.toNat_of_nonneg (by omega)]
    · intro k hk
      obtain ⟨i, hi, rfl⟩ := List.mem_map.mp hk
      have hi' := List.mem_range.mp hi
      have q : (i : Int) * c ≤ (z - 1) * c := Int.mul_le_mul_of_nonneg_right (by omega) (by omega)
      have q2 : ((i * c.toNat : Nat) : Int) = (i : Int) * c := by rw [Int.natCast_mul, Int.toNat_of_nonneg (by omega)]
      omega
  · rw [sm]
    simp only [Bool.and_eq_true, decide_eq_true_eq]
    refine ⟨⟨⟨⟨?_, ?_⟩, trivial⟩, ?_⟩, ?_⟩ <;> omega
theorem cut_map {α β : Type} (f : α → β) (xs : List α) (lo hi : Option Int) : cutD (xs.map f) lo hi = (cutD xs lo hi).map f := by
  unfold cutD
  rw [List.length_map, List.map_take, List.map_drop]
theorem cut_len {α : Type} (xs : List α) (lo hi : Option Int) : (cutD xs lo hi).length ≤ xs.length := by
  unfold cutD
  rw [List.length_take, List.length_drop]
  omega
theorem cut_mem {α : Type} {xs : List α} {lo hi : Option Int} {x : α} (h : x ∈ cutD xs lo hi) : x ∈ xs := List.mem_of_mem_drop (List.mem_of_mem_take h)
theorem lcL_map {α : Type} {τ : TgD} {tt : En → Rs Bool} {te : En → Rs PyData} {ρ : En} (f g : α → PyData) (p : α → Bool) (ρ1 : α → En) : ∀ (xs : List α), (∀ x ∈ xs, τ (f x) ρ = .ok (ρ1 x) ∧ tt (ρ1 x) = .ok (p x) ∧ (p x = true → te (ρ1 x) = .ok (g x))) → lcL τ tt te (xs.map f) ρ = .ok ((xs.filter p).map g)
  | [], _ => rfl
  | x :: xs, h => by
    obtain ⟨h1, h2, h3⟩ := h x List.mem_cons_self
    have ih := lcL_map f g p ρ1 xs fun y hy => h y (List.mem_cons_of_mem _ hy)
    rw [List.map_cons]
    unfold lcL
    rw [h1]
    dsimp only
    rw [h2]
    cases hp : p x with
    | true =>
      dsimp only
      rw [h3 hp, ih, List.filter_cons_of_pos hp]
      rfl
    | false =>
      dsimp only
      rw [ih, List.filter_cons_of_neg (by rw [hp]; exact Bool.false_ne_true)]
end DL

/-! DE1: an own exception's __init__ that says super().__init__('..') and then keeps its fields. -/
namespace DL
open PySem PySem.Spec PyProof.Rows L2 PySem.W
/-- what the written part says of such an __init__ -/
structure InitK (P : Program) (K : PySem.W.Frag) (mg : Str → Option Value) (C : Addr) (F : NdefX.NF) (fI cc : Addr) (fd : FuncData) : Prop where
  fn : ∃ oc od osl, K.lookup fI = some ⟨oc, od, .func fd, osl⟩
  fdq : ∃ dV kV doc pm an ct, fd = PySem.W.fnX F.name F.qual F.params F.body F.scope F.cl dV kV doc pm an (.ref F.c) ct
  cl : F.cl = [(("__class__" : Str), cc)]
  code : PySem.W.codeIn K (.ref F.c) F.qual = true
  file : ∃ c d vs sl file tf, K.lookup F.c = some ⟨c, d, .fields vs, sl⟩ ∧ vs[2]? = some (.str file tf) ∧ ((P.main.file : Str) == file) = true
  cell : ∃ c d sl, K.lookup cc = some ⟨c, d, .cell (some (.ref C)), sl⟩
  sup : mg "super" = none
  top : (P.main.scope.names.lookup ("super" : Str)).isSome = false
  noc : PySem.W.nsIn K cStatics "thirdparty.any" = some none
  above : PySem.W.ks_superIn K C C "__init__" = some (some (.builtin "ValueError.__init__"))
  sub : PySem.W.mroIn K C (.ref C) = some true
  ve : PySem.W.subIn K (.ref C) (.type "ValueError") = some true
section
open PySem.W
variable {prog : Program} {w : World} {M : Model} {A : Around} {E : Value → Shared → Prop} {h : Heap} {g : Array GenState} {d : Drawn} {t : Nat} {os : OsState} {s : Shared}
/-- the built-in __init__, bound, called -/
theorem call_mw {C t0 u x : Addr} {nm q : Str} {N : Addr} {bs bm : List Value} {hdct : Bool} {sn : List Str} {sub : List Value} {ab : Bool} {col : Option Bool} {dd : Option Addr} {k0 k1 k2 k3 k5 : Option Value} {rest : List Value} {Q : Value → Shared → Prop}
    (hC : h.get? C = some (excClassObj nm q C N bs bm hdct sn sub ab col dd k0 k1 k2 k3 k5 "ValueError.__new__")) (hu : h.get? u = some (kxs_mw "ValueError.__init__" x)) (he : h.get? x = some (PySem.HandSPX.excO C t0)) (hz : rest.length ≤ sizeLine)
    (fin : ∀ h' t1, (∀ b o, b ≠ x → h.get? b = some o → h'.get? b = some o) → h'.get? x = some (PySem.HandSPX.excO C t1) → Q .none ⟨h', g, d, t, os⟩) :
    wpAny (model prog w) A (call (.ref u) rest) Q E ⟨h, g, d, t, os⟩ := by
  refine wpAny_call (codeAny_of_tree ?_)
  show wpAny _ A.in1 (callAny (.ref u) ⟨rest, []⟩) _ _ _
  simp only [callAny]
  refine wpAny_bind (wpAny_load hu ?_)
  simp only [kxs_mw, show (Value.type "method-wrapper" == Value.type "method" || Value.type "method-wrapper" == Value.type "builtin_function_or_method" || Value.type "method-wrapper" == Value.type "method-wrapper") = true by decide, if_true]
  refine KFB.if_so (by decide) ?_
  refine wpAny_bind (check_bound_init F.excBase_ValueError.toExcCallFacts hC he rfl ?_)
  refine wpAny_bind (wpAny_pure (wpAny_pure ?_))
  refine ⟨plainId_quiet F.excBase_ValueError.init.plain _, codeAny_builtin F.excBase_ValueError.initEntry ?_⟩
  exact exc_init_tree (cls := .ref C) (t0 := t0) (dv := none) (c2 := .none) (c3 := .none) (b4 := .bool false) he hz fun h' k hx _ => fin h' _ k hx
end
section
variable {P : Program} {w : World} {K : PySem.W.Frag} {mg : Str → Option Value} {base : Heap} {N ps : List Str} {F : NdefX.NF} {fI C cc : Addr} {k j : Nat} {sp : Sp} {p0 p1 p2 p3 p4 p5 : Pos} {m : Str} {rest : List Stmt} {CX : CXT}
theorem fn_init {fd : FuncData} (T : OexC K C) (I0 : InitK P K mg C F fI cc fd) (hbd : F.body = .Expr (.Call (.Attribute (.Call (.Name "super" p0) [] [] p1) "__init__" p2) [.Constant (.str m) j p3] [] p4) p5 :: rest)
    (S : NdefX.NScope N ps ["__class__"] F.scope) (hsc : F.scope.names.lookup ("super" : Str) = some .globalImplicit) (hp : ∃ ar, (F.params.posonlyargs ++ F.params.args).head? = some ar ∧ ps[0]? = some ar.arg)
    (len : ∀ vs H Q E, sp vs H Q E → vs.length = ps.length) (self : ∀ vs H Q E, sp vs H Q E → ∃ a ws, vs = .ref a :: ws ∧ H a = some (exo a C none))
    (hbody : ∀ (A : Around) (outer : List Env) (s : Shared) (H : Hp) (vs : List V) (Q : VK) (E : XK), Room k (A.deeper (NdefX.envF F fI s.heap.objs.size)) → sp vs H Q E →
      ∃ t, PSs (NdefX.ncx CX P w K mg base N F fI A outer s H E) rest t ∧ t { nx := fun _ H' => Q .non H', rt := Q } (NdefX.startF N vs [none]) H)
    (he : ∀ env : Env, ∃ pl : Sem Bool, eval (.Call (.Attribute (.Call (.Name "super" p0) [] [] p1) "__init__" p2) [.Constant (.str m) j p3] [] p4) env = (do
      let ov ← attributeBase (.Call (.Name "super" p0) [] [] p1) "__init__" env (eval (.Call (.Name "super" p0) [] [] p1) env)
      standAt p2.atName
      let (f, first) ← holding [ov] (getMethod ov "__init__" pl)
      callWith p4 f first (backTo p4 (starEach [.Constant (.str m) j p3] env)) []))
    (hsw : ∀ env : Env, swapsWith (.Call (.Attribute (.Call (.Name "super" p0) [] [] p1) "__init__" p2) [.Constant (.str m) j p3] [] p4) none p5.line env = pure false) :
    FnOk P w K mg base CX (k + 1) fI fd ps sp := by
  refine ⟨len, fun A outer s H args us vs Q E hr e0 hb r hsp => ?_⟩
  have hl := len _ _ _ _ hsp
  obtain ⟨oc, od, osl, lk⟩ := I0.fn
  obtain ⟨dV, kV, doc, pm, an, ct, rfl⟩ := I0.fdq
  have KX : K.In s.heap := e0.mod.kin.keeps fun b o e => (e0.bs b o e).1
  have lim : s.heap.NoLimit := e0.mod.nolimit.keeps fun b o e => (e0.bs b o e).1
  obtain ⟨a, ws, rfl, ha⟩ := self _ _ _ _ hsp
  obtain ⟨nm, q, Nc, bs, bm, sn, sub, ab, col, dd, k0, k1, k2, k3, k5, hC, hbm⟩ := T.cls
  obtain ⟨cc1, cd1, sl1, lkc⟩ := I0.cell
  refine ks_codeAny_call_defAt (body := F.body) (binds := ps.zip us) hr.depth (KX _ _ lk) rfl lim (PySem.W.codeRec_of KX I0.code) rfl hb S.nocell (fun y hy => S.par y.1 (List.of_mem_zip hy).1) (fun h₁ hns kp => ?_) S.co S.gen S.kind
  have hCA : NdefX.CellsAt F.cl ["__class__"] [none] s.heap H := by
    rw [I0.cl]
    refine ⟨rfl, fun y c e => ?_, fun x y c e1 e2 => ?_, fun i y e => ?_⟩
    · have hc : c = cc := by
        simp only [List.lookup] at e
        split at e
        · exact (Option.some.inj e).symm
        · cases e
      subst hc
      have b1 := e0.mod.kin _ _ lkc
      exact ⟨(e0.bs _ _ b1).2, some (.ref C), _, KX _ _ lkc, rfl⟩
    · have hx : x = "__class__" := by
        simp only [List.lookup] at e1
        split at e1
        · rename_i h1; exact beq_iff_eq.mp h1
        · cases e1
      have hy : y = "__class__" := by
        simp only [List.lookup] at e2
        split at e2
        · rename_i h1; exact beq_iff_eq.mp h1
        · cases e2
      rw [hx, hy]
    · cases i with
      | zero =>
        simp at e
        subst e
        exact ⟨cc, by simp [List.lookup], fun v z => by simp at z⟩
      | succ i => simp at e
  have I : Inv (NdefX.ncx CX P w K mg base N F fI A outer s H E) [] (NdefX.startF N (.ref a :: ws) [none]) H { s with heap := h₁, toks := s.toks + (ps.zip us).length } := NdefX.inv_startN S hr.hd e0 hl r hCA hns kp
  obtain ⟨t, ht, hq⟩ := hbody A outer s H (.ref a :: ws) Q E (hr.deeper _) hsp
  have fin : ∀ {s' : Shared} {σ' : L2.St} {H' : Hp} {v : V} {u : Value}, Inv (NdefX.ncx CX P w K mg base N F fI A outer s H E) [] σ' H' s' → L2.RelV v u → Q v H' → CE outer P w H s Q u s' :=
    fun {s' σ' H' v u} J rv q => ⟨v, H', J.os, J.bare, J.base, J.hok, rv, q⟩
  -- the rest
  have go : ∀ s1, Inv (NdefX.ncx CX P w K mg base N F fI A outer s H E) [] (NdefX.startF N (.ref a :: ws) [none]) H s1 →
      wpAny (model P w) (A.deeper (NdefX.envF F fI s.heap.objs.size)) (execs rest (NdefX.envF F fI s.heap.objs.size)) (fun f s' => CR CX outer P w H s Q E (.ok (.ret (match f with | .ret v => v | _ => .none))) s')
        (fun e s' => wpAny (model P w) (A.deeper (NdefX.envF F fI s.heap.objs.size)) (leaving (NdefX.envF F fI s.heap.objs.size) e) (fun _ s'' => CR CX outer P w H s Q E (.error e) s'') (fun e' s'' => CR CX outer P w H s Q E (.error e') s'') s') s1 := fun s1 J => by
    refine wpAny_mono (ht.run [] s1 _ H _ J hq) (fun fl s' hs => ?_) fun e s' hs => hs
    cases fl with
    | ret u =>
      obtain ⟨v, σ', H', J, rv, q⟩ := hs
      exact fin J rv q
    | next =>
      obtain ⟨σ', H', J, q⟩ := hs
      exact fin (v := V.non) (u := Value.none) J rfl q
    | brk =>
      obtain ⟨_, _, _, q⟩ := hs
      exact False.elim q
    | cont =>
      obtain ⟨_, _, _, q⟩ := hs
      exact False.elim q
  rw [hbd] at lk ⊢
  obtain ⟨pl, hev⟩ := he (NdefX.envF F fI s.heap.objs.size)

  have KX1 : K.In h₁ := KX.keeps kp
  have hC1 := KX1 _ _ hC
  obtain ⟨t1, hx1⟩ := exo_at I.hok ha
  obtain ⟨ar, har, hps⟩ := hp
  obtain ⟨ccl, cdd, vsc, csl, file, tf, lkf, hvs, hfile⟩ := I0.file
  have hus0 : ∃ u0 ur, us = u0 :: ur ∧ u0 = .ref a := by
    cases r with
    | cons r0 r1 => exact ⟨_, _, rfl, r0⟩
  obtain ⟨u0, ur, rfl, rfl⟩ := hus0
  have hself : (ps.zip (Value.ref a :: ur)).reverse.lookup ar.arg = some (.ref a) := by
    have ndP : ps.Nodup := by
      have q := S.nd.sublist (List.take_sublist (ps.length + (["__class__"] : List Str).length) N)
      rw [S.pre] at q
      exact (List.nodup_append.mp q).1
    exact NdefX.zip_look ndP hps rfl
  have hka : F.scope.names.lookup ar.arg = some .local := S.par _ (List.mem_of_getElem? hps)
  have hkc : F.scope.names.lookup ("__class__" : Str) = some .free := S.frk _ (List.mem_singleton.mpr rfl)
  have hboot : bootBuiltins "super" = some (.type "super") := by decide +kernel
  have hcl : clsIn K C = some { name := nm, bases := bs, mro := .ref C :: bm, ns := Nc, qualname := q, hasDict := true, slotNames := sn, subclasses := sub, abstract := ab, collection := col, hasDel := false } := by unfold clsIn; rw [hC] <;> rfl
  refine ks_wpAt_execs_cons (ks_wpAt_Expr_any (ks_wpAt_MethodCall (pl := pl) (ks_wpAt_super_base (f := fI) (cc := F.c) hsc hkc (by decide) rfl (KX1 _ _ lk) rfl har rfl (KX1 _ _ lkf) rfl hvs hfile I0.top ?_) hev) (by unfold interactive; show (F.scope.kind == _ && _) = false; rw [S.kind]; rfl) (hsw _))
  obtain ⟨mb, hb1, hb2⟩ := e0.mod.blt
  have kb : ∀ b o, base.get? b = some o → h₁.get? b = some o := fun b o e => kp b o (e0.bs b o e).1
  refine ks_loadName_global S.kind hsc (Calls.loadGlobal_builtin (e0.mod.glob.keeps kb) I0.sup (hb1.keeps kb) ((hb2 _ (by decide)).trans hboot) ⟨rfl, ?_⟩)
  refine wpAny_loadName_free S.kind hkc (by show F.cl.lookup _ = _; rw [I0.cl]; rfl) ⟨_, KX1 _ _ lkc, rfl⟩ ?_
  refine wpAny_loadName_local S.kind hka hns hself ?_
  refine ks_wpAny_isType_cls hC1 rfl ⟨rfl, ?_⟩
  refine ks_wpAny_call_super hC1 rfl hx1 rfl (fun c e => by cases e) (looks_mroIn KX1 I0.sub) (fun h2 eso k2 => ?_)
  -- __init__ of what stands above
  have KX2 : K.In h2 := KX1.keeps k2
  have hx2 := k2 _ _ hx1
  have IA : InstAt h2 a { cls := .ref C, dict := none, data := .fields #[.ref t1, .none, .none, .none, .bool false, .none] } C none := ⟨hx2, rfl, rfl, trivial⟩
  have hI : Looks (model P w) h2 (isInstance (.ref a) (.type "ValueError")) true := IA.type.andThen (looks_subIn KX2 I0.ve)
  have habove := I0.above
  unfold ks_superIn at habove
  rw [hcl] at habove
  refine kxs_getMethod kxs_ValueError eso (looks_opaque KX2 I0.noc) (l₀ := _) (fun A Q E s k q => wpAny_bind ((looks_clsIn KX2 hcl) A _ E s k (wpAny_pure q))) rfl KX2 habove hI (ks_ne KX2 IA hcl) (by decide) ?_
  have hu3 : (h2.push (kxs_mw "ValueError.__init__" a)).get? h2.objs.size = some (kxs_mw "ValueError.__init__" a) := Heap.get?_push_at rfl rfl
  refine kxs_callWith (i := "ValueError.__init__") (x := a) rfl ?_
  refine Calls.evalArgs_plain (Calls.spliced_cons (Calls.Constant_str (k := j) (pos := p3) (Calls.spliced_nil ⟨hu3, ?_⟩)))
  have KX3 : K.In (h2.push (kxs_mw "ValueError.__init__" a)) := KX2.keeps fun b o e => Heap.get?_push_of_some _ e
  refine call_mw (KX3 _ _ hC) hu3 (Heap.get?_push_of_some _ hx2) (by rw [sizeLine_eq]; simp) (fun h4 t4 k4 hx4 => ?_)
  refine wpAt_of_wpAny (go _ ?_)
  have J := I.write (t' := 0) (h' := h4) (x := a) (e := a) (o := exo a C none) (by rw [ha]; exact True.intro) (.inl rfl) (fun b o hb e => k4 b o hb (Heap.get?_push_of_some _ (k2 _ _ e))) ⟨_, hx4⟩ (exo_ok hx4)
  have eu : upd H a (exo a C none) = H := by
    funext b
    by_cases hb : b = a
    · rw [hb, upd_same, ha]
    · rw [upd_ne hb]
  rw [eu] at J
  exact J.tok _
end
end DL

/-! DE2: raise. -/
namespace DL
open PySem PySem.Spec PyProof.Rows L2
/-- what such an __init__ does: the fields are kept, one behind another -/
def spI (C : Addr) (fns : List Str) : Sp := fun vs H Q _ => ∃ a ws, vs = .ref a :: ws ∧ ws.length = fns.length ∧ H a = some (exo a C none) ∧
  (fns = [] → Q .non H) ∧ (fns ≠ [] → ∀ d H2, H d = none → d ≠ a → H2 a = some (exo a C (some d)) → H2 d = some (exd d (fns.zip ws).reverse) → (∀ b, b ≠ a → b ≠ d → H2 b = H b) → Q .non H2)
section
variable {X : Cx} {C : Addr} {p1 p2 p3 p4 q1 q2 q3 q4 : Pos} {s0 f1 f2 x1 x2 : Str}
/-- one field -/
theorem init_one (N0 : X.N[0]? = some s0) (N1 : X.N[1]? = some x1) (v0 : Vis X.env.scope s0) (v1 : Vis X.env.scope x1) (T : OexC X.K C) (h1 : PySem.W.findIn X.K (.ref C) f1 = some none)
    (d0 : (s0 == ("__debug__" : Str)) = false := by decide) (c0 : (s0 == ("__classdict__" : Str)) = false := by decide) (d1 : (x1 == ("__debug__" : Str)) = false := by decide) (c1 : (x1 == ("__classdict__" : Str)) = false := by decide) :
    PSs X [.Assign [.Attribute (.Name s0 p1) f1 p2] (.Name x1 p3) p4] (tOst X.K f1 (tVar 0) (tVar 1)) := pss_one (ps_ost (pe_var N0 v0 d0 c0) (pe_var N1 v1 d1 c1))
theorem init_one_q {K : PySem.W.Frag} {a : Addr} {v : V} {r : L2.St} {H : Hp} {D : Ends} {Q : VK} (T : OexC K C) (h1 : PySem.W.findIn K (.ref C) f1 = some none) (ha : H a = some (exo a C none))
    (hD : ∀ σ H', D.nx σ H' = Q .non H') (q : ∀ d H2, H d = none → d ≠ a → H2 a = some (exo a C (some d)) → H2 d = some (exd d [(f1, v)]) → (∀ b, b ≠ a → b ≠ d → H2 b = H b) → Q .non H2) :
    tOst K f1 (tVar 0) (tVar 1) D (some (.ref a) :: some v :: r) H := by
  refine ⟨v, rfl, .ref a, rfl, a, C, rfl, T, h1, .inl ⟨ha, fun dx hn ne => ?_⟩⟩
  rw [hD]
  exact q dx _ hn ne upd_same (by rw [upd_ne ne, upd_same]) fun b n1 n2 => by rw [upd_ne n1, upd_ne n2]
theorem init_two (N0 : X.N[0]? = some s0) (N1 : X.N[1]? = some x1) (N2 : X.N[2]? = some x2) (v0 : Vis X.env.scope s0) (v1 : Vis X.env.scope x1) (v2 : Vis X.env.scope x2) (T : OexC X.K C)
    (d0 : (s0 == ("__debug__" : Str)) = false := by decide) (c0 : (s0 == ("__classdict__" : Str)) = false := by decide) (d1 : (x1 == ("__debug__" : Str)) = false := by decide) (c1 : (x1 == ("__classdict__" : Str)) = false := by decide)
    (d2 : (x2 == ("__debug__" : Str)) = false := by decide) (c2 : (x2 == ("__classdict__" : Str)) = false := by decide) :
    PSs X [.Assign [.Attribute (.Name s0 p1) f1 p2] (.Name x1 p3) p4, .Assign [.Attribute (.Name s0 q1) f2 q2] (.Name x2 q3) q4] (tSeq (tOst X.K f1 (tVar 0) (tVar 1)) (tOst X.K f2 (tVar 0) (tVar 2))) :=
  pss_cons (ps_ost (pe_var N0 v0 d0 c0) (pe_var N1 v1 d1 c1)) (pss_one (ps_ost (pe_var N0 v0 d0 c0) (pe_var N2 v2 d2 c2)))
theorem init_two_q {K : PySem.W.Frag} {a : Addr} {v u : V} {r : L2.St} {H : Hp} {D : Ends} {Q : VK} (T : OexC K C) (h1 : PySem.W.findIn K (.ref C) f1 = some none) (h2 : PySem.W.findIn K (.ref C) f2 = some none) (ha : H a = some (exo a C none))
    (hD : ∀ σ H', D.nx σ H' = Q .non H') (q : ∀ d H2, H d = none → d ≠ a → H2 a = some (exo a C (some d)) → H2 d = some (exd d [(f2, u), (f1, v)]) → (∀ b, b ≠ a → b ≠ d → H2 b = H b) → Q .non H2) :
    tSeq (tOst K f1 (tVar 0) (tVar 1)) (tOst K f2 (tVar 0) (tVar 2)) D (some (.ref a) :: some v :: some u :: r) H := by
  refine ⟨v, rfl, .ref a, rfl, a, C, rfl, T, h1, .inl ⟨ha, fun dx hn ne => ?_⟩⟩
  refine ⟨u, rfl, .ref a, rfl, a, C, rfl, T, h2, .inr ⟨dx, [(f1, v)], upd_same, by rw [upd_ne ne, upd_same], by simp, ?_⟩⟩
  rw [hD]
  exact q dx _ hn ne (by rw [upd_ne (Ne.symm ne), upd_same]) upd_same fun b n1 n2 => by rw [upd_ne n2, upd_ne n1, upd_ne n2]
end
/-! ### the three kinds of __init__ -/
section
variable {P : Program} {w : World} {K : PySem.W.Frag} {mg : Str → Option Value} {base : Heap} {F : NdefX.NF} {fI C cc : Addr} {p0 p1 p2 p3 p4 p5 : Pos} {j : Nat} {m : Str} {a1 a2 a3 a4 b1 b2 b3 b4 : Pos} {s0 f1 f2 x1 x2 : Str} {fd : FuncData}
abbrev supI (m : Str) (p0 p1 p2 p3 p4 p5 : Pos) (j : Nat) : Stmt := .Expr (.Call (.Attribute (.Call (.Name "super" p0) [] [] p1) "__init__" p2) [.Constant (.str m) j p3] [] p4) p5
/-- how the first row of such a def runs, at its own places -/
structure SupE (m : Str) (p0 p1 p2 p3 p4 p5 : Pos) (j : Nat) : Prop where
  ev : ∀ env : Env, ∃ pl : Sem Bool, eval (.Call (.Attribute (.Call (.Name "super" p0) [] [] p1) "__init__" p2) [.Constant (.str m) j p3] [] p4) env = (do
      let ov ← attributeBase (.Call (.Name "super" p0) [] [] p1) "__init__" env (eval (.Call (.Name "super" p0) [] [] p1) env)
      standAt p2.atName
      let (f, first) ← holding [ov] (getMethod ov "__init__" pl)
      callWith p4 f first (backTo p4 (starEach [.Constant (.str m) j p3] env)) [])
  sw : ∀ env : Env, swapsWith (.Call (.Attribute (.Call (.Name "super" p0) [] [] p1) "__init__" p2) [.Constant (.str m) j p3] [] p4) none p5.line env = pure false
theorem fn_init0 (T : OexC K C) (I0 : InitK P K mg C F fI cc fd) (E : SupE m p0 p1 p2 p3 p4 p5 j) (hbd : F.body = [supI m p0 p1 p2 p3 p4 p5 j]) (S : NdefX.NScope [s0, "__class__"] [s0] ["__class__"] F.scope)
    (hsc : F.scope.names.lookup ("super" : Str) = some .globalImplicit) (hp : ∃ ar, (F.params.posonlyargs ++ F.params.args).head? = some ar ∧ s0 = ar.arg) : FnOk P w K mg base (L2.CX P w) 1 fI fd [s0] (spI C []) := by
  refine fn_init (k := 0) T I0 hbd S hsc (by obtain ⟨ar, h1, h2⟩ := hp; exact ⟨ar, h1, by rw [h2]; rfl⟩) (fun vs H Q E ⟨a, ws, e, l, _⟩ => by rw [e, List.length_cons, l]; rfl) (fun vs H Q E ⟨a, ws, e, _, h, _⟩ => ⟨a, ws, e, h⟩) (fun A outer s H vs Q E' _ ⟨a, ws, e, l, ha, q, _⟩ => ?_) E.ev E.sw
  exact ⟨tNext, pss_nil, q rfl⟩
theorem fn_init1 (T : OexC K C) (I0 : InitK P K mg C F fI cc fd) (E : SupE m p0 p1 p2 p3 p4 p5 j) (hbd : F.body = [supI m p0 p1 p2 p3 p4 p5 j, .Assign [.Attribute (.Name s0 a1) f1 a2] (.Name x1 a3) a4]) (S : NdefX.NScope [s0, x1, "__class__"] [s0, x1] ["__class__"] F.scope)
    (hsc : F.scope.names.lookup ("super" : Str) = some .globalImplicit) (hp : ∃ ar, (F.params.posonlyargs ++ F.params.args).head? = some ar ∧ s0 = ar.arg) (h1 : PySem.W.findIn K (.ref C) f1 = some none)
    (d0 : (s0 == ("__debug__" : Str)) = false := by decide) (c0 : (s0 == ("__classdict__" : Str)) = false := by decide) (d1 : (x1 == ("__debug__" : Str)) = false := by decide) (c1 : (x1 == ("__classdict__" : Str)) = false := by decide) :
    FnOk P w K mg base (L2.CX P w) 1 fI fd [s0, x1] (spI C [f1]) := by
  refine fn_init (k := 0) T I0 hbd S hsc (by obtain ⟨ar, h1, h2⟩ := hp; exact ⟨ar, h1, by rw [h2]; rfl⟩) (fun vs H Q E ⟨a, ws, e, l, _⟩ => by rw [e, List.length_cons, l]; rfl) (fun vs H Q E ⟨a, ws, e, _, h, _⟩ => ⟨a, ws, e, h⟩) (fun A outer s H vs Q E' _ ⟨a, ws, e, l, ha, _, q⟩ => ?_) E.ev E.sw
  subst e
  obtain ⟨v, rfl⟩ : ∃ v, ws = [v] := by
    match ws, l with
    | [v], _ => exact ⟨v, rfl⟩
  exact ⟨_, init_one rfl rfl (.inl (S.par _ List.mem_cons_self)) (.inl (S.par _ (.tail _ List.mem_cons_self))) T h1 d0 c0 d1 c1, init_one_q T h1 ha (fun _ _ => rfl) (q (by simp))⟩
theorem fn_init2 (T : OexC K C) (I0 : InitK P K mg C F fI cc fd) (E : SupE m p0 p1 p2 p3 p4 p5 j) (hbd : F.body = [supI m p0 p1 p2 p3 p4 p5 j, .Assign [.Attribute (.Name s0 a1) f1 a2] (.Name x1 a3) a4, .Assign [.Attribute (.Name s0 b1) f2 b2] (.Name x2 b3) b4]) (S : NdefX.NScope [s0, x1, x2, "__class__"] [s0, x1, x2] ["__class__"] F.scope)
    (hsc : F.scope.names.lookup ("super" : Str) = some .globalImplicit) (hp : ∃ ar, (F.params.posonlyargs ++ F.params.args).head? = some ar ∧ s0 = ar.arg) (h1 : PySem.W.findIn K (.ref C) f1 = some none) (h2 : PySem.W.findIn K (.ref C) f2 = some none)
    (d0 : (s0 == ("__debug__" : Str)) = false := by decide) (c0 : (s0 == ("__classdict__" : Str)) = false := by decide) (d1 : (x1 == ("__debug__" : Str)) = false := by decide) (c1 : (x1 == ("__classdict__" : Str)) = false := by decide)
    (d2 : (x2 == ("__debug__" : Str)) = false := by decide) (c2 : (x2 == ("__classdict__" : Str)) = false := by decide) :
    FnOk P w K mg base (L2.CX P w) 1 fI fd [s0, x1, x2] (spI C [f1, f2]) := by
  refine fn_init (k := 0) T I0 hbd S hsc (by obtain ⟨ar, h1, h2⟩ := hp; exact ⟨ar, h1, by rw [h2]; rfl⟩) (fun vs H Q E ⟨a, ws, e, l, _⟩ => by rw [e, List.length_cons, l]; rfl) (fun vs H Q E ⟨a, ws, e, _, h, _⟩ => ⟨a, ws, e, h⟩) (fun A outer s H vs Q E' _ ⟨a, ws, e, l, ha, _, q⟩ => ?_) E.ev E.sw
  subst e
  obtain ⟨v, u, rfl⟩ : ∃ v u, ws = [v, u] := by
    match ws, l with
    | [v, u], _ => exact ⟨v, u, rfl⟩
  exact ⟨_, init_two rfl rfl rfl (.inl (S.par _ List.mem_cons_self)) (.inl (S.par _ (.tail _ List.mem_cons_self))) (.inl (S.par _ (.tail _ (.tail _ List.mem_cons_self)))) T d0 c0 d1 c1 d2 c2, init_two_q T h1 h2 ha (fun _ _ => rfl) (q (by simp))⟩
end
end DL

/-! DE3: raise, the statement. -/
namespace DL
open PySem PySem.Spec PyProof.Rows L2
/-- the class x keeps the fields fns, and may be raised -/
def ExcK (P : Program) (w : World) (K : PySem.W.Frag) (mg : Str → Option Value) (base : Heap) (x : Str) (fns : List Str) : Prop :=
  ∃ C fI fd ps, mg x = some (.ref C) ∧ excAt K x = some C ∧ OexC K C ∧ PySem.W.findIn K (.ref C) "__init__" = some (some (.ref fI)) ∧ PySem.W.typeIn K (.ref fI) = some (.type "function") ∧
    FnOk P w K mg base (L2.CX P w) 1 fI fd ps (spI C fns) ∧ Binds K fd ps []
def exnOf (x : Str) (fns : List Str) (ds : List PyData) : Exn := ⟨x, ((fns.map PyData.str).zip ds).reverse⟩
def sRaise (x : Str) (fns : List Str) (f : En → Rs (List PyData)) : En → SRes := fun ρ => eS ρ (f ρ) fun ds => if ds.length = fns.length then .ex (exnOf x fns ds) ρ else .bad
theorem RpFs.app {K : PySem.W.Frag} {H : Hp} : ∀ {a b : List (Str × V)} {c d : List (PyData × PyData)}, RpFs K H a c → RpFs K H b d → RpFs K H (a ++ b) (c ++ d)
  | _, _, _, _, .nil, t => t
  | _, _, _, _, .cons r s, t => .cons r (RpFs.app s t)
theorem RpFs.rev {K : PySem.W.Frag} {H : Hp} : ∀ {a : List (Str × V)} {c : List (PyData × PyData)}, RpFs K H a c → RpFs K H a.reverse c.reverse
  | _, _, .nil => .nil
  | _, _, .cons r s => by
    rw [List.reverse_cons, List.reverse_cons]
    exact (RpFs.rev s).app (.cons r .nil)
theorem RpFs.zip {K : PySem.W.Frag} {H : Hp} : ∀ (fns : List Str) {vs : List V} {ds : List PyData}, RpAll K H vs ds → RpFs K H (fns.zip vs) ((fns.map PyData.str).zip ds)
  | [], _, _, _ => .nil
  | _ :: _, _, _, .nil => .nil
  | _ :: fns, _, _, .cons r t => .cons r (RpFs.zip fns t)
theorem no_pass {X : Cx} : Passes (L2.CX X.prog X.w) X (fun _ _ _ => False) := fun pins σ H s e s' I c => by
  obtain ⟨_, _, _, _, _, _, _, _, _, _, _, _, q⟩ := c
  exact q.elim
section
variable {X : Cx} {W : WX} {x : Str} {fns : List Str} {e : Expr} {es : List Expr} {f : En → Rs (List PyData)} {p pos pos' : Pos}
theorem ds_raise (E : ExcK X.prog X.w X.K X.mg X.base x fns) (h0 : fns ≠ []) (hr : Room 2 X.A) (hc : X.calm = true) (tk : Takes X W) (ha : DA X W (e :: es) f) (hg : Gl X x := by rfl) (hdb : (x == ("__debug__" : Str)) = false := by decide) (hlen : fns.length ≤ 1000 := by decide)
    (he : starEach (e :: es) X.env = (false, eval e X.env) :: starEach es X.env := by rfl) (hpl : (backTo pos (starEach es X.env)).any (·.1) = false := by rfl) :
    DS X W (.Raise (some (.Call (.Name x p) (e :: es) [] pos)) none pos') (sRaise x fns f) := by
  obtain ⟨C, fI, fd, ps, hm, hx, T, iC, tI, F1, hb⟩ := E
  refine PS.imp (ps_raise hc tk (pmk_oex T iC tI F1 hr hb .nil no_pass hg hm ha hdb he hpl)) fun D σ H ⟨ρ, O, H0, s, q⟩ => ?_
  refine ⟨ρ, O, H0, s, ?_⟩
  unfold sRaise at q
  cases ef : f ρ with
  | bad => rw [ef, eS_bad] at q; exact q.elim
  | ex x => rw [ef, eS_ex] at q; exact fun H' c dd g r => q c dd σ H' (s.grow g) r
  | ok ds =>
    rw [ef, eS_ok] at q
    intro H1 vs g1 r1
    split at q
    · rename_i hl
      have hlv : vs.length = fns.length := r1.length.trans hl
      refine ⟨?_, fun a hn => ?_⟩
      · omega
      · rw [List.append_nil]
        refine ⟨a, vs, rfl, hlv, upd_same, fun z => absurd z h0, fun _ d H2 hd hda e1 e2 e3 => ⟨rfl, d, _, e1, e2, ?_, ?_⟩⟩
        · rw [upd_ne hda] at hd; exact hd
        · have hd1 : H1 d = none := by rw [upd_ne hda] at hd; exact hd
          have gr : Gr H1 (upd (del H2 a) d (.xd (fns.zip vs).reverse)) := fun b o eb => by
            have nb : b ≠ d := ne_of_none eb hd1
            have na : b ≠ a := ne_of_none eb hn
            rw [upd_ne nb, del_ne na, e3 b na nb, upd_ne na]
            exact eb
          have s1 := (s.grow g1)
          refine q (.ref C) (some d) σ _ (s1.grow gr) ⟨C, rfl, hx, .inl ⟨d, (fns.zip vs).reverse, rfl, ?_, ?_⟩⟩
          · rw [hide_out (s1.fresh hd1), upd_same]
          · exact ((RpFs.zip fns r1).rev).mono (hide_same _ gr)
    · exact q.elim
end
end DL

/-! DE4: raise of an exception without fields. -/
namespace DL
open PySem PySem.Spec PyProof.Rows L2
section
variable {X : Cx} {W : WX} {x : Str} {p pos pos' : Pos}
/-- made, without fields: the heap as it was -/
theorem bare_made {pins : List (Addr × Obj)} {σ : L2.St} {H1 : Hp} {hp hp2 h2 : Heap} {g1 g2 : Array GenState} {d1 d2 : Drawn} {t1 t2 : Nat} {os1 os2 : OsState} {a C : Addr} (I1 : Inv X pins σ H1 ⟨hp, g1, d1, t1, os1⟩)
    (ha : hp.objs.size ≤ a) (k : ∀ b o, hp.get? b = some o → hp2.get? b = some o) (un : Un (frs X.stack) [] (upd H1 a (exo a C none)) (upd H1 a (exo a C none)) hp2 h2) (hok : HOk X.prog X.w (upd H1 a (exo a C none)) h2) (ho : os2 = os1) (hb : AllBare g2) :
    ∃ (t0 : Addr) (G : Heap), Inv X pins σ H1 ⟨G, g2, d2, t2, os2⟩ ∧ (∀ b o, G.get? b = some o → h2.get? b = some o) ∧ G.get? a = none ∧ h2.get? a = some (PySem.HandSPX.excO C t0) ∧ H1 a = none := by
  obtain ⟨t0, hoe⟩ := exo_at (e := a) (C := C) (d := none) hok upd_same
  have hn : H1 a = none := I1.hok.fresh ha
  obtain ⟨G, l1, l2⟩ := restrict h2 fun b => !(b == a)
  have gk : ∀ b, b ≠ a → G.get? b = h2.get? b := fun b z => l1 b (by simpa using z)
  have ge : G.get? a = none := l2 a (by simp)
  have old : ∀ {b : Addr} {o : Obj}, hp.get? b = some o → b ≠ a := fun {b o} z e => by
    have := Heap.lt_size z
    rw [e] at this
    exact absurd ha (Nat.not_le.mpr this)
  have up : ∀ {b : Addr}, b ≠ a → ∀ {r : Option HO}, H1 b = r → upd H1 a (exo a C none) b = r := fun z _ n => by rw [upd_ne z]; exact n
  have U : Un (frs X.stack) [] H1 H1 hp G :=
    ⟨fun b o z n f1 f2 => (gk b (old z)).trans (un.keep b o (k b o z) (up (old z) n) f1 f2),
     fun b o z n f1 f2 => by
      obtain ⟨sl, q⟩ := un.slot b o (k b o z) (up (old z) n) f1 f2
      exact ⟨sl, (gk b (old z)).trans q⟩,
     fun b o z n f1 => n,
     fun b o z f1 => by
      obtain ⟨o', q⟩ := un.there b o (k b o z) f1
      exact ⟨o', (gk b (old z)).trans q⟩,
     fun b xs z => z, fun b o v z => z, fun b ps z => ⟨#[], by rw [z]; simp⟩⟩
  have hok1 : HOk X.prog X.w H1 G := fun b o z => by
    have nb : b ≠ a := ne_of_none z hn
    refine (hok b o (up nb z)).stay (fun c v hc y => ?_) (fun c hc => ?_) (fun c xs hc => ?_)
    · have nc : c ≠ a := by
        rcases hc with hc | hc
        · rw [hc]; exact nb
        · intro e
          rw [e, upd_same] at hc
          exact exo_own (Option.some.inj hc)
      rw [gk c nc]
      exact y
    · by_cases e : c = a
      · rw [e, upd_same] at hc
        exact absurd (Option.some.inj hc) exo_own
      · rwa [upd_ne e] at hc
    · by_cases e : c = a
      · rw [e, upd_same] at hc
        exact absurd (Option.some.inj hc) exo_tup
      · rwa [upd_ne e] at hc
  exact ⟨t0, G, I1.call' (ch := []) ho U hok1 hb (fun b z => absurd z (by simp)), fun b o z => by
    by_cases e : b = a
    · rw [e, ge] at z; cases z
    · rw [← gk b e]; exact z, ge, hoe, hn⟩
theorem pmk_bare {C fI : Addr} {k : Nat} {fd : FuncData} {ps : List Str} (T : OexC X.K C) (iC : PySem.W.findIn X.K (.ref C) "__init__" = some (some (.ref fI))) (tI : PySem.W.typeIn X.K (.ref fI) = some (.type "function"))
    (F1 : FnOk X.prog X.w X.K X.mg X.base (L2.CX X.prog X.w) k fI fd ps (spI C [])) (hr : Room (k + 1) X.A) (hb : Binds X.K fd ps []) (hg : Gl X x) (hm : X.mg x = some (.ref C)) (hdb : (x == ("__debug__" : Str)) = false) :
    PMk X (.Call (.Name x p) [] [] pos) (fun _ H Q => Q (.ref C) none H) := by
  intro pins s σ H Q I h
  obtain ⟨nm, q, N, bs, bm, sn, sub, ab, col, dd, k0, k1, k2, k3, k5, hC, hbm⟩ := T.cls
  refine wpAny_Call_Name_kw (ld_glob I hg hm ?_ hdb)
  refine PySem.W.callWith_K0 I.kIn T.kC ?_
  obtain ⟨hp, g, dr, tk, os⟩ := s
  have hsz : hp.objs.size ≤ hp.objs.size + 1 := by omega
  have hn : H (hp.objs.size + 1) = none := I.hok.fresh hsz
  have kk : ∀ b o, hp.get? b = some o → ((hp.push (PySem.W.kdv_tup [])).push (PySem.HandSPX.excO C hp.objs.size)).get? b = some o := fun b o e => by
    exact Heap.get?_push_of_some _ (Heap.get?_push_of_some _ e)
  have hget : ((hp.push (PySem.W.kdv_tup [])).push (PySem.HandSPX.excO C hp.objs.size)).get? (hp.objs.size + 1) = some (PySem.HandSPX.excO C hp.objs.size) := by
    heap_get
  have I2 := I.laid (t' := tk) (a := hp.objs.size + 1) (o := exo (hp.objs.size + 1) C none) (h' := (hp.push (PySem.W.kdv_tup [])).push (PySem.HandSPX.excO C hp.objs.size)) kk hsz (exo_ok hget)
  have hq : spI C [] [.ref (hp.objs.size + 1)] (upd H (hp.objs.size + 1) (exo (hp.objs.size + 1) C none)) (fun v H2 => v = .non ∧ H2 = upd H (hp.objs.size + 1) (exo (hp.objs.size + 1) C none)) (fun _ _ _ => False) :=
    ⟨_, [], rfl, rfl, upd_same, fun _ => ⟨rfl, rfl⟩, fun z => absurd rfl z⟩
  have r2 : Vals [V.ref (hp.objs.size + 1)] [Value.ref (hp.objs.size + 1)] := .cons rfl .nil
  have hl : ([Value.ref (hp.objs.size + 1)] ++ [] : List Value).length = ps.length := (F1.len _ _ _ _ hq ▸ rfl)
  refine wpAny_call (PySem.HandSPX.call_own F.excBase_ValueError (fun Y => PySem.HandSPX.refsVE_contains Y bm hbm) (I.kIn _ _ hC) (PySem.W.looks_findIn I.kIn iC) (fun self => PySem.W.bind_fn I.kIn self tI) (Nat.zero_le _)
    (codeAny_mono (F1.run _ X.stack _ _ ⟨[Value.ref (hp.objs.size + 1)], []⟩ [Value.ref (hp.objs.size + 1)] _ _ (fun _ _ _ => False) (hr.make C [] []) (I2.env0.make C [] []) (hb _ [Value.ref (hp.objs.size + 1)] I2.kIn hl) r2 hq) fun r s' hq' => ?_))
  cases r with
  | error er => exact no_pass pins σ _ _ er s' I2 hq'
  | ok fl =>
    cases fl with
    | next => exact hq'.elim
    | brk => exact hq'.elim
    | cont => exact hq'.elim
    | ret u =>
      obtain ⟨v, H2, os2, bare2, un2, hok2, rv, ev, eH⟩ := hq'
      subst ev
      subst eH
      obtain ⟨h2, g2, d2, t2, os'⟩ := s'
      obtain ⟨t0, G, J, kG, ge, hoe, na⟩ := bare_made (d2 := d2) (t2 := t2) I hsz kk un2 hok2 os2 bare2
      exact ⟨rv, _, _, _, ⟨G, g2, d2, t2, os'⟩, H, .ref C, none, rfl, J, kG, ge, hoe, ⟨rfl, rfl⟩, rfl, rfl, na, rfl, bare2, raises_own T.exC T.tyC, h⟩
def sRaise0 (x : Str) : En → SRes := fun ρ => .ex ⟨x, []⟩ ρ
theorem ds_raise0 (E : ExcK X.prog X.w X.K X.mg X.base x []) (hr : Room 2 X.A) (hc : X.calm = true) (tk : Takes X W) (hg : Gl X x := by rfl) (hdb : (x == ("__debug__" : Str)) = false := by decide) :
    DS X W (.Raise (some (.Call (.Name x p) [] [] pos)) none pos') (sRaise0 x) := by
  obtain ⟨C, fI, fd, ps, hm, hx, T, iC, tI, F1, hb⟩ := E
  refine PS.imp (ps_raise hc tk (pmk_bare T iC tI F1 hr hb hg hm hdb)) fun D σ H ⟨ρ, O, H0, s, q⟩ => ?_
  exact q (.ref C) none σ H s ⟨C, rfl, hx, .inr ⟨rfl, rfl⟩⟩
end
end DL

/-! DE5: try, any number of clauses; in a clause's suite the caught exception is tracked, it is data as all else. -/
namespace DL
open PySem PySem.Spec PyProof.Rows L2
/-- an exception as data -/
def exD (e : Exn) : PyData := .dict ((.bool true, .str e.cls) :: e.fs)
theorem exT_ok {P : Program} {w : World} {H : Hp} {h : Heap} {a : Addr} {oe : Obj} (e : h.get? a = some oe) : ObjOk P w H h a (ExT a oe) :=
  ⟨e, ⟨oe, e⟩, fun h1 h2 z k => k _ z⟩
theorem exT_own {a b : Addr} {oe : Obj} : ExT a oe ≠ .own b := fun z => by
  have z' : HO.ext _ = HO.own b := z
  cases z'
theorem exT_tup {a : Addr} {oe : Obj} {xs : List V} : ExT a oe ≠ .tup xs := fun z => by
  have z' : HO.ext _ = HO.tup xs := z
  cases z'
section
variable {X : Cx} {pins : List (Addr × Obj)} {σ : L2.St} {H : Hp} {s sI : Shared}
/-- an object that came after the entry is tracked from now on -/
theorem track {a : Addr} {oe : Obj} (J : Inv X pins σ H sI) (I : Inv X pins σ H s) (na : sI.heap.get? a = none) (hg : s.heap.get? a = some oe) (hn : H a = none) (nF : a ∉ X.fs) (hx : X.ex = []) : Inv X pins σ (upd H a (ExT a oe)) s := by
  have there : ∀ {b : Addr} {o : Obj}, sI.heap.get? b = some o → b ≠ a := fun {b o} z e => by rw [e, na] at z; cases z
  have n0 : ∀ {b : Addr} {o : Obj}, X.s_0.heap.get? b = some o → b ≠ a := fun {b o} z => by
    obtain ⟨o', q⟩ := J.base.there b o z (by rw [hx]; exact List.not_mem_nil)
    exact there q
  have up : ∀ {b : Addr} {r : Option HO}, b ≠ a → H b = r → upd H a (ExT a oe) b = r := fun z q => by rw [upd_ne z]; exact q
  have loc : X.env.locals ≠ a := by
    obtain ⟨m, ⟨o, es, ep, ho, _⟩, _⟩ := J.loc
    exact there ho
  refine ⟨I.ok, I.os, I.bare, ⟨I.base.keep, I.base.slot, fun b o z n e => up (n0 z) (I.base.free b o z n e), I.base.there, fun b xs z => ?_, fun b o u z => ?_, fun b ps z => ?_⟩, I.loc, I.cell, up loc I.free, fun x c e => ?_, fun p hp => ?_, fun b o z => ?_, I.len⟩
  · have q := I.base.tups b xs z
    exact up (ne_of_none q hn) q
  · have q := I.base.frzs b o u z
    exact up (ne_of_none q hn) q
  · obtain ⟨more, q⟩ := I.base.tbls b ps z
    exact ⟨more, up (ne_of_none q hn) q⟩
  · obtain ⟨v, o, ho, _⟩ := J.cell x c e
    exact up (there ho) (I.freeC x c e)
  · obtain ⟨e, n, r⟩ := I.pin p hp
    obtain ⟨e2, _⟩ := J.pin p hp
    exact ⟨e, up (there e2) n, r⟩
  · by_cases hb : b = a
    · subst hb
      rw [upd_same] at z
      cases z
      exact exT_ok hg
    · rw [upd_ne hb] at z
      refine (I.hok b o z).stay (fun c u _ q => q) (fun c q => ?_) (fun c xs q => ?_)
      · exact up (ne_of_none q hn) q
      · exact up (ne_of_none q hn) q
/-- into a suite -/
theorem to_suite {a : Addr} (I : Inv X pins σ H s) : Inv (X.suite a (X.pn ++ pins)) [] σ H s :=
  ⟨I.ok.suite _ _, I.os, I.bare, I.base, I.loc, I.cell, I.free, I.freeC, fun p hp => I.pin p (by rw [List.append_nil] at hp; exact hp), I.hok, I.len⟩
/-- out of it -/
theorem of_suite {a : Addr} {pn' : List (Addr × Obj)} (I : Inv (X.suite a (X.pn ++ pins)) pn' σ H s) (ok : X.Ok) : Inv X pins σ H s :=
  ⟨ok, I.os, I.bare, I.base, I.loc, I.cell, I.free, I.freeC, fun p hp => I.pin p (List.mem_append_left _ hp), I.hok, I.len⟩
end
/-! ### the clauses -/
/-- a clause: which classes it takes, its name's slot, its suite -/
structure Cls where
  tbl : List (Str × Bool)
  slot : Option Nat
  run : En → SRes
def clr (i : Option Nat) (ρ : En) : En := match i with
  | some i => ρ.set i none
  | none => ρ
def aft (i : Option Nat) : SRes → SRes
  | .nx ρ => .nx (clr i ρ)
  | .brk ρ => .brk (clr i ρ)
  | .ct ρ => .ct (clr i ρ)
  | .ret d => .ret d
  | .ex _ _ => .bad
  | .bad => .bad
def inn (i : Option Nat) (e : Exn) (ρ : En) : En := match i with
  | some i => ρ.set i (some (.val (exD e)))
  | none => ρ
def hndl : List Cls → Exn → En → SRes
  | [], e, ρ => .ex e ρ
  | c :: cs, e, ρ => match c.tbl.lookup e.cls with
    | some true => aft c.slot (c.run (inn c.slot e ρ))
    | some false => hndl cs e ρ
    | none => .bad
def sTry (cs : List Cls) (g : En → SRes) : En → SRes := fun ρ => match g ρ with
  | .ex e ρ' => hndl cs e ρ'
  | r => r
abbrev W0 : WX := fun _ _ _ _ => False
/-- what a clause's table says is so -/
def TblOk (K : PySem.W.Frag) (c : Value) (t : List (Str × Bool)) : Prop := ∀ nm b C, t.lookup nm = some b → excAt K nm = some C → PySem.W.exmOne K (.ref C) c = some b
inductive CsOk (X : Cx) : List ExceptHandler → List Cls → Prop
  | nil : CsOk X [] []
  | as {x n : Str} {c : Value} {i : Nat} {t : List (Str × Bool)} {g : En → SRes} {b₀ : Stmt} {suite : List Stmt} {np pos' : Pos} {hds : List ExceptHandler} {l : List Cls} (hi : X.N[i]? = some n) (hln : X.env.kindOf n = some .local) (hc : Names X x c) (ht : TblOk X.K c t)
      (hsu : ∀ (a : Addr) (pn : List (Addr × Obj)), DSs (X.suite a pn) W0 (b₀ :: suite) g) (r : CsOk X hds l) : CsOk X (.ExceptHandler (some (.Name x np)) (some n) (b₀ :: suite) pos' :: hds) (⟨t, some i, g⟩ :: l)
  | only {x : Str} {c : Value} {t : List (Str × Bool)} {g : En → SRes} {b₀ : Stmt} {suite : List Stmt} {np pos' : Pos} {hds : List ExceptHandler} {l : List Cls} (hc : Names X x c) (ht : TblOk X.K c t)
      (hsu : ∀ (a : Addr) (pn : List (Addr × Obj)), DSs (X.suite a pn) W0 (b₀ :: suite) g) (r : CsOk X hds l) : CsOk X (.ExceptHandler (some (.Name x np)) none (b₀ :: suite) pos' :: hds) (⟨t, none, g⟩ :: l)
/-- what the body's exception finds -/
def wTry (X : Cx) (W : WX) (D : Ends) (cs : List Cls) : WX := fun cls dd σ H => ∃ ρ O H0 e, SR X.K O H0 H σ ρ ∧ ExR X.K X.mg (hide H (O ++ owned σ ρ)) cls dd e ∧ SK X.K X.mg W O H0 D (hndl cs e ρ)
theorem SK.aft_as {K : PySem.W.Frag} {mg : Str → Option Value} {W : WX} {O : List Addr} {H0 : Hp} {D : Ends} {i : Nat} {r : SRes} (h : SK K mg W O H0 D (aft (some i) r)) :
    SK K mg W0 O H0 { nx := fun σ H => D.nx (σ.set i none) H, rt := D.rt, bk := fun σ H => D.bk (σ.set i none) H, ct := fun σ H => D.ct (σ.set i none) H } r := by
  cases r with
  | nx ρ => exact fun σ H s => h _ H s.setN
  | brk ρ => exact fun σ H s => h _ H s.setN
  | ct ρ => exact fun σ H s => h _ H s.setN
  | ret d => exact h
  | ex e ρ => exact h.elim
  | bad => exact h.elim
theorem SK.aft_only {K : PySem.W.Frag} {mg : Str → Option Value} {W : WX} {O : List Addr} {H0 : Hp} {D : Ends} {r : SRes} (h : SK K mg W O H0 D (aft none r)) : SK K mg W0 O H0 D r := by
  cases r with
  | nx ρ => exact h
  | brk ρ => exact h
  | ct ρ => exact h
  | ret d => exact h
  | ex e ρ => exact h.elim
  | bad => exact h.elim
section
variable {X : Cx} {W : WX} {body : List Stmt} {h₀ : ExceptHandler} {hds : List ExceptHandler} {cs : List Cls} {pos : Pos} {gb : En → SRes}
theorem ds_try (hs : X.stack = X.env :: X.outer) (hf : X.env.frame = some X.env.locals) (hex : X.ex = []) (hN : X.N.Nodup) (tk : Takes X W)
    (hb : ∀ (W : WX) (pn : List (Addr × Obj)) (xe : Value → Shared → Prop), Takes (X.tr pn xe) W → PassesOwn (model X.prog X.w) X.A X.env xe → DSs (X.tr pn xe) W body gb)
    (hh : CsOk X (h₀ :: hds) cs) : DS X W (.Try body (h₀ :: hds) [] [] pos) (sTry cs gb) := by
  refine ⟨fun pins s σ H D I h => ?_⟩
  have ok := I.ok
  have hfr : X.A.frames = some (X.env :: X.outer) := ok.frames.trans (congrArg some hs)
  have h' : tS X.K X.mg (wTry X W D cs) gb D σ H := by
    obtain ⟨ρ, O, H0, sr, q⟩ := h
    refine ⟨ρ, O, H0, sr, ?_⟩
    unfold sTry at q
    cases e : gb ρ with
    | ex x ρ' => rw [e] at q; exact fun c dd σ' H' s' r => ⟨ρ', O, H0, x, s', r, q⟩
    | nx ρ' => rw [e] at q; exact q
    | brk ρ' => rw [e] at q; exact q
    | ct ρ' => rw [e] at q; exact q
    | ret d => rw [e] at q; exact q
    | bad => rw [e] at q; exact q
  let M := model X.prog X.w
  let xe : Value → Shared → Prop := fun e s₁ => wpAny M X.A (noteFrame e X.env) (fun _ s₂ => wpAny M X.A (setFlight e none) (fun _ s₃ => wpAny M X.A (handleBy e X.env (h₀ :: hds)) (SP X pins D) X.xe s₃) X.xe s₂) X.xe s₁
  refine wpAny_Try_except (wpAny_mono ((hb (wTry X W D cs) (X.pn ++ pins) xe (fun u s' xx => ?_) PassesOwn.looking).run [] s σ H D (I.toTry _) h') (fun f s1 hsp => ?_) fun e s1 he => he)
  · obtain ⟨a, B, sI, pins', σ', H', cls, d, rfl, J', nb, up, sky, na, os, ag, ρ, O, H0, e, sr, er, q⟩ := xx
    have J : Inv X pins σ' H' sI := J'.ofTry ok
    have sky' : Sky B (X.env :: X.outer) a (Zc cls d) X.env.locals s'.heap := hs ▸ sky
    show wpAny M X.A (noteFrame (.ref a) X.env) _ _ _
    refine Sky.land Zc.steady hfr hf sky' fun h3 fl3 up3 => ?_
    have J3 : Inv X pins σ' H' { s' with heap := h3 } := J.landed nb fl3.1 (up.trans up3) os ag
    obtain ⟨oe3, vs3, he3, hz3, hd3⟩ := fl3.there
    have nfr : a ∉ frs (X.env :: X.outer) := fun hm => by
      obtain ⟨_, o', e', hnf⟩ := fl3.2.2.1.mem hm
      rw [he3] at e'
      cases e'
      exact hnf _ hd3
    have nF : a ∉ X.fs := fun hm => nfr (by
      obtain ⟨v, hv, r⟩ := List.mem_filterMap.mp hm
      exact List.mem_filterMap.mpr ⟨v, List.mem_cons_of_mem _ hv, r⟩)
    have nI : sI.heap.get? a = none := by
      cases z : sI.heap.get? a with
      | none => rfl
      | some o =>
        have y := nb a o z (hs ▸ nfr)
        rw [fl3.2.1] at y
        cases y
    have S3 := to_suite (a := a) J3
    obtain ⟨C, hcl, hxc, hfl⟩ := er
    subst hcl
    have go : ∀ {hds' : List ExceptHandler} {l' : List Cls}, CsOk X hds' l' → SK X.K X.mg W O H0 D (hndl l' e ρ) → wpAny M X.A (handleBy (.ref a) X.env hds') (SP X pins D) X.xe { s' with heap := h3 } := by
      intro hds' l' hk
      induction hk with
      | nil =>
        intro q
        refine wpAny_handleBy_nil ?_
        obtain ⟨_, _, _, oe, vs, T, oT, ts', he, hz, hd, h1, _⟩ := id fl3
        unfold PySem.passOn
        refine wpAny_bind (wpAny_field he hd h1 ?_)
        rw [if_neg (fun z : (Value.ref T == Value.none) = true => by simp at z)]
        have fin : wpAny M X.A (setFlight (.ref a) X.env.frame) (fun _ s4 => wpAny M X.A (throw (.ref a) : Sem Flow) (SP X pins D) X.xe s4) X.xe { s' with heap := h3 } := by
          rw [hf]
          exact HandSPX.setFlight_upZ fl3 fun h4 hh4 up4 => wpAny_throw (tk _ _ ⟨a, B, sI, pins, σ', H', .ref C, d, rfl, J, nb, (up.trans up3).trans up4, .inr (.inr (hs.symm ▸ hh4)), na, os, ag, q _ _ _ _ sr ⟨C, rfl, hxc, hfl⟩⟩)
        first
          | exact wpAny_bind fin
          | exact wpAny_bind (wpAny_pure (wpAny_bind fin))
      | @as x n c i t g b₀ suite np pos' hds2 l2 hi hln hc ht hsu r ih =>
        intro q
        unfold hndl at q
        cases el : t.lookup e.cls with
        | none => rw [el] at q; exact q.elim
        | some b =>
          rw [el] at q
          refine wpAny_handleBy_cons (codeAny_handlers_test ?_) (by intro q; cases q)
          have LT : PySem.W.Looks M h3 (typeOf (.ref a)) (.ref C) := fun A Q E s k q => wpAny_typeOf_ref (k _ _ he3) (hz3.1.symm ▸ q)
          have LM := PySem.W.exm_one (M := M) J3.kIn LT (ht _ _ _ el hxc)
          have test : ∀ {Q : Value → Shared → Prop} {E : Value → Shared → Prop}, Q c { s' with heap := h3 } → wpAny M (X.A.mark (some (.ref a))) (eval (.Name x np) X.env) Q E { s' with heap := h3 } := fun {Q E} z => by
            obtain ⟨hg, hdbg, hm | ⟨hm, hv, hnn⟩⟩ := hc
            · exact ld_glob (X := X.suite a (X.pn ++ pins)) S3 hg hm z hdbg
            · exact ld_blt (X := X.suite a (X.pn ++ pins)) S3 hg hm hv z hnn hdbg
          refine test (LM.here ?_)
          cases b with
          | false => exact ih q
          | true =>
            refine codeAny_handlers_suite_as (HandSPX.lands_againZ fl3 fun h4 fl4 up4 => ?_)
            have J4 : Inv X pins σ' H' { s' with heap := h4 } := J.landed nb fl4.1 ((up.trans up3).trans up4) os ag
            obtain ⟨oe4, vs4, he4, hz4, hd4⟩ := fl4.there
            have T4 := to_suite (a := a) (track J J4 nI he4 na nF hex)
            have gr : Gr H' (upd H' a (ExT a oe4)) := same_upd na
            have rp : Rp X.K (hide (upd H' a (ExT a oe4)) (O ++ owned σ' ρ)) (.ref a) (exD e) := by
              have hh : hide (upd H' a (ExT a oe4)) (O ++ owned σ' ρ) a = some (ExT a oe4) := by rw [hide_out (sr.fresh na), upd_same]
              rcases hfl with ⟨dd, fs, e1, e2, e3⟩ | ⟨e1, e2⟩
              · subst e1
                exact .exn hh hz4 ⟨_, hd4⟩ hxc (hide_same _ gr _ _ e2) (e3.mono (hide_same _ gr))
              · subst e1
                unfold exD
                rw [e2]
                exact .exn0 hh hz4 ⟨_, hd4⟩ hxc
            refine store_ok (X := X.suite a (X.pn ++ pins)) (v := .ref a) T4 hN hi (.inl hln) rfl (fun s5 S5 => ?_) (.inr hln)
            refine wpAny_mono ((hsu a (X.pn ++ pins)).run [] s5 _ _ _ S5 ⟨_, O, H0, (sr.grow gr).setV rp, q.aft_as⟩) (fun f s6 hsp => ?_) (fun _ _ z => False.elim z)
            have end_ : ∀ {σ6 : L2.St} {H6 : Hp} {Q : Shared → Prop}, Inv (X.suite a (X.pn ++ pins)) [] σ6 H6 s6 → (∀ s7, Inv X pins (σ6.set i none) H6 s7 → Q s7) →
                wpAny M X.A (do bindName X.env n .none; unbindBehindTheSuite X.env n pos') (fun _ s7 => Q s7) X.xe s6 := fun {σ6 H6 Q} S6 hq => gone_ok (of_suite S6 ok) hN hi hln hq
            cases f with
            | ret u =>
              obtain ⟨v6, σ6, H6, S6, r6, q6⟩ := hsp
              exact end_ S6 fun s7 J7 => ⟨_, _, _, J7, r6, q6⟩
            | next =>
              obtain ⟨σ6, H6, S6, q6⟩ := hsp
              exact end_ S6 fun s7 J7 => ⟨_, _, J7, q6⟩
            | brk =>
              obtain ⟨σ6, H6, S6, q6⟩ := hsp
              exact end_ S6 fun s7 J7 => ⟨_, _, J7, q6⟩
            | cont =>
              obtain ⟨σ6, H6, S6, q6⟩ := hsp
              exact end_ S6 fun s7 J7 => ⟨_, _, J7, q6⟩
      | @only x c t g b₀ suite np pos' hds2 l2 hc ht hsu r ih =>
        intro q
        unfold hndl at q
        cases el : t.lookup e.cls with
        | none => rw [el] at q; exact q.elim
        | some b =>
          rw [el] at q
          refine wpAny_handleBy_cons (codeAny_handlers_test ?_) (by intro q; cases q)
          have LT : PySem.W.Looks M h3 (typeOf (.ref a)) (.ref C) := fun A Q E s k q => wpAny_typeOf_ref (k _ _ he3) (hz3.1.symm ▸ q)
          have LM := PySem.W.exm_one (M := M) J3.kIn LT (ht _ _ _ el hxc)
          have test : ∀ {Q : Value → Shared → Prop} {E : Value → Shared → Prop}, Q c { s' with heap := h3 } → wpAny M (X.A.mark (some (.ref a))) (eval (.Name x np) X.env) Q E { s' with heap := h3 } := fun {Q E} z => by
            obtain ⟨hg, hdbg, hm | ⟨hm, hv, hnn⟩⟩ := hc
            · exact ld_glob (X := X.suite a (X.pn ++ pins)) S3 hg hm z hdbg
            · exact ld_blt (X := X.suite a (X.pn ++ pins)) S3 hg hm hv z hnn hdbg
          refine test (LM.here ?_)
          cases b with
          | false => exact ih q
          | true =>
            refine codeAny_handlers_suite (HandSPX.lands_againZ fl3 fun h4 fl4 up4 => ?_)
            have J4 : Inv X pins σ' H' { s' with heap := h4 } := J.landed nb fl4.1 ((up.trans up3).trans up4) os ag
            refine wpAny_mono ((hsu a (X.pn ++ pins)).run [] _ _ _ D (to_suite J4) ⟨_, O, H0, sr, q.aft_only⟩) (fun f s6 hsp => ?_) (fun _ _ z => False.elim z)
            cases f with
            | ret u =>
              obtain ⟨v6, σ6, H6, S6, r6, q6⟩ := hsp
              exact ⟨_, _, _, of_suite S6 ok, r6, q6⟩
            | next =>
              obtain ⟨σ6, H6, S6, q6⟩ := hsp
              exact ⟨_, _, of_suite S6 ok, q6⟩
            | brk =>
              obtain ⟨σ6, H6, S6, q6⟩ := hsp
              exact ⟨_, _, of_suite S6 ok, q6⟩
            | cont =>
              obtain ⟨σ6, H6, S6, q6⟩ := hsp
              exact ⟨_, _, of_suite S6 ok, q6⟩
    exact go hh q
  · cases f with
    | ret u =>
      obtain ⟨v, σ', H', J', r, q⟩ := hsp
      exact ⟨v, σ', H', J'.ofTry ok, r, q⟩
    | next =>
      obtain ⟨σ', H', J', q⟩ := hsp
      exact wpAny_execs_nil ⟨σ', H', J'.ofTry ok, q⟩
    | brk =>
      obtain ⟨σ', H', J', q⟩ := hsp
      exact ⟨σ', H', J'.ofTry ok, q⟩
    | cont =>
      obtain ⟨σ', H', J', q⟩ := hsp
      exact ⟨σ', H', J'.ofTry ok, q⟩
end
end DL

/-! DE6: isinstance(e, C), e.f. -/
namespace DL
open PySem PySem.Spec PyProof.Rows L2
/-- what the class at C must have for its exceptions to be asked -/
structure ExcF (K : PySem.W.Frag) (C : Addr) : Prop where
  is : (PySem.W.clsIn K C).isSome = true
  ga : PySem.W.findIn K (.ref C) "__getattribute__" = some (some (.builtin "BaseException.__getattribute__"))
  gg : PySem.W.findIn K (.ref C) "__getattr__" = some none
  be : PySem.W.subIn K (.ref C) (.type "BaseException") = some true
  hd : PySem.W.hasDictIn K C = true
  cl : PySem.W.findIn K (.ref C) "__class__" = some (some (.builtin "object.__class__"))
  sp : PySem.W.specialIn K (.builtin "object.__class__") "__get__" = some (some (.builtin "getset_descriptor.__get__"))
  tk : PySem.W.takesIn K (.builtin "object.__class__") = some true
  ob : PySem.W.mroIn K C (.type "object") = some true
theorem keyD_bool {k : Key} {b : Bool} : keyD k ≠ .bool b := fun z => by cases k <;> cases z
theorem rp_exc {K : PySem.W.Frag} {H : Hp} {v : V} {nm : Str} {es : List (PyData × PyData)} (h : Rp K H v (.dict ((.bool true, .str nm) :: es))) :
    ∃ a C oe, v = .ref a ∧ H a = some (ExT a oe) ∧ (∃ vs, oe.data = .fields vs) ∧ excAt K nm = some C ∧ ((∃ d fs, Zc (.ref C) (some d) oe ∧ H d = some (.xd fs) ∧ RpFs K H fs es) ∨ (Zc (.ref C) none oe ∧ es = [])) := by
  generalize hd : PyData.dict ((.bool true, .str nm) :: es) = d at h
  cases h with
  | exn h z v c d r => cases hd; exact ⟨_, _, _, rfl, h, v, c, .inl ⟨_, _, z, d, r⟩⟩
  | exn0 h z v c => cases hd; exact ⟨_, _, _, rfl, h, v, c, .inr ⟨z, rfl⟩⟩
  | scr s l => cases hd
  | @dK a kvs es' s r =>
    cases hd
    cases kvs with
    | nil => cases r
    | cons k kvs =>
      exfalso
      generalize hk : List.map (fun p => (keyD p.1, p.2)) (k :: kvs) = l at r
      cases r with
      | cons r t =>
        rw [List.map_cons] at hk
        injection hk with hk1 hk2
        injection hk1 with hk3 hk4
        exact keyD_bool hk3
  | @dT a kvs es' s r => cases hd
  | lst s l r => cases hd
  | tup s l r => cases hd
  | non => cases hd
  | bl b => cases hd
  | int b => cases hd
  | str b => cases hd
def fldL (n : Str) : List (PyData × PyData) → Option PyData
  | (.str m, d) :: r => if m = n then some d else fldL n r
  | _ => none
theorem fld_at {K : PySem.W.Frag} {H : Hp} {n : Str} {d : PyData} : ∀ {fs : List (Str × V)} {es : List (PyData × PyData)}, RpFs K H fs es → fldL n es = some d → ∃ v, fs.lookup n = some v ∧ Rp K H v d
  | _, _, .nil, e => by cases e
  | _, _, @RpFs.cons _ _ f v d' vs ds r t, e => by
    unfold fldL at e
    by_cases h : f = n
    · rw [if_pos h] at e
      cases e
      subst h
      exact ⟨v, by simp [List.lookup], r⟩
    · rw [if_neg h] at e
      obtain ⟨u, h1, h2⟩ := fld_at t e
      refine ⟨u, ?_, h2⟩
      rw [lookup_put, if_neg (fun z => h z.symm)]
      exact h1
/-! ### isinstance -/
def oIsE (t : List (Str × Bool)) : PyData → Rs PyData
  | .dict ((.bool true, .str nm) :: _) => match t.lookup nm with
    | some b => .ok (.bool b)
    | none => .bad
  | _ => .bad
def IsTbl (K : PySem.W.Frag) (cv : Value) (t : List (Str × Bool)) : Prop := ∀ nm b C, t.lookup nm = some b → excAt K nm = some C → ExcF K C ∧ PySem.W.kitOne K (.ref C) cv = some b
def rIsX (K : PySem.W.Frag) (cv : Value) : List V → Hp → VK → Prop := fun xs H Q => ∃ (a C : Addr) (oe : Obj) (dd : Option Addr) (c : V) (b : Bool), xs = [.ref a, c] ∧ (∀ u, RelV c u → u = cv) ∧ H a = some (ExT a oe) ∧ Zc (.ref C) dd oe ∧ (∃ vs, oe.data = .fields vs) ∧
  (∀ d, dd = some d → ∃ fs, H d = some (.xd fs)) ∧ ExcF K C ∧ PySem.W.kitOne K (.ref C) cv = some b ∧ Q (.bl b) H
theorem inst_at {X : Cx} {pins : List (Addr × Obj)} {σ : L2.St} {H : Hp} {s : Shared} {a C : Addr} {oe : Obj} {dd : Option Addr} (I : Inv X pins σ H s) (ha : H a = some (ExT a oe)) (hz : Zc (.ref C) dd oe) (hf : ∃ vs, oe.data = .fields vs)
    (hd : ∀ d, dd = some d → ∃ fs, H d = some (.xd fs)) : ∃ od, PySem.W.InstAt s.heap a oe C od ∧ ∀ d, dd = some d → ∃ o, od = some o ∧ s.heap.get? d = some o := by
  obtain ⟨hg, _⟩ := I.hok a _ ha
  obtain ⟨vs, hv⟩ := hf
  have no : PySem.W.notCls oe = true := by unfold PySem.W.notCls; rw [hv]
  cases dd with
  | none => exact ⟨none, ⟨hg, hz.1, no, by rw [hz.2]; trivial⟩, fun d z => by cases z⟩
  | some d =>
    obtain ⟨fs, h2⟩ := hd d rfl
    obtain ⟨mA, ⟨o, es, ep, ho, _⟩, _⟩ := I.hok d _ h2
    exact ⟨some o, ⟨hg, hz.1, no, by rw [hz.2]; exact ho⟩, fun d' z => by cases z; exact ⟨o, rfl, ho⟩⟩
theorem call_isX {X : Cx} {cv : Value} : CallR X (.builtin "isinstance") (rIsX X.K cv) := by
  intro pins s σ H xs us Q I r h
  obtain ⟨a, C, oe, dd, c, b, rfl, hc, ha, hz, hf, hd, F, e, q⟩ := h
  cases r with
  | cons rx rr =>
    cases rr with
    | cons rt rr =>
      cases rr
      cases rx
      have ec := hc _ rt
      subst ec
      obtain ⟨od, J, _⟩ := inst_at I ha hz hf hd
      exact PySem.W.kia_one (PySem.W.kitx_exc F.is F.ga F.gg F.be F.cl F.sp F.tk F.ob) I.kIn J e (fun z => nomatch z) fun tk => ⟨.bl b, H, I.kept (t' := tk) fun _ _ z => z, rfl, q⟩
section
variable {X : Cx} {W : WX} {a : Expr} {fa : En → Rs PyData} {pos p p2 : Pos} {y : Str}
theorem ok_isE {cv : Value} {c : V} {t : List (Str × Bool)} (T : IsTbl X.K cv t) (hc : ∀ u, RelV c u → u = cv) {O : List Addr} {σ : L2.St} {H : Hp} {Q : VK} {x : V} {d : PyData} (r : Rp X.K (hide H O) x d) (q : RK X.K X.mg W O σ H Q (oIsE t d)) : rIsX X.K cv [x, c] H Q := by
  unfold oIsE at q
  split at q
  · rename_i nm es
    obtain ⟨a, C, oe, rfl, ha, hf, hx, hr⟩ := rp_exc r
    split at q
    · rename_i b el
      obtain ⟨F, e⟩ := T nm b C el hx
      have ha' := (hide_some ha).2
      rcases hr with ⟨d, fs, z, hd, _⟩ | ⟨z, _⟩
      · exact ⟨a, C, oe, some d, c, b, rfl, hc, ha', z, hf, fun d' e => by cases e; exact ⟨fs, (hide_some hd).2⟩, F, e, q.here (.bl _)⟩
      · exact ⟨a, C, oe, none, c, b, rfl, hc, ha', z, hf, fun d' e => by (cases e), F, e, q.here (.bl _)⟩
    · exact q.elim
  · exact q.elim
theorem de_isE {cv : Value} {c : V} {t : List (Str × Bool)} (T : IsTbl X.K cv t) (hc : ∀ u, RelV c u → u = cv) (ha : DE X W a fa) (hy : PE X (.Name y p2) (tC c)) (hm : X.mg "isinstance" = none) (hg : Gl X "isinstance" := by rfl)
    (he : starEach (a :: [.Name y p2]) X.env = (false, eval a X.env) :: starEach [.Name y p2] X.env := by rfl) (hpl : (backTo pos (starEach [.Name y p2] X.env)).any (·.1) = false := by rfl) :
    DE X W (.Call (.Name "isinstance" p) [a, .Name y p2] [] pos) (b1 (oIsE t) fa) :=
  PE.imp (pe_callB (call_isX (cv := cv)) hg hm (by decide +kernel) (pa_cons ha (pa_cons hy pa_nil) he) (by decide) (by decide) he hpl) fun σ H Q ⟨ρ, O, H0, s, q⟩ => ⟨ρ, O, H0, s, by
    unfold b1 at q
    cases ef : fa ρ with
    | bad => rw [ef] at q; exact q.elim
    | ex x => rw [ef] at q; exact q
    | ok d => rw [ef] at q; exact fun H1 v g r1 => ok_isE T hc r1 (q.grow g)⟩
/-- isinstance(e, C), C a class of the program -/
theorem de_isOwn {C : Addr} {t : List (Str × Bool)} (T : IsTbl X.K (.ref C) t) (ha : DE X W a fa) (hm : X.mg "isinstance" = none) (hC : X.mg y = some (.ref C)) (hgC : Gl X y := by rfl) (hdb : (y == ("__debug__" : Str)) = false := by decide) (hg : Gl X "isinstance" := by rfl)
    (he : starEach (a :: [.Name y p2]) X.env = (false, eval a X.env) :: starEach [.Name y p2] X.env := by rfl) (hpl : (backTo pos (starEach [.Name y p2] X.env)).any (·.1) = false := by rfl) :
    DE X W (.Call (.Name "isinstance" p) [a, .Name y p2] [] pos) (b1 (oIsE t) fa) := de_isE (c := .ref C) T (fun u r => r) ha (pe_glob hgC hC rfl hdb) hm hg he hpl
/-- isinstance(e, T), T built in -/
theorem de_isBlt {T : String} {t : List (Str × Bool)} (T0 : IsTbl X.K (.type T) t) (ha : DE X W a fa) (hm : X.mg "isinstance" = none) (hC : X.mg y = none) (hv : bootBuiltins y = some (.type T)) (hgC : Gl X y := by rfl) (hn : y ≠ "__name__" := by decide) (hdb : (y == ("__debug__" : Str)) = false := by decide) (hg : Gl X "isinstance" := by rfl)
    (he : starEach (a :: [.Name y p2]) X.env = (false, eval a X.env) :: starEach [.Name y p2] X.env := by rfl) (hpl : (backTo pos (starEach [.Name y p2] X.env)).any (·.1) = false := by rfl) :
    DE X W (.Call (.Name "isinstance" p) [a, .Name y p2] [] pos) (b1 (oIsE t) fa) := de_isE (c := .ty T) T0 (fun u r => r) ha (pe_bltn hgC hC hv rfl hn hdb) hm hg he hpl
/-! ### e.f -/
def oFld (nms : List Str) (n : Str) : PyData → Rs PyData
  | .dict ((.bool true, .str nm) :: es) => if nms.contains nm then (match fldL n es with
    | some d => .ok d
    | none => .bad) else .bad
  | _ => .bad
def FldOk (K : PySem.W.Frag) (nms : List Str) (n : Str) : Prop := ∀ nm C, nm ∈ nms → excAt K nm = some C → ExcF K C ∧ PySem.W.findIn K (.ref C) n = some none
theorem de_fld {nms : List Str} {n : Str} (T : FldOk X.K nms n) (ha : DE X W a fa) (hb : attributeBase a n X.env (eval a X.env) = eval a X.env := by rfl) : DE X W (.Attribute a n pos) (b1 (oFld nms n) fa) := by
  refine ⟨fun pins s σ H Q I h => ?_⟩
  obtain ⟨ρ, O, H0, sr, q⟩ := h
  unfold b1 at q
  refine attr_of hb (thn (ha.run pins s σ H (fun x H1 => ∃ d, Rp X.K (hide H1 (O ++ owned σ ρ)) x d ∧ RK X.K X.mg W (O ++ owned σ ρ) σ H1 Q (oFld nms n d)) I ⟨ρ, O, H0, sr, ?_⟩) fun u s1 hh => ?_)
  · cases ef : fa ρ with
    | bad => rw [ef] at q; exact q.elim
    | ex x => rw [ef] at q; exact q
    | ok d => rw [ef] at q; exact fun H1 v g r1 => ⟨d, r1, q.grow g⟩
  · obtain ⟨x, H1, I1, rx, d, r, q⟩ := hh
    unfold oFld at q
    split at q
    · rename_i nm es
      obtain ⟨a, C, oe, rfl, ha, hf, hx, hr⟩ := rp_exc r
      obtain rfl : u = Value.ref a := rx
      split at q
      · rename_i hin
        obtain ⟨F, hno⟩ := T nm C (List.contains_iff_mem.mp hin) hx
        split at q
        · rename_i dv el
          rcases hr with ⟨d, fs, z, hd, rf⟩ | ⟨z, rfl⟩
          · have ha' := (hide_some ha).2
            have hd' := (hide_some hd).2
            obtain ⟨v, hv, rv⟩ := fld_at rf el
            obtain ⟨od, J, hod⟩ := inst_at I1 ha' z hf (fun d' e => by cases e; exact ⟨fs, hd'⟩)
            obtain ⟨o, rfl, ho⟩ := hod d rfl
            obtain ⟨mA, hns, hrr⟩ := I1.hok d _ hd'
            obtain ⟨od2, ho2, hl⟩ := lookIn_ns hns
            rw [ho] at ho2
            cases ho2
            obtain ⟨w, hw, rw'⟩ := RelO.some_of (v := v) (o := mA n) (by rw [← hv]; exact hrr n)
            exact HandSPX.exc_get I1.kIn J F.ga F.gg F.be (PySem.W.findObj_own F.hd hno rfl (by rw [hl, hw])) (handed_of rw') ⟨v, H1, I1.tok _, rw', q.here rv⟩
          · cases el
        · exact q.elim
      · exact q.elim
    · exact q.elim
end
end DL

/-! DE7: defs called in a clause's suite. -/
namespace DL
open PySem PySem.Spec PyProof.Rows L2
abbrev RoomS := L2H.RoomH
theorem _root_.L2H.RoomH.units {k : Nat} {A : Around} (r : L2H.RoomH k A) : A.units + 64 < cLine := by have := r.un; omega
theorem roomS_suite {k : Nat} {X : Cx} {a : Addr} {pn : List (Addr × Obj)} (r : Room k X.A) : RoomS k (X.suite a pn).A := ⟨r.dp, r.un⟩
/-- what a def promises, called in a suite -/
structure FnT (P : Program) (w : World) (K : PySem.W.Frag) (mg : Str → Option Value) (base : Heap) (k : Nat) (f : Addr) (fd : FuncData) (ps : List Str) (sp : Sp) : Prop where
  len : ∀ vs H Q E, sp vs H Q E → vs.length = ps.length
  run : ∀ (A : Around) (outer : List Env) (s : Shared) (H : Hp) (args : Args) (us : List Value) (vs : List V) (Q : VK) (E : XK), RoomS k A → Env0 P w K mg base A outer s H → BindsTo s fd args (ps.zip us) → Vals vs us → sp vs H Q E →
    codeAny (model P w) A (.call (.ref f) args) (CR (L2.CX P w) outer P w H s Q E) s
def FnS (P : Program) (w : World) (K : PySem.W.Frag) (mg : Str → Option Value) (base : Heap) (k : Nat) (x : Str) (g : List PyData → Rs PyData) : Prop :=
  ∃ f fd ps, FnT P w K mg base k f fd ps (spD K mg g) ∧ mg x = some (.ref f) ∧ PySem.W.keepIn K (.ref f) = true ∧ Binds K fd ps []
section
variable {P : Program} {w : World} {K : PySem.W.Frag} {mg : Str → Option Value} {base : Heap}
abbrev cxS (P : Program) (w : World) (K : PySem.W.Frag) (mg : Str → Option Value) (base : Heap) (N : List Str) (qual : Str) (scope : Scope) (f : Addr) (cd : Value) (A : Around) (outer : List Env) (s : Shared) (H : Hp) (E : XK) (o : Obj) : Cx :=
  L2H.cxH (L2.CX P w) P w K mg base N qual scope f cd A outer s H E (f, o)
theorem fnt_of {k : Nat} {f : Addr} {name qual : Str} {params : Arguments} {body : List Stmt} {scope : Scope} {dV kV doc pm cdv ct oc : Value} {an od : Option Addr} {osl : Array (Option Value)} {N ps : List Str} {sp : Sp}
    (lk : K.lookup f = some ⟨oc, od, .func (PySem.W.fnOf name qual params body scope dV kV doc pm an cdv ct), osl⟩) (hcd : PySem.W.codeIn K cdv qual = true) (S : FnScope N ps scope) (len : ∀ vs H Q E, sp vs H Q E → vs.length = ps.length)
    (hbody : ∀ (A : Around) (outer : List Env) (s : Shared) (H : Hp) (vs : List V) (Q : VK) (E : XK) (o : Obj), RoomS k (A.deeper (envOfC qual scope s.heap.objs.size f cdv)) → sp vs H Q E →
      ∃ t, PSs (cxS P w K mg base N qual scope f cdv A outer s H E o) body t ∧ t { nx := fun _ H' => Q .non H', rt := Q } (L2.start N vs) H) :
    FnT P w K mg base (k + 1) f (PySem.W.fnOf name qual params body scope dV kV doc pm an cdv ct) ps sp := by
  refine ⟨len, fun A outer s H args us vs Q E hr e0 hb r hsp => ?_⟩
  have hl : vs.length = ps.length := len _ _ _ _ hsp
  have kb : ∀ b o, base.get? b = some o → s.heap.get? b = some o := fun b o e => (e0.bs b o e).1
  have KX : K.In s.heap := e0.mod.kin.keeps kb
  have bf : base.get? f = some _ := e0.mod.kin _ _ lk
  have hpin : L2H.PinOk outer H s (f, ⟨oc, od, .func (PySem.W.fnOf name qual params body scope dV kV doc pm an cdv ct), osl⟩) := by
    refine ⟨kb _ _ bf, (e0.bs _ _ bf).2, fun hm => ?_, fun v z => by cases z⟩
    have z := (e0.funs.mem hm).1
    rw [bf] at z
    cases z
  have hkind : ∀ y ∈ ps.zip us, scope.names.lookup y.1 = some .local ∨ (scope.names.lookup y.1 = some .cell ∧ ((cellsFrom (s.heap.objs.size + 1) scope.names []).lookup y.1).isSome = true) := by
    rintro ⟨n, v⟩ hy
    exact (S.par n (List.of_mem_zip hy).1).imp id fun q => ⟨q, PySem.W.cellsFrom_some _ _ _ (.inl q)⟩
  refine codeAny_call_function hr.depth (KX _ _ lk) rfl S.co S.gen rfl (PySem.W.codeRec_of KX hcd) (hb _ _ _ _ (wpAny_newFunctionEnv_cells S.kind hkind fun env he s1 x => ?_))
  subst he
  refine ⟨(e0.mod.nolimit.keeps kb).keeps x.toInCall.keep, codeAny_func ?_⟩
  obtain ⟨t, ht, hq⟩ := hbody A outer s H vs Q E _ (hr.deeper _) hsp
  have I := L2H.inv_startH (CX := L2.CX P w) (E := E) S hpin e0 hl r x
  refine wpAny_mono (ht.run [] s1 (L2.start N vs) H _ I hq) (fun fl s' hs => ?_) fun e s' hs => hs
  cases fl with
  | next =>
    obtain ⟨σ', H', J, q⟩ := hs
    exact ⟨V.non, H', J.os, J.bare, J.base, J.hok, rfl, q⟩
  | ret u =>
    obtain ⟨v, σ', H', J, rv, q⟩ := hs
    exact ⟨v, H', J.os, J.bare, J.base, J.hok, rv, q⟩
  | brk => exact hs.elim fun _ h => h.elim fun _ h => h.2.elim
  | cont => exact hs.elim fun _ h => h.elim fun _ h => h.2.elim
theorem fns_mk {name : Str} {st : Stmt} {f : Addr} {fd : FuncData} {N ps : List Str} {k : Nat} {body : En → SRes} (F : Fun K name name st f fd) (S : FnScope N ps (defScope st)) (bn : Binds K fd ps []) (hm : mg name = some (.ref f))
    (hb : ∀ (cdv : Value) (A : Around) (outer : List Env) (s : Shared) (H : Hp) (E : XK) (o : Obj), RoomS k (A.deeper (envOfC name (defScope st) s.heap.objs.size f cdv)) →
      Takes (cxS P w K mg base N name (defScope st) f cdv A outer s H E o) (fun c d _ H => E c d H) → DSs (cxS P w K mg base N name (defScope st) f cdv A outer s H E o) (fun c d _ H => E c d H) (defBody st) body) : FnS P w K mg base (k + 1) name (runF N.length ps.length body) := by
  obtain ⟨oc, od, kV, doc, pm, an, cdv, ct, osl, rfl, lk, hcd⟩ := F.ex
  refine ⟨f, _, ps, fnt_of lk hcd S (fun vs H Q E h => ?_) (fun A outer s H vs Q E o hr h => ⟨_, hb cdv A outer s H E o hr (takes_of rfl rfl rfl rfl), ?_⟩), hm, F.kp, bn⟩
  · obtain ⟨O, ds, th, r, q⟩ := h
    rw [r.length]
    unfold runF at q
    split at q
    · assumption
    · exact q.elim
  · obtain ⟨O, ds, th, r, q⟩ := h
    unfold runF at q
    split at q
    · rename_i hl
      have el : vs.length = ps.length := by rw [r.length]; exact hl
      refine ⟨ds.map (fun d => some (.val d)) ++ List.replicate (N.length - ps.length) none, O, H, ⟨Gr.refl H, fun a h => ?_, ?_, th, ?_⟩, ?_⟩
      · unfold L2.start at h
        rw [el, owned_start] at h
        cases h
      · unfold L2.start
        rw [el, owned_start]
        exact List.nodup_nil
      · unfold L2.start
        rw [el, owned_start, List.append_nil]
        exact slots_start _ r
      · cases eb : body (ds.map (fun d => some (.val d)) ++ List.replicate (N.length - ps.length) none) with
        | ret d => rw [eb] at q; exact fun v H' g r' => q H' v g r'
        | nx ρ => rw [eb] at q; exact fun σ' H' s' => q H' .non s'.same .non
        | brk ρ => rw [eb] at q; exact q.elim
        | ct ρ => rw [eb] at q; exact q.elim
        | ex e ρ => rw [eb] at q; exact fun c dd σ' H' s' x => q H' c dd s'.same (x.mono (hide_less fun a ha => List.mem_append_left _ ha))
        | bad => rw [eb] at q; exact q.elim
    · exact q.elim
end
section
variable {X : Cx} {W : WX} {a : Expr} {pos p : Pos} {x : Str} {es : List Expr} {k : Nat} {g : List PyData → Rs PyData}
theorem de_callS {f : En → Rs (List PyData)} (F : FnS X.prog X.w X.K X.mg X.base k x g) (hr : RoomS k X.A) (tk : Takes X W) (ha : DA X W (a :: es) f) (hg : Gl X x := by rfl) (hdb : (x == ("__debug__" : Str)) = false := by decide)
    (he : starEach (a :: es) X.env = (false, eval a X.env) :: starEach es X.env := by rfl) (hpl : (backTo pos (starEach es X.env)).any (·.1) = false := by rfl) : DE X W (.Call (.Name x p) (a :: es) [] pos) (dCall g f) := by
  obtain ⟨fn, fd, ps, F, hm, hk, hb⟩ := F
  refine ⟨fun pins s σ H Q I ⟨ρ, O, H0, sr, q⟩ => ?_⟩
  refine wpAny_Call_Name_kw (ld_glob I hg hm ?_ hdb)
  have q' : tAD X.K X.mg W f σ H fun vs H1 => spD X.K X.mg g vs H1 Q (WE W σ) := ⟨ρ, O, H0, sr, RKA.of q fun ds H1 vs g1 r1 q1 => ⟨O ++ owned σ ρ, ds, (sr.grow g1).there, r1, q1.toF⟩⟩
  refine PySem.W.callWith_K (h₀ := X.base) I.ok.mod.kin hk (thn (ha.run pos pins s σ H _ I q') fun us s1 ⟨vs, H1, I1, r, qs⟩ => ⟨I1.kIn, ?_⟩) he hpl
  have hl : us.length = ps.length := (Paired.length r).symm.trans (F.len _ _ _ _ qs)
  have b := hb s1 us I1.kIn (by rw [List.append_nil]; exact hl)
  rw [List.append_nil] at b
  refine wpAny_call (codeAny_mono (F.run X.A X.stack s1 H1 ⟨us, []⟩ us vs Q (WE W σ) hr I1.env0 b r qs) fun res s' hq => ?_)
  cases res with
  | error e => exact passAt tk σ pins H1 s1 e s' I1 hq
  | ok fl =>
    cases fl with
    | ret u => exact I1.after hq
    | next => exact hq.elim
    | brk => exact hq.elim
    | cont => exact hq.elim
end
end DL

/-! DE8: the facts of classes, put together. -/
namespace DL
open PySem PySem.Spec PyProof.Rows L2
def clsBody : Stmt → List Stmt
  | .ClassDef _ _ _ body _ _ _ _ _ _ _ => body
  | _ => []
abbrev clsDef (st : Stmt) (j : Nat) : Stmt := (clsBody st).getD j (.Pass ⟨0, 0, 0, 0⟩)
structure Txt0 (s : Stmt) (s0 : Str) : Prop where
  ex : ∃ m p0 p1 p2 p3 p4 p5 j, defBody s = [supI m p0 p1 p2 p3 p4 p5 j] ∧ SupE m p0 p1 p2 p3 p4 p5 j
  sc : NdefX.NScope [s0, "__class__"] [s0] ["__class__"] (defScope s)
  sup : (defScope s).names.lookup ("super" : Str) = some .globalImplicit
  hp : ∃ ar, ((defArgs s).posonlyargs ++ (defArgs s).args).head? = some ar ∧ s0 = ar.arg
structure Txt1 (s : Stmt) (s0 x1 f1 : Str) : Prop where
  ex : ∃ m p0 p1 p2 p3 p4 p5 j a1 a2 a3 a4, defBody s = [supI m p0 p1 p2 p3 p4 p5 j, .Assign [.Attribute (.Name s0 a1) f1 a2] (.Name x1 a3) a4] ∧ SupE m p0 p1 p2 p3 p4 p5 j
  sc : NdefX.NScope [s0, x1, "__class__"] [s0, x1] ["__class__"] (defScope s)
  sup : (defScope s).names.lookup ("super" : Str) = some .globalImplicit
  hp : ∃ ar, ((defArgs s).posonlyargs ++ (defArgs s).args).head? = some ar ∧ s0 = ar.arg
structure Txt2 (s : Stmt) (s0 x1 f1 x2 f2 : Str) : Prop where
  ex : ∃ m p0 p1 p2 p3 p4 p5 j a1 a2 a3 a4 b1 b2 b3 b4, defBody s = [supI m p0 p1 p2 p3 p4 p5 j, .Assign [.Attribute (.Name s0 a1) f1 a2] (.Name x1 a3) a4, .Assign [.Attribute (.Name s0 b1) f2 b2] (.Name x2 b3) b4] ∧ SupE m p0 p1 p2 p3 p4 p5 j
  sc : NdefX.NScope [s0, x1, x2, "__class__"] [s0, x1, x2] ["__class__"] (defScope s)
  sup : (defScope s).names.lookup ("super" : Str) = some .globalImplicit
  hp : ∃ ar, ((defArgs s).posonlyargs ++ (defArgs s).args).head? = some ar ∧ s0 = ar.arg
section
variable {P : Program} {w : World} {K : PySem.W.Frag} {mg : Str → Option Value} {base : Heap} {x qn : Str} {C fI cc cda : Addr} {s : Stmt}
  {nm q : Str} {Nc : Addr} {bs bm : List Value} {sn : List Str} {sub : List Value} {ab : Bool} {col : Option Bool} {dd : Option Addr} {k0 k1 k2 k3 k5 : Option Value}
  {oc kV doc pm ct cf1 cx1 : Value} {od an cf2 cx2 : Option Addr} {osl cf3 cx3 : Array (Option Value)} {vs : Array Value} {file : Str} {tf : Tok}
theorem oexc_mk (lC : K.lookup C = some (excClassObj nm q C Nc bs bm true sn sub ab col dd k0 k1 k2 k3 k5 "ValueError.__new__")) (rv : PySem.HandSPX.refsVE bm = true) (sa : PySem.W.findIn K (.ref C) "__setattr__" = some (some (.builtin "object.__setattr__")))
    (exC : PySem.W.subIn K (.ref C) (.type "BaseException") = some true) (tyC : PySem.W.typeIn K (.ref C) = some (.type "type")) (kC : PySem.W.keepIn K (.ref C) = true) : OexC K C :=
  ⟨⟨nm, q, Nc, bs, bm, sn, sub, ab, col, dd, k0, k1, k2, k3, k5, lC, rv⟩, sa, exC, tyC, kC⟩
/-- the words of such an __init__ -/
abbrev nfOf (qn : Str) (s : Stmt) (cc cda : Addr) : NdefX.NF := ⟨"__init__", qn, defArgs s, defBody s, defScope s, [(("__class__" : Str), cc)], cda⟩
theorem initk_mk (lI : K.lookup fI = some ⟨oc, od, .func (PySem.W.fnX "__init__" qn (defArgs s) (defBody s) (defScope s) [(("__class__" : Str), cc)] .none kV doc pm an (.ref cda) ct), osl⟩) (cI : PySem.W.codeIn K (.ref cda) qn = true)
    (lF : K.lookup cda = some ⟨cf1, cf2, .fields vs, cf3⟩) (vf : vs[2]? = some (.str file tf)) (hf : ((P.main.file : Str) == file) = true) (lX : K.lookup cc = some ⟨cx1, cx2, .cell (some (.ref C)), cx3⟩) (zs : mg "super" = none)
    (top : (P.main.scope.names.lookup ("super" : Str)).isSome = false) (noc : PySem.W.nsIn K cStatics "thirdparty.any" = some none) (av : PySem.W.ks_superIn K C C "__init__" = some (some (.builtin "ValueError.__init__")))
    (sb : PySem.W.mroIn K C (.ref C) = some true) (ve : PySem.W.subIn K (.ref C) (.type "ValueError") = some true) :
    InitK P K mg C (nfOf qn s cc cda) fI cc (PySem.W.fnX "__init__" qn (defArgs s) (defBody s) (defScope s) [(("__class__" : Str), cc)] .none kV doc pm an (.ref cda) ct) :=
  ⟨⟨oc, od, osl, lI⟩, ⟨.none, kV, doc, pm, an, ct, rfl⟩, rfl, cI, ⟨cf1, cf2, vs, cf3, file, tf, lF, vf, hf⟩, ⟨cx1, cx2, cx3, lX⟩, zs, top, noc, av, sb, ve⟩
section
variable {fd : FuncData} {s0 x1 f1 x2 f2 : Str}
theorem exck0 (T : Txt0 s s0) (aC : mg x = some (.ref C)) (xC : excAt K x = some C) (O : OexC K C) (iC : PySem.W.findIn K (.ref C) "__init__" = some (some (.ref fI))) (tI : PySem.W.typeIn K (.ref fI) = some (.type "function"))
    (I0 : InitK P K mg C (nfOf qn s cc cda) fI cc fd) (hb : Binds K fd [s0] []) : ExcK P w K mg base x [] := by
  obtain ⟨m, p0, p1, p2, p3, p4, p5, j, eb, E⟩ := T.ex
  exact ⟨C, fI, fd, [s0], aC, xC, O, iC, tI, fn_init0 O I0 E eb T.sc T.sup T.hp, hb⟩
theorem exck1 (T : Txt1 s s0 x1 f1) (aC : mg x = some (.ref C)) (xC : excAt K x = some C) (O : OexC K C) (iC : PySem.W.findIn K (.ref C) "__init__" = some (some (.ref fI))) (tI : PySem.W.typeIn K (.ref fI) = some (.type "function"))
    (I0 : InitK P K mg C (nfOf qn s cc cda) fI cc fd) (h1 : PySem.W.findIn K (.ref C) f1 = some none) (hb : Binds K fd [s0, x1] [])
    (d0 : (s0 == ("__debug__" : Str)) = false := by decide) (c0 : (s0 == ("__classdict__" : Str)) = false := by decide) (d1 : (x1 == ("__debug__" : Str)) = false := by decide) (c1 : (x1 == ("__classdict__" : Str)) = false := by decide) : ExcK P w K mg base x [f1] := by
  obtain ⟨m, p0, p1, p2, p3, p4, p5, j, a1, a2, a3, a4, eb, E⟩ := T.ex
  exact ⟨C, fI, fd, [s0, x1], aC, xC, O, iC, tI, fn_init1 O I0 E eb T.sc T.sup T.hp h1 d0 c0 d1 c1, hb⟩
theorem exck2 (T : Txt2 s s0 x1 f1 x2 f2) (aC : mg x = some (.ref C)) (xC : excAt K x = some C) (O : OexC K C) (iC : PySem.W.findIn K (.ref C) "__init__" = some (some (.ref fI))) (tI : PySem.W.typeIn K (.ref fI) = some (.type "function"))
    (I0 : InitK P K mg C (nfOf qn s cc cda) fI cc fd) (h1 : PySem.W.findIn K (.ref C) f1 = some none) (h2 : PySem.W.findIn K (.ref C) f2 = some none) (hb : Binds K fd [s0, x1, x2] [])
    (d0 : (s0 == ("__debug__" : Str)) = false := by decide) (c0 : (s0 == ("__classdict__" : Str)) = false := by decide) (d1 : (x1 == ("__debug__" : Str)) = false := by decide) (c1 : (x1 == ("__classdict__" : Str)) = false := by decide)
    (d2 : (x2 == ("__debug__" : Str)) = false := by decide) (c2 : (x2 == ("__classdict__" : Str)) = false := by decide) : ExcK P w K mg base x [f1, f2] := by
  obtain ⟨m, p0, p1, p2, p3, p4, p5, j, a1, a2, a3, a4, b1, b2, b3, b4, eb, E⟩ := T.ex
  exact ⟨C, fI, fd, [s0, x1, x2], aC, xC, O, iC, tI, fn_init2 O I0 E eb T.sc T.sup T.hp h1 h2 d0 c0 d1 c1 d2 c2, hb⟩
end
end
/-! ### tables -/
section
variable {K : PySem.W.Frag} {mg : Str → Option Value} {cv : Value} {nm n : Str} {b : Bool} {C : Addr} {t : List (Str × Bool)} {nms : List Str}
theorem isTbl_nil : IsTbl K cv [] := fun nm b C h => by cases h
theorem isTbl_cons (e : excAt K nm = some C) (F : ExcF K C) (k : PySem.W.kitOne K (.ref C) cv = some b) (r : IsTbl K cv t) : IsTbl K cv ((nm, b) :: t) := fun n b' C' h hx => by
  unfold List.lookup at h
  split at h
  · rename_i hn
    have : n = nm := beq_iff_eq.mp hn
    subst this
    rw [e] at hx
    cases hx
    cases h
    exact ⟨F, k⟩
  · exact r n b' C' h hx
theorem tblOk_nil : TblOk K cv [] := fun nm b C h => by cases h
theorem tblOk_cons (e : excAt K nm = some C) (k : PySem.W.exmOne K (.ref C) cv = some b) (r : TblOk K cv t) : TblOk K cv ((nm, b) :: t) := fun n b' C' h hx => by
  unfold List.lookup at h
  split at h
  · rename_i hn
    have : n = nm := beq_iff_eq.mp hn
    subst this
    rw [e] at hx
    cases hx
    cases h
    exact k
  · exact r n b' C' h hx
theorem fldOk_nil : FldOk K [] n := fun nm C h => by cases h
theorem fldOk_cons (e : excAt K nm = some C) (F : ExcF K C) (k : PySem.W.findIn K (.ref C) n = some none) (r : FldOk K nms n) : FldOk K (nm :: nms) n := fun m C' h hx => by
  rcases List.mem_cons.mp h with q | q
  · subst q
    rw [e] at hx
    cases hx
    exact ⟨F, k⟩
  · exact r m C' q hx
/-- a class of the program that is asked for -/
def AskC (K : PySem.W.Frag) (mg : Str → Option Value) (x : Str) (t : List (Str × Bool)) : Prop := ∃ C, mg x = some (.ref C) ∧ IsTbl K (.ref C) t
/-- .. that a clause names -/
def TakeC (K : PySem.W.Frag) (mg : Str → Option Value) (x : Str) (t : List (Str × Bool)) : Prop := ∃ C, mg x = some (.ref C) ∧ TblOk K (.ref C) t
end
section
variable {X : Cx} {W : WX} {a : Expr} {fa : En → Rs PyData} {pos p p2 np pos' : Pos} {y x n : Str} {t : List (Str × Bool)} {i : Nat} {g : En → SRes} {b₀ : Stmt} {suite : List Stmt} {hds : List ExceptHandler} {l : List Cls}
theorem de_isC (T : AskC X.K X.mg y t) (ha : DE X W a fa) (hm : X.mg "isinstance" = none) (hgC : Gl X y := by rfl) (hdb : (y == ("__debug__" : Str)) = false := by decide) (hg : Gl X "isinstance" := by rfl)
    (he : starEach (a :: [.Name y p2]) X.env = (false, eval a X.env) :: starEach [.Name y p2] X.env := by rfl) (hpl : (backTo pos (starEach [.Name y p2] X.env)).any (·.1) = false := by rfl) :
    DE X W (.Call (.Name "isinstance" p) [a, .Name y p2] [] pos) (b1 (oIsE t) fa) := by
  obtain ⟨C, hC, T⟩ := T
  exact de_isOwn T ha hm hC hgC hdb hg he hpl
theorem cs_as (i : Nat) (T : TakeC X.K X.mg x t) (hsu : ∀ (a : Addr) (pn : List (Addr × Obj)), DSs (X.suite a pn) W0 (b₀ :: suite) g) (r : CsOk X hds l) (hi : X.N[i]? = some n := by rfl) (hln : X.env.kindOf n = some .local := by rfl) (hg : Gl X x := by rfl) (hdb : (x == ("__debug__" : Str)) = false := by decide) :
    CsOk X (.ExceptHandler (some (.Name x np)) (some n) (b₀ :: suite) pos' :: hds) (⟨t, some i, g⟩ :: l) := by
  obtain ⟨C, hC, T⟩ := T
  exact .as hi hln ⟨hg, hdb, .inl hC⟩ T hsu r
theorem cs_only (T : TakeC X.K X.mg x t) (hsu : ∀ (a : Addr) (pn : List (Addr × Obj)), DSs (X.suite a pn) W0 (b₀ :: suite) g) (r : CsOk X hds l) (hg : Gl X x := by rfl) (hdb : (x == ("__debug__" : Str)) = false := by decide) :
    CsOk X (.ExceptHandler (some (.Name x np)) none (b₀ :: suite) pos' :: hds) (⟨t, none, g⟩ :: l) := by
  obtain ⟨C, hC, T⟩ := T
  exact .only ⟨hg, hdb, .inl hC⟩ T hsu r
end
end DL

/-! DL12: sum, max, min, x[::-1], x.index(y), a.append(b.pop(i)), b.pop(i), a[i] = e. -/
namespace DL
open PySem PySem.Spec PyProof.Rows L2

/-! ### lists of ints -/
def intsOf : List PyData → Option (List Int)
  | [] => some []
  | .int x :: ds => (intsOf ds).map (x :: ·)
  | _ => none
theorem intsOf_map (ns : List Int) : intsOf (ns.map .int) = some ns := by
  induction ns with
  | nil => rfl
  | cons n ns ih =>
    rw [List.map_cons]
    unfold intsOf
    rw [ih]
    rfl
theorem intsOf_eq : ∀ {ds : List PyData} {ns : List Int}, intsOf ds = some ns → ds = ns.map .int := by
  intro ds
  induction ds with
  | nil => intro ns h; cases h; rfl
  | cons d ds ih =>
    intro ns h
    unfold intsOf at h
    split at h
    · rename_i heq; cases heq
    · rename_i i ds' heq
      cases heq
      cases e : intsOf ds with
      | none => rw [e] at h; cases h
      | some qs =>
        rw [e] at h
        cases h
        rw [ih e]
        rfl
    · cases h
def oSum : PyData → Rs PyData
  | .list ds => match intsOf ds with
    | some ns => .ok (.int ns.sum)
    | none => .bad
  | _ => .bad
def maxL : List Int → Int
  | [] => 0
  | [x] => x
  | x :: xs => if maxL xs < x then x else maxL xs
def minL : List Int → Int
  | [] => 0
  | [x] => x
  | x :: xs => if x < minL xs then x else minL xs
theorem maxL_spec : ∀ {xs : List Int}, xs ≠ [] → maxL xs ∈ xs ∧ ∀ y ∈ xs, y ≤ maxL xs
  | [x], _ => ⟨List.mem_singleton.mpr rfl, fun y h => by rw [List.mem_singleton.mp h]; exact Int.le_refl _⟩
  | x :: z :: xs, _ => by
    obtain ⟨h1, h2⟩ := maxL_spec (xs := z :: xs) (by simp)
    have e : maxL (x :: z :: xs) = if maxL (z :: xs) < x then x else maxL (z :: xs) := rfl
    rw [e]
    split
    · refine ⟨List.mem_cons_self, fun y h => ?_⟩
      rcases List.mem_cons.mp h with rfl | h
      · exact Int.le_refl _
      · have := h2 y h; omega
    · refine ⟨List.mem_cons_of_mem _ h1, fun y h => ?_⟩
      rcases List.mem_cons.mp h with rfl | h
      · omega
      · exact h2 y h
theorem minL_spec : ∀ {xs : List Int}, xs ≠ [] → minL xs ∈ xs ∧ ∀ y ∈ xs, minL xs ≤ y
  | [x], _ => ⟨List.mem_singleton.mpr rfl, fun y h => by rw [List.mem_singleton.mp h]; exact Int.le_refl _⟩
  | x :: z :: xs, _ => by
    obtain ⟨h1, h2⟩ := minL_spec (xs := z :: xs) (by simp)
    have e : minL (x :: z :: xs) = if x < minL (z :: xs) then x else minL (z :: xs) := rfl
    rw [e]
    split
    · refine ⟨List.mem_cons_self, fun y h => ?_⟩
      rcases List.mem_cons.mp h with rfl | h
      · exact Int.le_refl _
      · have := h2 y h; omega
    · refine ⟨List.mem_cons_of_mem _ h1, fun y h => ?_⟩
      rcases List.mem_cons.mp h with rfl | h
      · omega
      · exact h2 y h
def oMax1 : PyData → Rs PyData
  | .list ds => match intsOf ds with
    | some ns => if 0 < ns.length then .ok (.int (maxL ns)) else .bad
    | none => .bad
  | _ => .bad
def oMin1 : PyData → Rs PyData
  | .list ds => match intsOf ds with
    | some ns => if 0 < ns.length then .ok (.int (minL ns)) else .bad
    | none => .bad
  | _ => .bad
section
variable {X : Cx} {W : WX} {a b : Expr} {fa fb : En → Rs PyData} {pos p : Pos}
theorem ok_sum : Ok1 X (rSum X.K) oSum := by
  intro W O σ H Q x d th rx q
  unfold oSum at q
  split at q
  · obtain ⟨p, xs, rfl, hx, lx, rX⟩ := rx.list
    split at q
    · rename_i ns hn
      rw [intsOf_eq hn] at rX
      have e := rX.int
      subst e
      exact ⟨p, ns, rfl, .inl hx, q.here (.int _)⟩
    · exact q.elim
  · exact q.elim
theorem ok_max1 : Ok1 X (rMax X.K) oMax1 := by
  intro W O σ H Q x d th rx q
  unfold oMax1 at q
  split at q
  · obtain ⟨p, xs, rfl, hx, lx, rX⟩ := rx.list
    split at q
    · rename_i ns hn
      rw [intsOf_eq hn] at rX
      have e := rX.int
      subst e
      split at q
      · rename_i hl
        refine ⟨p, ns, rfl, .inl hx, hl, fun m hm hle => ?_⟩
        obtain ⟨h1, h2⟩ := maxL_spec (xs := ns) (fun z => by rw [z] at hl; exact Nat.lt_irrefl _ hl)
        have : m = maxL ns := by
          have := h2 m hm
          have := hle _ h1
          omega
        rw [this]
        exact q.here (.int _)
      · exact q.elim
    · exact q.elim
  · exact q.elim
theorem ok_min1 : Ok1 X (rMin X.K) oMin1 := by
  intro W O σ H Q x d th rx q
  unfold oMin1 at q
  split at q
  · obtain ⟨p, xs, rfl, hx, lx, rX⟩ := rx.list
    split at q
    · rename_i ns hn
      rw [intsOf_eq hn] at rX
      have e := rX.int
      subst e
      split at q
      · rename_i hl
        refine ⟨p, ns, rfl, .inl hx, hl, fun m hm hle => ?_⟩
        obtain ⟨h1, h2⟩ := minL_spec (xs := ns) (fun z => by rw [z] at hl; exact Nat.lt_irrefl _ hl)
        have : m = minL ns := by
          have := h2 m hm
          have := hle _ h1
          omega
        rw [this]
        exact q.here (.int _)
      · exact q.elim
    · exact q.elim
  · exact q.elim
theorem de_sum (ha : BE X W a fa) (hm : X.mg "sum" = none) (hc : X.calm = true := by rfl) (hg : Gl X "sum" := by rfl)
    (he : starEach (a :: []) X.env = (false, eval a X.env) :: starEach [] X.env := by rfl) (hpl : (backTo pos (starEach [] X.env)).any (·.1) = false := by rfl) : DE X W (.Call (.Name "sum" p) [a] [] pos) (b1 oSum fa) :=
  de_call1 (cr_sum hc) ok_sum ha hm (by decide +kernel) hg (by decide) (by decide) he hpl
theorem de_max1 (ha : BE X W a fa) (hm : X.mg "max" = none) (hc : X.calm = true := by rfl) (hg : Gl X "max" := by rfl)
    (he : starEach (a :: []) X.env = (false, eval a X.env) :: starEach [] X.env := by rfl) (hpl : (backTo pos (starEach [] X.env)).any (·.1) = false := by rfl) : DE X W (.Call (.Name "max" p) [a] [] pos) (b1 oMax1 fa) :=
  de_call1 (cr_max hc) ok_max1 ha hm (by decide +kernel) hg (by decide) (by decide) he hpl
theorem de_min1 (ha : BE X W a fa) (hm : X.mg "min" = none) (hc : X.calm = true := by rfl) (hg : Gl X "min" := by rfl)
    (he : starEach (a :: []) X.env = (false, eval a X.env) :: starEach [] X.env := by rfl) (hpl : (backTo pos (starEach [] X.env)).any (·.1) = false := by rfl) : DE X W (.Call (.Name "min" p) [a] [] pos) (b1 oMin1 fa) :=
  de_call1 (cr_min hc) ok_min1 ha hm (by decide +kernel) hg (by decide) (by decide) he hpl
/-! ### xs[::-1] of a list -/
def oRev : PyData → Rs PyData
  | .list xs => .ok (.list xs.reverse)
  | _ => .bad
theorem de_rev {k : Nat} {p1 p2 p3 : Pos} (ha : BE X W a fa) : DE X W (.Subscript a (.Slice none none (some (.UnaryOp .USub (.Constant (.int 1) k p1) p2)) p3) pos) (b1 oRev fa) :=
  PE.imp (pe_revL ha) fun σ H Q ⟨ρ, O, H0, s, q⟩ => ⟨ρ, O, H0, s, RKB.of q fun d H1 v g1 r1 q1 => by
    unfold oRev at q1
    split at q1
    · obtain ⟨p, xs, rfl, hx, lx, rX⟩ := r1.list
      exact ⟨p, xs, rfl, .inl hx, fun q hq => q1.newL (s.grow g1).there hq (by rw [List.length_reverse]; exact lx) rX.reverse⟩
    · exact q1.elim⟩
theorem oe_rev {k : Nat} {p1 p2 p3 : Pos} (ha : BE X W a fa) : OE X W (.Subscript a (.Slice none none (some (.UnaryOp .USub (.Constant (.int 1) k p1) p2)) p3) pos) (b1 oRev fa) :=
  PE.imp (pe_revL ha) fun σ H Q ⟨ρ, O, H0, s, q⟩ => ⟨ρ, O, H0, s, RKB.ofO q fun d H1 v g1 r1 q1 => by
    unfold oRev at q1
    split at q1
    · obtain ⟨p, xs, rfl, hx, lx, rX⟩ := r1.list
      exact ⟨p, xs, rfl, .inl hx, fun q hq => q1.newL hq (by rw [List.length_reverse]; exact lx) rX.reverse⟩
    · exact q1.elim⟩
end
/-! ### x.index(y) -/
/-- numbers, texts, bools, None -/
def flatP : PyData → Bool
  | .none | .bool _ | .int _ | .str _ => true
  | _ => false
def vOf : PyData → V
  | .none => .non
  | .bool b => .bl b
  | .int i => .int i
  | .str x => .str x
  | _ => .non
section
variable {K : PySem.W.Frag} {H : Hp}
theorem Rp.vOf {v : V} {d : PyData} (h : Rp K H v d) (f : flatP d = true) : v = vOf d := by
  cases h <;> first | rfl | cases f
theorem RpAll.vOf : ∀ {vs : List V} {ds : List PyData}, RpAll K H vs ds → ds.all flatP = true → vs = ds.map vOf
  | _, _, .nil, _ => rfl
  | _, _, .cons r t, f => by
    rw [List.all_cons, Bool.and_eq_true] at f
    rw [List.map_cons, r.vOf f.1, RpAll.vOf t f.2]
theorem flatV_vOf {d : PyData} (f : flatP d = true) : flatV (vOf d) = true := by
  cases d <;> first | rfl | cases f
theorem eqV_vOf {d e : PyData} (f : flatP d = true) (g : flatP e = true) : eqV (vOf d) (vOf e) = PyData.eqv d e := by
  cases d <;> cases e <;> first | rfl | (cases f; done) | (cases g; done) | (simp [flatP] at f; done) | (simp [flatP] at g; done)
theorem all_vOf {ds : List PyData} (f : ds.all flatP = true) : (ds.map vOf).all flatV = true := by
  rw [List.all_map]
  rw [List.all_eq_true] at f ⊢
  exact fun d hd => flatV_vOf (f d hd)
end
theorem RpB.flat {K : PySem.W.Frag} {O : List Addr} {H : Hp} {v : V} {d : PyData} (h : RpB K O H v d) (f : flatP d = true) : v = DL.vOf d := by
  rcases h with h | ⟨a, rfl, ⟨xs, es, e, h1, h2, h3⟩ | ⟨_, _, e, _⟩ | ⟨_, _, e, _⟩⟩
  · exact h.vOf f
  · subst e; cases f
  · subst e; cases f
  · subst e; cases f
/-- the first place of what is equal -/
def idxD (ds : List PyData) (d : PyData) : Option Nat := ds.findIdx? fun z => PyData.eqv z d
def oIndex : PyData → PyData → Rs PyData
  | .list ds, d => if ds.all flatP && flatP d then (match idxD ds d with | some j => .ok (.int j) | none => .bad) else .bad
  | .tuple ds, d => if ds.all flatP && flatP d then (match idxD ds d with | some j => .ok (.int j) | none => .bad) else .bad
  | .str z, .str y => match Txt.index0 z y with | some j => .ok (.int j) | none => .bad
  | _, _ => .bad
def rIndexT (K : PySem.W.Frag) : V → List V → Hp → VK → Prop := fun x xs H Q => ∃ (a : Addr) (ys : List V) (y : V) (j : Nat) (z : V), x = V.ref a ∧ xs = [y] ∧ SqT K H a ys ∧ flatV y = true ∧ ys.all flatV = true ∧ ys[j]? = some z ∧ eqV z y = true ∧
  (∀ (m : Nat) (z' : V), m < j → ys[m]? = some z' → eqV z' y = false) ∧ Q (.int (j : Nat)) H
section
variable {X : Cx}
theorem mt_indexT : MtR X "tuple.index" (rIndexT X.K) := by
  intro pins s σ H x xs v us Q I rx rxs h
  obtain ⟨a, ys, y, j, z, rfl, rfl, hs, fy, fys, hz, hzj, hno, q⟩ := h
  cases rx
  cases rxs with
  | cons ry rt =>
    rename_i uy ut
    cases rt
    obtain ⟨its, rv, ⟨⟨cls, dd, data, sl⟩, ho, hc, n, hd⟩, hlen⟩ := I.tuple hs
    simp only at hc hd
    subst hc hd
    obtain ⟨u, hu, ru⟩ := rv.get hz
    obtain ⟨hjl, hje⟩ := List.getElem?_eq_some_iff.mp hu
    have hvl := rv.length
    have hj : j < its.toArray.size := by simpa using hjl
    refine call_meets PySem.F.slot_tuple_index ⟨_, ho, rfl⟩ PySem.F.entry_tuple_index (PySem.F.args_tuple_index_2 _ _)
      (TI.tuple_indexAt a its.toArray n dd sl uy (eqU y) j hj ?_ ?_) ⟨ho, fun u' hu' => mem_eqAt ry fy rv fys u' (by simpa using hu'), ?_⟩
    · have e1 : its.toArray[j] = u := by simpa using hje
      rw [e1, eqU_of ru (flat_at fys hz)]
      exact hzj
    · intro m hm hmj
      have hml : m < its.length := by simpa using hm
      have hmy : m < ys.length := by omega
      have hy' : ys[m]? = some ys[m] := List.getElem?_eq_getElem hmy
      obtain ⟨u2, hu2, ru2⟩ := rv.get hy'
      obtain ⟨_, hme⟩ := List.getElem?_eq_some_iff.mp hu2
      have e1 : its.toArray[m] = u2 := by simpa using hme
      rw [e1, eqU_of ru2 (flat_at fys hy')]
      exact hno m _ hmj hy'
    · exact ⟨.int (j : Nat), H, I.tok _, ⟨_, rfl⟩, q⟩
theorem sqN_is {pins : List (Addr × Obj)} {σ : L2.St} {H : Hp} {s : Shared} {a : Addr} {xs : List V} (I : Inv X pins σ H s) (h : SqN X.K H a xs) : s.TypeIs (.ref a) "tuple" ∧ ∀ b, (.ref a : Value) = .ref b → ∃ ob, s.heap.get? b = some ob ∧ ob.dict = none := by
  rcases h with ⟨o, h, od⟩ | ⟨o, its, n, hk, hc, hd, _⟩
  · obtain ⟨e, _, its, _, ⟨o', e', c, _⟩⟩ := I.hok a _ h
    have eo : o = o' := by
      have := e.symm.trans e'
      exact Option.some.inj this
    refine ⟨⟨o', e', c⟩, fun b e2 => ?_⟩
    cases e2
    exact ⟨o, e, od⟩
  · refine ⟨⟨o, I.kIn a o hk, hc⟩, fun b e2 => ?_⟩
    cases e2
    exact ⟨o, I.kIn _ o hk, hd⟩
def rIndexS : V → List V → Hp → VK → Prop := fun x xs H Q => ∃ (a b : Str) (k : Nat), x = .str a ∧ xs = [.str b] ∧ Txt.index0 a b = some k ∧ Q (.int (k : Nat)) H
def tIdx (K : PySem.W.Frag) (to : TE) (t : TA) : TE := fun σ H Q => to σ H fun x H1 =>
  (∃ a, x = .ref a ∧ (∃ xs, SqL K H1 a xs) ∧ t σ H1 fun xs H2 => rIndex K x xs H2 Q) ∨
  (∃ a, x = .ref a ∧ (∃ xs, SqN K H1 a xs) ∧ t σ H1 fun xs H2 => rIndexT K x xs H2 Q) ∨
  (∃ z, x = .str z ∧ t σ H1 fun xs H2 => rIndexS x xs H2 Q)
theorem pe_idx {o e : Expr} {apos cpos : Pos} {to : TE} {t : TA} (hc : X.calm = true) (ho : PE X o to) (ha : PA X [e] t)
    (hbase : attributeBase o "index" X.env (eval o X.env) = eval o X.env := by rfl)
    (hfew : ((backTo cpos (starEach (e :: []) X.env)).all (fun x => !x.1) && (backToKw cpos (keywordEach [] X.env)).all (fun x => x.1.isSome)
      && decide ((e :: []).length + ([] : List Keyword).length + (if ([] : List Keyword).isEmpty then 0 else 1) < 30)) = true := by rfl)
    (hline : (apos.endLine == cpos.line) = true := by rfl) (hs : starEach (e :: []) X.env = (false, eval e X.env) :: starEach [] X.env := by rfl) (hplain : (backTo cpos (starEach [] X.env)).any (·.1) = false := by rfl) :
    PE X (.Call (.Attribute o "index" apos) [e] [] cpos) (tIdx X.K to t) := by
  refine ⟨fun pins s σ H Q I h => ?_⟩
  refine wpAny_Call_method_late hbase hfew hline rfl (thn (ho.run pins s σ H _ I h) fun v s1 ⟨x, H1, I1, r1, q1⟩ => ?_)
  rcases q1 with ⟨a, rfl, ⟨xs, hq⟩, q1⟩ | ⟨a, rfl, ⟨xs, hq⟩, q1⟩ | ⟨z, rfl, q1⟩
  · obtain ⟨h1, h2⟩ := tyV_is (T := "list") I1 r1 (.inl ⟨rfl, xs, hq⟩)
    refine ⟨"list", "list.index", PySem.F.plainAttrs_list, PySem.F.slot_list_index, PySem.F.type_list_index, h1, h2, ?_⟩
    have hA := ha.run cpos pins s1 σ H1 _ I1 q1
    rw [hs] at hA ⊢
    refine Calls.callWith_builtin (by show (false || (backTo cpos (starEach [] X.env)).any (·.1)) = false; rw [hplain] <;> rfl) (Calls.evalArgs_plain ?_)
    exact thn hA fun us s2 ⟨vs, H2, I2, r2, q2⟩ => mt_index pins s2 σ H2 _ vs v us Q I2 r1 r2 q2
  · cases r1
    obtain ⟨h1, h2⟩ := sqN_is I1 hq
    refine ⟨"tuple", "tuple.index", PySem.F.plainAttrs_tuple, PySem.F.slot_tuple_index, PySem.F.type_tuple_index, h1, h2, ?_⟩
    have hA := ha.run cpos pins s1 σ H1 _ I1 q1
    rw [hs] at hA ⊢
    refine Calls.callWith_builtin (by show (false || (backTo cpos (starEach [] X.env)).any (·.1)) = false; rw [hplain] <;> rfl) (Calls.evalArgs_plain ?_)
    exact thn hA fun us s2 ⟨vs, H2, I2, r2, q2⟩ => mt_indexT pins s2 σ H2 (.ref a) vs _ us Q I2 (show L2.RelV (.ref a) (.ref a) from rfl) r2 q2
  · obtain ⟨h1, h2⟩ := tyV_is (T := "str") I1 r1 rfl
    refine ⟨"str", "str.index", PySem.F.plainAttrs_str, PySem.F.slot_str_index, PySem.F.type_str_index, h1, h2, ?_⟩
    have hA := ha.run cpos pins s1 σ H1 _ I1 q1
    rw [hs] at hA ⊢
    refine Calls.callWith_builtin (by show (false || (backTo cpos (starEach [] X.env)).any (·.1)) = false; rw [hplain] <;> rfl) (Calls.evalArgs_plain ?_)
    exact thn hA fun us s2 ⟨vs, H2, I2, r2, q2⟩ => mt_indexX hc takes0 pins s2 σ H2 _ vs v us Q I2 r1 r2 (by
      obtain ⟨a, b, k, e1, e2, e3, e4⟩ := q2
      exact ⟨a, b, e1, e2, fun k' hk' => by rw [e3] at hk'; cases hk'; exact e4, fun hn => by rw [e3] at hn; cases hn⟩)
end
section
variable {X : Cx} {W : WX} {o e : Expr} {fo fe : En → Rs PyData} {apos cpos : Pos}
theorem idxD_spec {ds : List PyData} {d : PyData} {j : Nat} (h : idxD ds d = some j) : (∃ z, ds[j]? = some z ∧ PyData.eqv z d = true) ∧ ∀ m z, m < j → ds[m]? = some z → PyData.eqv z d = false := by
  unfold idxD at h
  rw [List.findIdx?_eq_some_iff_getElem] at h
  obtain ⟨hj, h1, h2⟩ := h
  refine ⟨⟨ds[j], List.getElem?_eq_getElem hj, h1⟩, fun m z hm hz => ?_⟩
  have := h2 m hm
  obtain ⟨hml, e⟩ := List.getElem?_eq_some_iff.mp hz
  rw [e] at this
  simpa using this
theorem index_l (ds : List PyData) (d : PyData) : oIndex (.list ds) d = if ds.all flatP && flatP d then (match idxD ds d with | some j => .ok (.int j) | none => .bad) else .bad := by cases d <;> rfl
theorem index_t (ds : List PyData) (d : PyData) : oIndex (.tuple ds) d = if ds.all flatP && flatP d then (match idxD ds d with | some j => .ok (.int j) | none => .bad) else .bad := by cases d <;> rfl
def idxM (op : PyData → PyData → Rs PyData) (fo fe : En → Rs PyData) : En → Rs PyData := fun ρ => (fo ρ).bind fun d => match d with
  | .list ds => (fe ρ).bind fun e => op (.list ds) e
  | .tuple ds => (fe ρ).bind fun e => op (.tuple ds) e
  | .str ds => (fe ρ).bind fun e => op (.str ds) e
  | _ => .bad
theorem de_index (ho : BE X W o fo) (he : BE X W e fe) (hc : X.calm = true := by rfl)
    (hbase : attributeBase o "index" X.env (eval o X.env) = eval o X.env := by rfl)
    (hfew : ((backTo cpos (starEach (e :: []) X.env)).all (fun x => !x.1) && (backToKw cpos (keywordEach [] X.env)).all (fun x => x.1.isSome)
      && decide ((e :: []).length + ([] : List Keyword).length + (if ([] : List Keyword).isEmpty then 0 else 1) < 30)) = true := by rfl)
    (hline : (apos.endLine == cpos.line) = true := by rfl) (hs : starEach (e :: []) X.env = (false, eval e X.env) :: starEach [] X.env := by rfl) (hplain : (backTo cpos (starEach [] X.env)).any (·.1) = false := by rfl) :
    DE X W (.Call (.Attribute o "index" apos) [e] [] cpos) (idxM oIndex fo fe) :=
  PE.imp (pe_idx hc ho (pa_cons he pa_nil hs) hbase hfew hline hs hplain) fun σ H Q ⟨ρ, O, H0, s, q⟩ => ⟨ρ, O, H0, s, RKB.of q fun d H1 v g1 r1 q1 => by
    split at q1
    · rename_i ds
      obtain ⟨p, xs, rfl, hx, lx, rX⟩ := r1.list
      refine .inl ⟨p, rfl, ⟨xs, .inl hx⟩, ρ, O, H0, s.grow g1, RKB.of q1 fun e H2 u g2 r2 q2 => ?_⟩
      rw [index_l] at q2
      split at q2
      · rename_i hf
        rw [Bool.and_eq_true] at hf
        split at q2
        · rename_i j hj
          obtain ⟨⟨z, h1, h2⟩, h3⟩ := idxD_spec hj
          have r2' := r2.flat hf.2
          have ex := rX.vOf hf.1
          subst ex
          refine ⟨p, ds.map vOf, vOf e, j, vOf z, rfl, by rw [r2'], .inl (Gr.rd g2 hx), flatV_vOf hf.2, all_vOf hf.1, by rw [List.getElem?_map, h1]; rfl, ?_, fun m z' hm hz => ?_, q2.here (.int _)⟩
          · rw [eqV_vOf (List.all_eq_true.mp hf.1 z (List.mem_of_getElem? h1)) hf.2]
            exact h2
          · rw [List.getElem?_map] at hz
            obtain ⟨z2, hz2, rfl⟩ := Option.map_eq_some_iff.mp hz
            rw [eqV_vOf (List.all_eq_true.mp hf.1 z2 (List.mem_of_getElem? hz2)) hf.2]
            exact h3 m z2 hm hz2
        · exact q2.elim
      · exact q2.elim
    · rename_i ds
      obtain ⟨p, xs, rfl, hx, lx, rX⟩ := r1.tupleN
      refine .inr (.inl ⟨p, rfl, ⟨xs, hx⟩, ρ, O, H0, s.grow g1, RKB.of q1 fun e H2 u g2 r2 q2 => ?_⟩)
      rw [index_t] at q2
      split at q2
      · rename_i hf
        rw [Bool.and_eq_true] at hf
        split at q2
        · rename_i j hj
          obtain ⟨⟨z, h1, h2⟩, h3⟩ := idxD_spec hj
          have r2' := r2.flat hf.2
          have ex := rX.vOf hf.1
          subst ex
          refine ⟨p, ds.map vOf, vOf e, j, vOf z, rfl, by rw [r2'], (Gr.seqN g2 hx).t, flatV_vOf hf.2, all_vOf hf.1, by rw [List.getElem?_map, h1]; rfl, ?_, fun m z' hm hz => ?_, q2.here (.int _)⟩
          · rw [eqV_vOf (List.all_eq_true.mp hf.1 z (List.mem_of_getElem? h1)) hf.2]
            exact h2
          · rw [List.getElem?_map] at hz
            obtain ⟨z2, hz2, rfl⟩ := Option.map_eq_some_iff.mp hz
            rw [eqV_vOf (List.all_eq_true.mp hf.1 z2 (List.mem_of_getElem? hz2)) hf.2]
            exact h3 m z2 hm hz2
        · exact q2.elim
      · exact q2.elim
    · rename_i z
      cases r1.str
      refine .inr (.inr ⟨z, rfl, ρ, O, H0, s.grow g1, RKB.of q1 fun e H2 u g2 r2 q2 => ?_⟩)
      cases e with
      | str y =>
        cases r2.str
        have q3 : RK X.K X.mg W (O ++ owned σ ρ) σ H2 Q (match Txt.index0 z y with | some j => .ok (.int j) | none => .bad) := q2
        split at q3
        · rename_i j hj
          exact ⟨_, _, j, rfl, rfl, hj, q3.here (.int _)⟩
        · exact q3.elim
      | _ => exact q2.elim
    · exact q1.elim⟩
end
end DL

/-! DL13: a.append(b.pop(i)), b.pop(i), a[i] = e, of own lists. -/
namespace DL
open PySem PySem.Spec PyProof.Rows L2
theorem RpAll.erase {K : PySem.W.Frag} {H : Hp} : ∀ {xs : List V} {ds : List PyData} (i : Nat), RpAll K H xs ds → RpAll K H (xs.eraseIdx i) (ds.eraseIdx i)
  | _, _, _, .nil => by simp only [List.eraseIdx_nil]; exact .nil
  | _, _, 0, .cons _ t => t
  | _, _, i + 1, .cons r t => .cons r (RpAll.erase i t)
theorem SK.exprBg {K : PySem.W.Frag} {mg : Str → Option Value} {W : WX} {O : List Addr} {H0 H : Hp} {σ : L2.St} {ρ : En} {D : Ends} {r : Rs PyData} {k : PyData → SRes} {Q : VK} (s : SR K O H0 H σ ρ) (h : SK K mg W O H0 D (eS ρ r k)) (hk : ∀ d H1 v, Gr H H1 → SR K O H0 H1 σ ρ → RpB K (O ++ owned σ ρ) H1 v d → SK K mg W O H0 D (k d) → Q v H1) : RKB K mg W (O ++ owned σ ρ) σ H Q r := by
  cases r with
  | ok d => exact fun H' v g rp => hk d H' v g (s.grow g) rp h
  | ex e => exact fun H' c dd g x => h c dd σ H' (s.grow g) x
  | bad => exact h
def sPop (j : Nat) (f : En → Rs PyData) : En → SRes := fun ρ => match ρ[j]? with
  | some (some (.own (.list es))) => eS ρ (f ρ) fun k => match k with
    | .int k => (match ixN es.length k with
      | some n => .nx (ρ.set j (some (.own (.list (es.eraseIdx n)))))
      | none => .bad)
    | _ => .bad
  | _ => .bad
def sAppPop (i j : Nat) (f : En → Rs PyData) : En → SRes := fun ρ => match ρ[i]?, ρ[j]? with
  | some (some (.own (.list ds))), some (some (.own (.list es))) => eS ρ (f ρ) fun k => match k with
    | .int k => (match ixN es.length k with
      | some n => (match es[n]? with
        | some y => if ds.length < mx then .nx ((ρ.set j (some (.own (.list (es.eraseIdx n))))).set i (some (.own (.list (ds ++ [y]))))) else .bad
        | none => .bad)
      | none => .bad)
    | _ => .bad
  | _, _ => .bad
section
variable {X : Cx} {W : WX} {e ek : Expr} {f fk : En → Rs PyData}
theorem own_get {K : PySem.W.Frag} {G H : Hp} {σ : L2.St} {ρ : En} (h : SlotsR K G H σ ρ) {i : Nat} {ds : List PyData} (ei : ρ[i]? = some (some (.own (.list ds)))) : ∃ a xs, σ[i]? = some (some (.ref a)) ∧ H a = some (.lst xs) ∧ xs.length ≤ mx ∧ RpAll K G xs ds := by
  obtain ⟨x, e1, a, e2, rp⟩ := h.get ei
  subst e2
  obtain ⟨xs, hx, hl, rx⟩ := own_list rp
  exact ⟨a, xs, e1, hx, hl, rx⟩
theorem ixN_box {n : Nat} {k : Int} {j : Nat} (h : ixN n k = some j) (hn : n ≤ mx) : -(2 ^ 63) ≤ k ∧ k < 2 ^ 63 ∧ seqIndex? k n = some j ∧ j < n := by
  obtain ⟨h1, h2, h3, h4⟩ := ixN_seq h
  have hn' : n ≤ 16777216 := hn
  refine ⟨?_, ?_, h1, h2⟩ <;> omega
theorem ds_pop (j : Nat) {z : Str} {p3 p4 pos pos2 : Pos} (he : BE X W e f) (hN : X.N[j]? = some z := by rfl) (hv : Vis X.env.scope z := by first | exact Or.inl rfl | exact Or.inr (Or.inl rfl) | exact Or.inr (Or.inr rfl)) (hd : (z == ("__debug__" : Str)) = false := by decide)
    (hcd : (z == ("__classdict__" : Str)) = false := by decide) (hbase : attributeBase (.Name z p3) "pop" X.env (eval (.Name z p3) X.env) = eval (.Name z p3) X.env := by rfl)
    (hfew : ((backTo pos (starEach (e :: []) X.env)).all (fun x => !x.1) && (backToKw pos (keywordEach [] X.env)).all (fun x => x.1.isSome)
      && decide ((e :: []).length + ([] : List Keyword).length + (if ([] : List Keyword).isEmpty then 0 else 1) < 30)) = true := by rfl)
    (hline : (p4.endLine == pos.line) = true := by rfl) (hs : starEach (e :: []) X.env = (false, eval e X.env) :: starEach [] X.env := by rfl) (hplain : (backTo pos (starEach [] X.env)).any (·.1) = false := by rfl)
    (hsw : swapsWith (.Call (.Attribute (.Name z p3) "pop" p4) [e] [] pos) none pos2.line X.env = pure false := by rfl) :
    DS X W (.Expr (.Call (.Attribute (.Name z p3) "pop" p4) [e] [] pos) pos2) (sPop j f) := by
  have h1 : PS X (.Expr (.Call (.Attribute (.Name z p3) "pop" p4) [e] [] pos) pos2) (tDrop (tBM X.K "list" rPopAt (tVar j) (tCons (tB' X.K X.mg W f) tNil))) :=
    ps_expr (pe_bm PySem.F.plainAttrs_list PySem.F.slot_list_pop PySem.F.type_list_pop mt_popAt (pe_var hN hv hd hcd) (pa_cons he pa_nil hs) hbase hfew hline hs hplain) hsw
  exact
  PS.imp h1 fun D σ H ⟨ρ, O, H0, s, q⟩ => by
    unfold sPop at q
    split at q
    · rename_i es ei
      obtain ⟨a, xs, e1, hx, hl, rx⟩ := own_get s.slots ei
      refine ⟨.ref a, e1, .inl ⟨rfl, _, .inl (.inl hx)⟩, ρ, O, H0, s, SK.exprB s q fun d H1 v s1 r1 q1 => ?_⟩
      obtain ⟨a', xs1, e1', hx1, hl1, rx1⟩ := own_get s1.slots ei
      rw [e1] at e1'
      cases e1'
      split at q1
      · rename_i k
        cases r1.int
        split at q1
        · rename_i n hk
          rw [← rx1.length] at hk
          obtain ⟨b1, b2, b3, b4⟩ := ixN_box hk hl1
          obtain ⟨y, hy⟩ : ∃ y, xs1[n]? = some y := ⟨xs1[n], List.getElem?_eq_getElem b4⟩
          refine ⟨a, xs1, k, n, y, rfl, rfl, hx1, b1, b2, b3, hy, q1 σ _ (s1.change e1 ei (.inl ⟨_, _, rfl, upd_same, ?_, rx1.erase n⟩))⟩
          exact Nat.le_trans (List.length_eraseIdx_le _ _) hl1
        · exact q1.elim
      · exact q1.elim
    · exact q.elim
theorem ds_appPop (i j : Nat) {y z : Str} {p1 p2 p3 p4 pos pos1 pos2 : Pos} (he : BE X W e f) (hij : i ≠ j := by decide) (hN : X.N[i]? = some y := by rfl) (hv : Vis X.env.scope y := by first | exact Or.inl rfl | exact Or.inr (Or.inl rfl) | exact Or.inr (Or.inr rfl)) (hd : (y == ("__debug__" : Str)) = false := by decide)
    (hcd : (y == ("__classdict__" : Str)) = false := by decide) (hN2 : X.N[j]? = some z := by rfl) (hv2 : Vis X.env.scope z := by first | exact Or.inl rfl | exact Or.inr (Or.inl rfl) | exact Or.inr (Or.inr rfl)) (hd2 : (z == ("__debug__" : Str)) = false := by decide)
    (hcd2 : (z == ("__classdict__" : Str)) = false := by decide)
    (hbase : attributeBase (.Name y p1) "append" X.env (eval (.Name y p1) X.env) = eval (.Name y p1) X.env := by rfl)
    (hbase2 : attributeBase (.Name z p3) "pop" X.env (eval (.Name z p3) X.env) = eval (.Name z p3) X.env := by rfl)
    (hfew : ((backTo pos1 (starEach (.Call (.Attribute (.Name z p3) "pop" p4) [e] [] pos :: []) X.env)).all (fun x => !x.1) && (backToKw pos1 (keywordEach [] X.env)).all (fun x => x.1.isSome)
      && decide ((Expr.Call (.Attribute (.Name z p3) "pop" p4) [e] [] pos :: []).length + ([] : List Keyword).length + (if ([] : List Keyword).isEmpty then 0 else 1) < 30)) = true := by rfl)
    (hfew2 : ((backTo pos (starEach (e :: []) X.env)).all (fun x => !x.1) && (backToKw pos (keywordEach [] X.env)).all (fun x => x.1.isSome)
      && decide ((e :: []).length + ([] : List Keyword).length + (if ([] : List Keyword).isEmpty then 0 else 1) < 30)) = true := by rfl)
    (hline : (p2.endLine == pos1.line) = true := by rfl) (hline2 : (p4.endLine == pos.line) = true := by rfl)
    (hs : starEach (.Call (.Attribute (.Name z p3) "pop" p4) [e] [] pos :: []) X.env = (false, eval (.Call (.Attribute (.Name z p3) "pop" p4) [e] [] pos) X.env) :: starEach [] X.env := by rfl) (hplain : (backTo pos1 (starEach [] X.env)).any (·.1) = false := by rfl)
    (hs2 : starEach (e :: []) X.env = (false, eval e X.env) :: starEach [] X.env := by rfl) (hplain2 : (backTo pos (starEach [] X.env)).any (·.1) = false := by rfl)
    (hsw : swapsWith (.Call (.Attribute (.Name y p1) "append" p2) [.Call (.Attribute (.Name z p3) "pop" p4) [e] [] pos] [] pos1) none pos2.line X.env = pure false := by rfl) :
    DS X W (.Expr (.Call (.Attribute (.Name y p1) "append" p2) [.Call (.Attribute (.Name z p3) "pop" p4) [e] [] pos] [] pos1) pos2) (sAppPop i j f) := by
  have h0 : PE X (.Call (.Attribute (.Name z p3) "pop" p4) [e] [] pos) (tBM X.K "list" rPopAt (tVar j) (tCons (tB' X.K X.mg W f) tNil)) :=
    pe_bm PySem.F.plainAttrs_list PySem.F.slot_list_pop PySem.F.type_list_pop mt_popAt (pe_var hN2 hv2 hd2 hcd2) (pa_cons he pa_nil hs2) hbase2 hfew2 hline2 hs2 hplain2
  have h1 : PS X (.Expr (.Call (.Attribute (.Name y p1) "append" p2) [.Call (.Attribute (.Name z p3) "pop" p4) [e] [] pos] [] pos1) pos2) (tDrop (tBM X.K "list" rAppend (tVar i) (tCons (tBM X.K "list" rPopAt (tVar j) (tCons (tB' X.K X.mg W f) tNil)) tNil))) :=
    ps_expr (pe_bm PySem.F.plainAttrs_list PySem.F.slot_list_append PySem.F.type_list_append mt_append (pe_var hN hv hd hcd) (pa_cons h0 pa_nil hs) hbase hfew hline hs hplain) hsw
  exact
  PS.imp h1 fun D σ H ⟨ρ, O, H0, s, q⟩ => by
    unfold sAppPop at q
    split at q
    · rename_i ds es ei ej
      obtain ⟨a, xs, e1, hx, hl, rx⟩ := own_get s.slots ei
      obtain ⟨b, ys, e2, hy, hl2, ry⟩ := own_get s.slots ej
      refine ⟨.ref a, e1, .inl ⟨rfl, _, .inl (.inl hx)⟩, .ref b, e2, .inl ⟨rfl, _, .inl (.inl hy)⟩, ρ, O, H0, s, SK.exprB s q fun d H1 v s1 r1 q1 => ?_⟩
      obtain ⟨b', ys1, e2', hy1, hl1, ry1⟩ := own_get s1.slots ej
      rw [e2] at e2'
      cases e2'
      split at q1
      · rename_i k
        cases r1.int
        split at q1
        · rename_i n hk
          rw [← ry1.length] at hk
          obtain ⟨b1, b2, b3, b4⟩ := ixN_box hk hl1
          split at q1
          · rename_i w hw
            obtain ⟨u, hu, ru⟩ := ry1.get hw
            split at q1
            · rename_i hlt
              have s2 := s1.change (o := .lst (ys1.eraseIdx n)) (d' := .list (es.eraseIdx n)) e2 ej (.inl ⟨_, _, rfl, upd_same, Nat.le_trans (List.length_eraseIdx_le _ _) hl1, ry1.erase n⟩)
              have ei2 : (ρ.set j (some (.own (.list (es.eraseIdx n)))))[i]? = some (some (.own (.list ds))) := by
                rw [List.getElem?_set_ne (Ne.symm hij)]
                exact ei
              obtain ⟨a', xs2, e1', hx2, hlx2, rx2⟩ := own_get s2.slots ei2
              rw [e1] at e1'
              cases e1'
              have mb := owned_mem e2 ej
              have eo := owned_same (d' := .list (es.eraseIdx n)) e2 ej
              have hh : hide (upd H1 b (.lst (ys1.eraseIdx n))) (O ++ owned σ (ρ.set j (some (.own (.list (es.eraseIdx n)))))) = hide H1 (O ++ owned σ ρ) := by
                rw [eo]
                exact hide_upd (List.mem_append_right _ mb)
              have hlt' : xs2.length < mx := by rw [rx2.length]; exact hlt
              refine ⟨b, ys1, k, n, u, rfl, rfl, hy1, b1, b2, b3, hu, a, xs2, u, rfl, rfl, hx2, by rw [← mx_line]; exact hlt', q1 σ _ (s2.change e1 ei2 (.inl ⟨_, _, rfl, upd_same, ?_, rx2.append (.cons (by rw [hh]; exact ru) .nil)⟩))⟩
              rw [List.length_append]
              exact hlt'
            · exact q1.elim
          · exact q1.elim
        · exact q1.elim
      · exact q1.elim
    · exact q.elim
/-- a[k] = e -/
theorem ds_setIx (i : Nat) {y : Str} {p1 p2 pos : Pos} (he : DE X W e f) (hk : BE X W ek fk) (hN : X.N[i]? = some y := by rfl) (hv : Vis X.env.scope y := by first | exact Or.inl rfl | exact Or.inr (Or.inl rfl) | exact Or.inr (Or.inr rfl)) (hd : (y == ("__debug__" : Str)) = false := by decide)
    (hcd : (y == ("__classdict__" : Str)) = false := by decide)
    (ha : ∀ v, assign (.Subscript (.Name y p1) ek p2) X.env v = (do
      let ov ← holding [v] (eval (.Name y p1) X.env)
      let iv ← holding [v, ov] (eval ek X.env)
      standAt p2
      holding [v, ov, iv] (setItem ov iv v)
      release [v, ov, iv] []) := by intro _; rfl)
    (hs : swapsWithSole [.Subscript (.Name y p1) ek p2] e pos.line X.env = pure false := by rfl) (hw : swappedStores [.Subscript (.Name y p1) ek p2] e X.env = pure none := by rfl)
    (h1 : (assignEach [.Subscript (.Name y p1) ek p2] X.env).map (·.2) = [assign (.Subscript (.Name y p1) ek p2) X.env] := by rfl) :
    DS X W (.Assign [.Subscript (.Name y p1) ek p2] e pos) (sSetIx i fk f) :=
  PS.imp (ps_asg he (pg_sub (pe_var hN hv hd hcd) hk set_list ha) hs hw h1) fun D σ H ⟨ρ, O, H0, s, q⟩ => by
    unfold sSetIx at q
    split at q
    · rename_i ds ei
      refine ⟨ρ, O, H0, s, SK.expr s q fun d H1 v s1 r1 q1 => ?_⟩
      obtain ⟨a, xs, e1, hx, hl, rx⟩ := own_get s1.slots ei
      refine ⟨.ref a, e1, ρ, O, H0, s1, SK.exprBg s1 q1 fun k H2 u g2 s2 r2 q2 => ?_⟩
      obtain ⟨a', xs2, e1', hx2, hl2, rx2⟩ := own_get s2.slots ei
      rw [e1] at e1'
      cases e1'
      split at q2
      · rename_i k
        cases r2.int
        split at q2
        · rename_i n hk2
          rw [← rx2.length] at hk2
          refine ⟨a, xs2, k, n, rfl, rfl, hx2, hk2, q2 σ _ (s2.change e1 ei (.inl ⟨_, _, rfl, upd_same, by rw [List.length_set]; exact hl2, rx2.set n ?_⟩))⟩
          exact r1.mono (hide_same _ g2)
        · exact q2.elim
      · exact q2.elim
    · exact q.elim
end
end DL

/-! DL14: x[::-1] of a list or a tuple. -/
namespace DL
open PySem PySem.Spec PyProof.Rows L2
section
variable {prog : Program} {w : World} {A : Around} {E : Value → Shared → Prop} {s : Shared}
theorem adjust_rev (n : Nat) : Builtin.Slice.sliceAdjust none none (-1) (n : Int) = ((n : Int) - 1, -1) := by
  unfold Builtin.Slice.sliceAdjust
  have h1 : ((-1 : Int) < 0) := by omega
  simp only [h1, if_true]
theorem places_rev (n : Nat) : Builtin.Slice.slicePlaces ((n : Int) - 1) (-1) (-1) = n := by
  unfold Builtin.Slice.slicePlaces
  have h1 : ¬ ((-1 : Int) > 0) := by omega
  simp only [h1, if_false]
  have e : -(-1 : Int) = 1 := by omega
  rw [e, Int.ediv_one]
  split <;> omega
theorem sliceApplied_rev {sl : Addr} {t : Tok} {n : Nat} {Q : Int × Int × Nat → Shared → Prop} (hs : s.heap.IsSliceOf sl .none .none (.int (-1) t))
    (h : Q ((n : Int) - 1, -1, n) s) : wpAny (model prog w) A (Builtin.Slice.sliceApplied (.ref sl) (pure (n : Int))) Q E s := by
  obtain ⟨os, hos, hcs, hds⟩ := id hs
  unfold Builtin.Slice.sliceApplied Builtin.Slice.sliceFields
  refine wpAny_bind (wpAny_bind (wpAny_field hos hds (x := .none) rfl (wpAny_bind (wpAny_field hos hds (x := .none) rfl (wpAny_bind (wpAny_field hos hds (x := .int (-1) t) rfl (wpAny_pure ?_)))))))
  refine wpAny_bind (slicePart_int ?_)
  show wpAny _ _ (if ((-1 : Int) == 0) = true then _ else _) _ _ s
  rw [if_neg (by decide)]
  refine wpAny_bind (slicePart_none (wpAny_bind (slicePart_none (wpAny_bind (wpAny_pure ?_)))))
  show wpAny _ _ (match Builtin.Slice.sliceAdjust none none (-1) (n : Int) with | (lo, hi) => pure (lo, (-1 : Int), Builtin.Slice.slicePlaces lo hi (-1))) _ _ s
  rw [adjust_rev n]
  show wpAny _ _ (pure ((n : Int) - 1, (-1 : Int), Builtin.Slice.slicePlaces ((n : Int) - 1) (-1) (-1))) _ _ s
  rw [places_rev]
  exact wpAny_pure h
theorem fm_congr {α β : Type} {f g : α → Option β} : ∀ {l : List α}, (∀ m ∈ l, f m = g m) → l.filterMap f = l.filterMap g
  | [], _ => rfl
  | x :: l, h => by
    rw [List.filterMap_cons, List.filterMap_cons, h x List.mem_cons_self, fm_congr fun m hm => h m (List.mem_cons_of_mem _ hm)]
theorem pick_rev (xs : Array Value) : ((List.range xs.size).filterMap fun (m : Nat) => xs[(((xs.size : Int) - 1) + (m : Int) * (-1)).toNat]?).toArray = xs.toList.reverse.toArray := by
  congr 1
  apply List.ext_getElem?
  intro i
  rcases Nat.lt_or_ge i xs.size with h | h
  · have e1 : (List.range xs.size).filterMap (fun (m : Nat) => xs[(((xs.size : Int) - 1) + (m : Int) * (-1)).toNat]?) = (List.range xs.size).map fun m => (xs[xs.size - 1 - m]?).getD .none := by
      rw [← List.filterMap_eq_map]
      refine fm_congr fun m hm => ?_
      have hm' := List.mem_range.mp hm
      have e2 : (((xs.size : Int) - 1) + (m : Int) * (-1)).toNat = xs.size - 1 - m := by omega
      rw [e2]
      have h3 : xs.size - 1 - m < xs.size := by omega
      simp [h3]
    rw [e1, List.getElem?_map, List.getElem?_range h, List.getElem?_reverse (by simpa using h)]
    have h3 : xs.size - 1 - i < xs.size := by omega
    simp [h3]
  · have l1 : ((List.range xs.size).filterMap fun (m : Nat) => xs[(((xs.size : Int) - 1) + (m : Int) * (-1)).toNat]?).length ≤ i := by
      refine Nat.le_trans (List.length_filterMap_le _ _) ?_
      rw [List.length_range]
      exact h
    rw [List.getElem?_eq_none l1, List.getElem?_eq_none (by simpa using h)]
theorem getItem_tuple_rev {t sl : Addr} {items : Array Value} {tk : Tok} {Q : Value → Shared → Prop} (ht : IsTup s.heap t items) (hs : s.heap.IsSliceOf sl .none .none (.int (-1) tk))
    (h : Q (.ref s.heap.objs.size) { s with heap := s.heap.push { cls := .type "tuple", data := .seq items.toList.reverse.toArray } })
    (hsz : items.size ≤ sizeLine) : wpAny (model prog w) A (getItem (.ref t) (.ref sl)) Q E s := by
  have htake : sizeOk (.seq items.toList.reverse.toArray) := by
    show items.toList.reverse.toArray.size ≤ sizeLine
    rw [List.size_toArray, List.length_reverse, Array.length_toList]
    exact hsz
  obtain ⟨os, hos, hcs, hds⟩ := id hs
  have hTs : s.TypeIs (.ref sl) "slice" := ⟨os, hos, hcs⟩
  unfold getItem
  try with_reducible refine wpAny_holding ?_
  first | refine wpAny_bind (wpAny_pure ?_) | skip
  refine wpAny_bind (wpAny_sequenceKey ht.typeIs (by decide) ?_)
  refine wpAny_bind (wpAny_callSpecial?_slot (name := Str.ofString "__getitem__") ht.typeIs PyProof.Rows.slot_tuple_getitem
    (wpAny_call_entry PyProof.Rows.slot_tuple_getitem ht.typeIs entry_tuple_getitem ?_ (args_tuple_getitem _ _)))
  show wpAny _ _ (Builtin.Tuple.tupleItemsOf (.ref t) >>= _) _ _ s
  refine wpAny_bind (tupleItemsOf_ ht ?_)
  refine wpAny_bind (wpAny_typeOf hTs ?_)
  rw [if_pos (by decide)]
  refine wpAny_bind (sliceApplied_rev hs ?_)
  have hno : ¬ ((((items.size : Int) - 1) == 0 && (-1 : Int) == 1 && items.size == items.size) = true) := by
    intro q
    rw [Bool.and_eq_true, Bool.and_eq_true] at q
    exact absurd (eq_of_beq q.1.2) (by decide)
  show wpAny _ _ (if (((items.size : Int) - 1) == 0 && (-1 : Int) == 1 && items.size == items.size) = true then _ else _) _ _ s
  rw [if_neg hno, pick_rev]
  first
    | exact wpAny_bind (m := Builtin.Tuple.tupleExact _) (wpAny_newObj_type (wpAny_pure ⟨_, rfl, wpAny_pure h⟩) htake)
    | exact wpAny_bind (m := Builtin.Tuple.tupleExact _) (wpAny_newObj_type (wpAny_bind (wpAny_pure (wpAny_pure ⟨_, rfl, wpAny_pure h⟩))) htake)
    | exact wpAny_bind (wpAny_bind (m := Builtin.Tuple.tupleExact _) (wpAny_newObj_type (wpAny_pure (wpAny_pure ⟨_, rfl, wpAny_pure h⟩)) htake))
    | exact wpAny_bind (wpAny_bind (m := Builtin.Tuple.tupleExact _) (wpAny_newObj_type (wpAny_pure ⟨_, rfl, wpAny_pure h⟩) htake))
end
section
variable {X : Cx} {W : WX} {a : Expr} {fa : En → Rs PyData} {pos : Pos}
def tRevB (K : PySem.W.Frag) (te : TE) : TE := fun σ H Q => te σ H fun x H1 =>
  (∃ a xs, x = .ref a ∧ SqL K H1 a xs ∧ ∀ p, H1 p = none → Q (.ref p) (upd H1 p (.lst xs.reverse))) ∨
  (∃ a xs, x = .ref a ∧ SqT K H1 a xs ∧ ∀ p, H1 p = none → ∀ o : Obj, o.dict = none → Q (.ref p) (upd H1 p (.frz o (.tup xs.reverse))))
theorem pe_revB {e : Expr} {te : TE} {k : Nat} {p1 p2 p3 pos : Pos} (he : PE X e te) : PE X (.Subscript e (.Slice none none (some (.UnaryOp .USub (.Constant (.int 1) k p1) p2)) p3) pos) (tRevB X.K te) := by
  refine ⟨fun pins s σ H Q I h => ?_⟩
  refine Subscript_ (thn (he.run pins s σ H _ I h) fun v s1 ⟨x, H1, I1, r1, q1⟩ => ?_)
  have hst : PO X (some (.UnaryOp .USub (.Constant (.int 1) k p1) p2)) (tPart (tUn (rU fun i => .int (-i)) (tC (.int 1)))) := po_some (pe_un un_neg pe_int)
  refine wpAny_Slice (thn (po_none.run pins s1 σ H1 (fun o H2 => o = none ∧ H2 = H1) I1 ⟨rfl, rfl⟩) fun vl s2 ⟨l, H2, I2, pl, el, e2⟩ => ?_)
  subst el e2
  refine thn (po_none.run pins s2 σ H2 (fun o H3 => o = none ∧ H3 = H2) I2 ⟨rfl, rfl⟩) fun vu s3 ⟨u, H3, I3, pu, eu, e3⟩ => ?_
  subst eu e3
  refine thn (hst.run pins s3 σ H3 (fun o H4 => o = some (-1) ∧ H4 = H3) I3 ⟨1, rfl, -1, rfl, rfl, rfl⟩) fun vs s4 ⟨o, H4, I4, ps, eo, e4⟩ => ?_
  subst eo e4
  have I5 : Inv X pins σ H4 { s4 with heap := s4.heap.push { cls := .type "slice", data := .fields #[vl, vu, vs] } } := I4.kept (t' := s4.toks) fun b ob q => Heap.get?_push_of_some _ q
  rcases q1 with ⟨a, xs, ex, hx, q⟩ | ⟨a, xs, ex, hx, q⟩
  · subst ex
    cases r1
    obtain ⟨its, r, ht, hz⟩ := I5.list hx
    have hlen := r.length
    show wpAny (model X.prog X.w) X.A (subscriptTail e (.Slice none none (some (.UnaryOp .USub (.Constant (.int 1) k p1) p2)) p3) (.ref a) (.ref s4.heap.objs.size)) (EP X pins σ Q) X.xe { s4 with heap := s4.heap.push { cls := .type "slice", data := .fields #[vl, vu, vs] } }
    refine tail_any (ops := [.ref a, .ref s4.heap.objs.size]) ht.isList.typeIs (PySem.slot_list_getitem.lookup) ?_ (by with_unfolding_all rfl)
    refine wpAny_getItem_list_slice ht.isList (Heap.IsSliceOf.new _ vl vu vs) pl pu ps (by decide) ?_ (by rw [List.size_toArray]; omega)
    rw [PySem.W.krv_pick]
    refine ⟨.ref _, _, I5.laid (t' := s4.toks) (o := .lst xs.reverse) (fun b ob q => Heap.get?_push_of_some _ q) (Nat.le_refl _) ?_, rfl, q _ (I5.hok.fresh (Nat.le_refl _))⟩
    exact ⟨by rw [List.length_reverse]; exact hz, _, 0, r.reverse, Heap.get?_push_size _ rfl⟩
  · subst ex
    cases r1
    obtain ⟨its, r, ht, hz⟩ := I5.tuple hx
    have hlen := r.length
    cases pl
    cases pu
    cases ps with
    | int i tk =>
      show wpAny (model X.prog X.w) X.A (subscriptTail e (.Slice none none (some (.UnaryOp .USub (.Constant (.int 1) k p1) p2)) p3) (.ref a) (.ref s4.heap.objs.size)) (EP X pins σ Q) X.xe { s4 with heap := s4.heap.push { cls := .type "slice", data := .fields #[.none, .none, .int (-1) tk] } }
      refine tail_any (ops := [.ref a, .ref s4.heap.objs.size]) ht.typeIs (PyProof.Rows.slot_tuple_getitem.lookup) ?_ (by with_unfolding_all rfl)
      refine getItem_tuple_rev ht (Heap.IsSliceOf.new _ .none .none (.int (-1) tk)) ?_ (by rw [List.size_toArray]; omega)
      refine ⟨.ref _, _, I5.laid (t' := s4.toks) (o := .frz _ (.tup xs.reverse)) (fun b ob q => Heap.get?_push_of_some _ q) (Nat.le_refl _) ⟨Heap.get?_push_size _ rfl, ?_⟩, rfl, q _ (I5.hok.fresh (Nat.le_refl _)) _ rfl⟩
      exact ⟨by rw [List.length_reverse]; exact hz, _, r.reverse, IsTup.new _ _⟩
def oRevB : PyData → Rs PyData
  | .list xs => .ok (.list xs.reverse)
  | .tuple xs => .ok (.tuple xs.reverse)
  | _ => .bad
theorem de_revB {k : Nat} {p1 p2 p3 : Pos} (ha : BE X W a fa) : DE X W (.Subscript a (.Slice none none (some (.UnaryOp .USub (.Constant (.int 1) k p1) p2)) p3) pos) (b1 oRevB fa) :=
  PE.imp (pe_revB ha) fun σ H Q ⟨ρ, O, H0, s, q⟩ => ⟨ρ, O, H0, s, RKB.of q fun d H1 v g1 r1 q1 => by
    unfold oRevB at q1
    split at q1
    · obtain ⟨p, xs, rfl, hx, lx, rX⟩ := r1.list
      exact .inl ⟨p, xs, rfl, .inl hx, fun q hq => q1.newL (s.grow g1).there hq (by rw [List.length_reverse]; exact lx) rX.reverse⟩
    · obtain ⟨p, xs, rfl, hx, lx, rX⟩ := r1.tuple
      exact .inr ⟨p, xs, rfl, hx, fun q hq => q1.newT (s.grow g1).there hq (by rw [List.length_reverse]; exact lx) rX.reverse⟩
    · exact q1.elim⟩
end
end DL

/-! DE9: calls without arguments. -/
namespace DL
open PySem PySem.Spec PyProof.Rows L2
section
variable {X : Cx} {W : WX} {pos p : Pos} {x : Str} {k : Nat} {g : List PyData → Rs PyData}
def dCall0 (g : List PyData → Rs PyData) : En → Rs PyData := fun _ => g []
theorem de_call0 (F : Fn X.prog X.w X.K X.mg X.base k x g) (hr : Room k X.A) (tk : Takes X W) (hg : Gl X x := by rfl) (hdb : (x == ("__debug__" : Str)) = false := by decide) : DE X W (.Call (.Name x p) [] [] pos) (dCall0 g) := by
  obtain ⟨fn, fd, ps, F, hm, hk, hb⟩ := F
  refine ⟨fun pins s σ H Q I ⟨ρ, O, H0, sr, q⟩ => ?_⟩
  refine wpAny_Call_Name_kw (ld_glob I hg hm (PySem.W.callWith_K0 I.kIn hk ?_) hdb)
  have qs : spD X.K X.mg g [] H Q (WE W σ) := ⟨O ++ owned σ ρ, [], sr.there, .nil, RK.toF q⟩
  have hl : ([] : List Value).length = ps.length := F.len _ _ _ _ qs
  have b := hb s [] I.kIn (by rw [List.append_nil]; exact hl)
  rw [List.append_nil] at b
  refine wpAny_call (codeAny_mono (F.run X.A X.stack s H ⟨[], []⟩ [] [] Q (WE W σ) hr I.env0 b .nil qs) fun res s' hq => ?_)
  cases res with
  | error e => exact passAt tk σ pins H s e s' I hq
  | ok fl =>
    cases fl with
    | ret u => exact I.after hq
    | next => exact hq.elim
    | brk => exact hq.elim
    | cont => exact hq.elim
end
end DL

/-! SH1: typed readings of denotations. -/
namespace DL
open PySem PySem.Spec PyProof.Rows L2

/-! ### what a reading promises -/
structure Q {α β : Type} (e : α → β) (r : Rs α) (x : Rs β) : Prop where
  out : match r with
    | .bad => True
    | .ok a => x = .ok (e a)
    | .ex z => x = .ex z
section
variable {α β γ δ : Type} {e : α → β} {r : Rs α} {x : Rs β}
theorem qp {v : α} (h : x = .ok (e v)) : Q e (.ok v) x := ⟨h⟩
theorem qbad : Q e .bad x := ⟨trivial⟩
theorem qex {z : Exn} : Q e (.ex z) (.ex z : Rs β) := ⟨rfl⟩
theorem Q.ok {v : α} (h : Q e r x) (he : r = .ok v) : x = .ok (e v) := by subst he; exact h.out
theorem Q.ex {z : Exn} (h : Q e r x) (he : r = .ex z) : x = .ex z := by subst he; exact h.out
theorem qbind {ea : γ → δ} {ra : Rs γ} {y : Rs δ} {k : γ → Rs α} {g : δ → Rs β} (h : Q ea ra y) (hk : ∀ a, Q e (k a) (g (ea a))) : Q e (ra.bind k) (y.bind g) := by
  cases ra with
  | ok a => rw [h.out]; exact hk a
  | ex z => rw [h.out]; exact ⟨rfl⟩
  | bad => exact ⟨trivial⟩
theorem qbindP {d : δ} {y : Rs δ} {g : δ → Rs β} (h : y = .ok d) (hk : Q e r (g d)) : Q e r (y.bind g) := by rw [h]; exact hk
theorem pbind {d : δ} {v : β} {y : Rs δ} {g : δ → Rs β} (h : y = .ok d) (hk : g d = .ok v) : y.bind g = .ok v := by rw [h]; exact hk
theorem q_if {c : Bool} {r2 : Rs α} {x2 : Rs β} (h1 : Q e r x) (h2 : Q e r2 x2) : Q e (if c then r else r2) (if c then x else x2) := by
  cases c
  · exact h2
  · exact h1
end
/-- the reading of what is told by its denotation alone -/
noncomputable def dcdR {α : Type} (e : α → PyData) (x : Rs PyData) : Rs α := match x with
  | .ok d => open Classical in if h : ∃ v, e v = d then .ok h.choose else .bad
  | .ex z => .ex z
  | .bad => .bad
theorem q_dcd {α : Type} (e : α → PyData) (x : Rs PyData) : Q e (dcdR e x) x := by
  refine ⟨?_⟩
  cases x with
  | ok d =>
    unfold dcdR
    dsimp only
    by_cases h : ∃ v, e v = d
    · rw [dif_pos h]
      show Rs.ok d = .ok (e h.choose)
      rw [h.choose_spec]
    · rw [dif_neg h]
      trivial
  | ex z => exact rfl
  | bad => trivial
theorem dcd_ok {α : Type} {e : α → PyData} (inj : ∀ a b, e a = e b → a = b) {v : α} : dcdR e (.ok (e v)) = .ok v := by
  unfold dcdR
  dsimp only
  have h : ∃ w, e w = e v := ⟨v, rfl⟩
  rw [dif_pos h]
  exact congrArg _ (inj _ _ h.choose_spec)

/-! ### how typed values stand in data -/
abbrev Env := PyData → PyData
def eN (_ : Unit) : PyData := .none
def eL {α : Type} (e : α → PyData) (xs : List α) : PyData := .list (xs.map e)
def eT {α : Type} (e : α → PyData) (xs : List α) : PyData := .tuple (xs.map e)
def eP1 {α : Type} (ea : α → PyData) (p : α) : PyData := .tuple [ea p]
def eP2 {α β : Type} (ea : α → PyData) (eb : β → PyData) (p : α × β) : PyData := .tuple [ea p.1, eb p.2]
def eP3 {α β γ : Type} (ea : α → PyData) (eb : β → PyData) (ec : γ → PyData) (p : α × β × γ) : PyData := .tuple [ea p.1, eb p.2.1, ec p.2.2]
def eP4 {α β γ δ : Type} (ea : α → PyData) (eb : β → PyData) (ec : γ → PyData) (ed : δ → PyData) (p : α × β × γ × δ) : PyData := .tuple [ea p.1, eb p.2.1, ec p.2.2.1, ed p.2.2.2]
def eP5 {α β γ δ ε : Type} (ea : α → PyData) (eb : β → PyData) (ec : γ → PyData) (ed : δ → PyData) (ee : ε → PyData) (p : α × β × γ × δ × ε) : PyData := .tuple [ea p.1, eb p.2.1, ec p.2.2.1, ed p.2.2.2.1, ee p.2.2.2.2]
def eO {α : Type} (e : α → PyData) : Option α → PyData
  | none => .none
  | some a => e a
def eLI (xs : List Int) : PyData := .list (xs.map .int)

/-! ### expressions -/
section
variable {α β γ : Type} {e : α → PyData} {ea : β → PyData} {eb : γ → PyData} {op1 : PyData → Rs PyData} {op2 : PyData → PyData → Rs PyData} {f g : En → Rs PyData} {ρ : En} {d d' d2 : PyData} {r : Rs α} {ra : Rs β} {rb : Rs γ}
theorem p_b1 (h : f ρ = .ok d) (hk : op1 d = .ok d') : b1 op1 f ρ = .ok d' := pbind h hk
theorem q_b1P (h : f ρ = .ok d) (hk : Q e r (op1 d)) : Q e r (b1 op1 f ρ) := qbindP h hk
theorem q_b1M {k : β → Rs α} (h : Q ea ra (f ρ)) (hk : ∀ a, Q e (k a) (op1 (ea a))) : Q e (ra.bind k) (b1 op1 f ρ) := qbind h hk
theorem p_b2 (h : f ρ = .ok d) (h2 : g ρ = .ok d2) (hk : op2 d d2 = .ok d') : b2 op2 f g ρ = .ok d' := pbind h (pbind h2 hk)
theorem q_b2PP (h : f ρ = .ok d) (h2 : g ρ = .ok d2) (hk : Q e r (op2 d d2)) : Q e r (b2 op2 f g ρ) := qbindP h (qbindP h2 hk)
theorem q_b2MP {k : β → Rs α} (h : Q ea ra (f ρ)) (h2 : g ρ = .ok d2) (hk : ∀ a, Q e (k a) (op2 (ea a) d2)) : Q e (ra.bind k) (b2 op2 f g ρ) := qbind h fun a => qbindP h2 (hk a)
theorem q_b2PM {k : γ → Rs α} (h : f ρ = .ok d) (h2 : Q eb rb (g ρ)) (hk : ∀ b, Q e (k b) (op2 d (eb b))) : Q e (rb.bind k) (b2 op2 f g ρ) := qbindP h (qbind h2 hk)
theorem q_b2MM {k : β → γ → Rs α} (h : Q ea ra (f ρ)) (h2 : Q eb rb (g ρ)) (hk : ∀ a b, Q e (k a b) (op2 (ea a) (eb b))) : Q e (ra.bind fun a => rb.bind fun b => k a b) (b2 op2 f g ρ) := qbind h fun a => qbind h2 (hk a)
variable {h : List PyData → Rs PyData} {fs : En → Rs (List PyData)}
theorem q_callN (hk : Q e r (h [])) : Q e r ((aNil ρ).bind h) := hk
theorem q_callP (hf : f ρ = .ok d) (hk : Q e r ((fs ρ).bind fun ds => h (d :: ds))) : Q e r ((aCons f fs ρ).bind h) := by
  show Q e r (((f ρ).bind fun d => (fs ρ).bind fun ds => .ok (d :: ds)).bind h)
  rw [hf]
  show Q e r (((fs ρ).bind fun ds => .ok (d :: ds)).bind h)
  generalize fs ρ = y at *
  cases y <;> exact hk
theorem q_callM {k : β → Rs α} (hf : Q ea ra (f ρ)) (hk : ∀ a, Q e (k a) ((fs ρ).bind fun ds => h (ea a :: ds))) : Q e (ra.bind k) ((aCons f fs ρ).bind h) := by
  have q := qbind (e := e) (g := fun d => ((fs ρ).bind fun ds => .ok (d :: ds)).bind h) hf (k := k) fun a => by
    have := hk a
    generalize fs ρ = y at *
    cases y <;> exact this
  have e2 : (aCons f fs ρ).bind h = (f ρ).bind fun d => ((fs ρ).bind fun ds => .ok (d :: ds)).bind h := by
    show ((f ρ).bind fun d => (fs ρ).bind fun ds => .ok (d :: ds)).bind h = _
    cases f ρ <;> rfl
  rw [e2]
  exact q
theorem q_call (hk : Q e r ((fs ρ).bind h)) : Q e r (dCall h fs ρ) := hk
theorem q_call0 (hk : Q e r (h [])) : Q e r (dCall0 h ρ) := hk
/-- the same, of what ends well for certain -/
theorem p_nil {v : PyData} (hk : h [] = .ok v) : (aNil ρ).bind h = .ok v := hk
theorem p_cons {v : PyData} (hf : f ρ = .ok d) (hk : ((fs ρ).bind fun ds => h (d :: ds)) = .ok v) : (aCons f fs ρ).bind h = .ok v := by
  show ((f ρ).bind fun d => (fs ρ).bind fun ds => .ok (d :: ds)).bind h = .ok v
  rw [hf]
  show ((fs ρ).bind fun ds => .ok (d :: ds)).bind h = .ok v
  generalize fs ρ = y at *
  cases y <;> exact hk
def tupK (ds : List PyData) : Rs PyData := if ds.length ≤ mx then .ok (.tuple ds) else .bad
def lstK (ds : List PyData) : Rs PyData := if ds.length ≤ mx then .ok (.list ds) else .bad
theorem tupK_ok {ds : List PyData} (h : ds.length ≤ 64 := by exact Nat.le_of_ble_eq_true rfl) : tupK ds = .ok (.tuple ds) := if_pos (Nat.le_trans h (by decide))
theorem lstK_ok {ds : List PyData} (h : ds.length ≤ 64 := by exact Nat.le_of_ble_eq_true rfl) : lstK ds = .ok (.list ds) := if_pos (Nat.le_trans h (by decide))
theorem q_mkT (hk : Q e r ((fs ρ).bind tupK)) : Q e r (mkT fs ρ) := hk
theorem p_mkT {v : PyData} (hk : (fs ρ).bind tupK = .ok v) : mkT fs ρ = .ok v := hk
theorem q_mkL (hk : Q e r ((fs ρ).bind lstK)) : Q e r (mkL fs ρ) := hk
theorem p_mkL {v : PyData} (hk : (fs ρ).bind lstK = .ok v) : mkL fs ρ = .ok v := hk
end
/-! ### tests -/
section
variable {f g : En → Rs PyData} {tf tg : En → Rs Bool} {ρ : En} {b c : Bool} {rb rc : Rs Bool}
theorem p_tst (h : f ρ = .ok (.bool b)) : tst f ρ = .ok b := pbind h rfl
theorem q_tst (h : Q PyData.bool rb (f ρ)) : Q id rb (tst f ρ) := by
  cases rb with
  | ok a => exact ⟨pbind h.out rfl⟩
  | ex z => exact ⟨by show (f ρ).bind oTru = _; rw [show f ρ = .ex z from h.out]; rfl⟩
  | bad => exact qbad
theorem p_andD (h : tf ρ = .ok b) (h2 : tg ρ = .ok c) : tAndD tf tg ρ = .ok (b && c) := pbind h (by cases b; exact rfl; exact h2)
theorem p_orD (h : tf ρ = .ok b) (h2 : tg ρ = .ok c) : tOrD tf tg ρ = .ok (b || c) := pbind h (by cases b; exact h2; exact rfl)
theorem p_notD (h : tf ρ = .ok b) : tNotD tf ρ = .ok (!b) := pbind h rfl
theorem q_andD (h : Q id rb (tf ρ)) (h2 : Q id rc (tg ρ)) : Q id (rb.bind fun b => if b then rc else .ok false) (tAndD tf tg ρ) := qbind h fun b => by
  cases b
  · exact qp rfl
  · exact h2
theorem q_andDP (h : tf ρ = .ok b) (h2 : Q id rc (tg ρ)) : Q id (if b then rc else .ok false) (tAndD tf tg ρ) := q_andD (qp (e := id) h) h2
theorem q_orD (h : Q id rb (tf ρ)) (h2 : Q id rc (tg ρ)) : Q id (rb.bind fun b => if b then .ok true else rc) (tOrD tf tg ρ) := qbind h fun b => by
  cases b
  · exact h2
  · exact qp rfl
theorem q_orDP (h : tf ρ = .ok b) (h2 : Q id rc (tg ρ)) : Q id (if b then .ok true else rc) (tOrD tf tg ρ) := q_orD (qp (e := id) h) h2
theorem q_notD (h : Q id rb (tf ρ)) : Q id (rb.bind fun b => .ok (!b)) (tNotD tf ρ) := qbind h fun b => qp rfl
theorem p_vAnd (h : f ρ = .ok (.bool b)) (h2 : g ρ = .ok (.bool c)) : vAnd f g ρ = .ok (.bool (b && c)) := by
  rw [x_vAnd, h, bind_ok, andV_b, h2]
  cases b <;> rfl
theorem q_vAnd (h : Q PyData.bool rb (f ρ)) (h2 : Q PyData.bool rc (g ρ)) : Q PyData.bool (rb.bind fun b => if b then rc else .ok false) (vAnd f g ρ) := by
  rw [x_vAnd]
  refine qbind h fun b => ?_
  rw [andV_b]
  cases b
  · exact qp rfl
  · exact h2
theorem q_vAndP (h : f ρ = .ok (.bool b)) (h2 : Q PyData.bool rc (g ρ)) : Q PyData.bool (if b then rc else .ok false) (vAnd f g ρ) := q_vAnd (qp (e := PyData.bool) h) h2
theorem p_vOr (h : f ρ = .ok (.bool b)) (h2 : g ρ = .ok (.bool c)) : vOr f g ρ = .ok (.bool (b || c)) := by
  rw [x_vOr, h, bind_ok, orV_b, h2]
  cases b <;> rfl
theorem q_vOr (h : Q PyData.bool rb (f ρ)) (h2 : Q PyData.bool rc (g ρ)) : Q PyData.bool (rb.bind fun b => if b then .ok true else rc) (vOr f g ρ) := by
  rw [x_vOr]
  refine qbind h fun b => ?_
  rw [orV_b]
  cases b
  · exact h2
  · exact qp rfl
theorem q_vOrP (h : f ρ = .ok (.bool b)) (h2 : Q PyData.bool rc (g ρ)) : Q PyData.bool (if b then .ok true else rc) (vOr f g ρ) := q_vOr (qp (e := PyData.bool) h) h2
theorem p_vIf {α : Type} {e : α → PyData} {x y : α} (h : tf ρ = .ok b) (h1 : f ρ = .ok (e x)) (h2 : g ρ = .ok (e y)) : vIf tf f g ρ = .ok (e (bif b then x else y)) := pbind h (by cases b; exact h2; exact h1)
theorem q_vIf {α : Type} {e : α → PyData} {x y : Rs α} (h : Q id rb (tf ρ)) (h1 : Q e x (f ρ)) (h2 : Q e y (g ρ)) : Q e (rb.bind fun b => if b then x else y) (vIf tf f g ρ) := qbind h fun b => by
  cases b
  · exact h2
  · exact h1
theorem q_vIfP {α : Type} {e : α → PyData} {x y : Rs α} (h : tf ρ = .ok b) (h1 : Q e x (f ρ)) (h2 : Q e y (g ρ)) : Q e (if b then x else y) (vIf tf f g ρ) := q_vIf (qp (e := id) h) h1 h2
end
end DL

/-! SH2: typed readings of statements. -/
namespace DL
open PySem PySem.Spec PyProof.Rows L2

/-- what a piece of code is read for -/
structure Md (R : Type) where
  W : Rs R → SRes → Prop
  Z : En → Prop
  bad : ∀ s, W .bad s
  ex : ∀ z ρ, Z ρ → W (.ex z) (.ex z ρ)
structure Md.H {R : Type} (m : Md R) (r : Rs R) (s : SRes) : Prop where out : m.W r s
/-- a loop's turn: on, out, back -/
inductive Ct (σ R : Type) where
  | nx (s : σ)
  | brk (s : σ)
  | ret (r : R)
/-- a def -/
def mF {R : Type} (e : R → PyData) : Md R where
  W r s := Q e r (outS s)
  Z _ := True
  bad _ := qbad
  ex _ _ _ := qex
/-- a block without ways out; a loop's turn without ways out -/
def mB {σ : Type} (rel : σ → En → Prop) (Z : En → Prop) : Md σ where
  W r s := match r with
    | .bad => True
    | .ok a => ∃ ρ', (s = .nx ρ' ∨ s = .ct ρ') ∧ rel a ρ'
    | .ex z => ∃ ρ', s = .ex z ρ' ∧ Z ρ'
  Z := Z
  bad _ := trivial
  ex _ ρ h := ⟨ρ, rfl, h⟩
/-- a loop's turn -/
def mL {σ R : Type} (rel : σ → En → Prop) (e : R → PyData) (Z : En → Prop) : Md (Ct σ R) where
  W r s := match r with
    | .bad => True
    | .ok (.nx a) => ∃ ρ', (s = .nx ρ' ∨ s = .ct ρ') ∧ rel a ρ'
    | .ok (.brk a) => ∃ ρ', s = .brk ρ' ∧ rel a ρ'
    | .ok (.ret v) => s = .ret (e v)
    | .ex z => ∃ ρ', s = .ex z ρ' ∧ Z ρ'
  Z := Z
  bad _ := trivial
  ex _ ρ h := ⟨ρ, rfl, h⟩
/-- a block that only stores -/
def mN (ρ1 : En) : Md Unit where
  W r s := match r with
    | .ok _ => s = .nx ρ1
    | .ex _ => True
    | .bad => True
  Z _ := True
  bad _ := trivial
  ex _ _ _ := trivial

theorem then_assoc (s : SRes) (g K : En → SRes) : sThen (sThen s g) K = sThen s fun ρ => sThen (g ρ) K := by cases s <;> rfl
section
variable {R α β : Type} {m : Md R} {r r1 r2 : Rs R} {K g1 g2 : En → SRes} {ρ : En} {f : En → Rs PyData} {d : PyData} {ea : α → PyData} {ra : Rs α} {k : α → Rs R}
theorem hM {x : Rs β} {ρ : En} {kx : β → SRes} {e : α → β} (hz : m.Z ρ) (h : Q e ra x) (hk : ∀ a, m.H (k a) (sThen (kx (e a)) K)) : m.H (ra.bind k) (sThen (eS ρ x kx) K) := by
  cases ra with
  | ok a => rw [show x = .ok (e a) from h.out]; exact hk a
  | ex z => rw [show x = .ex z from h.out]; exact ⟨m.ex z ρ hz⟩
  | bad => exact ⟨m.bad _⟩
theorem hP {x : Rs β} {v : β} {kx : β → SRes} (h : x = .ok v) (hk : m.H r (sThen (kx v) K)) : m.H r (sThen (eS ρ x kx) K) := by rw [h]; exact hk
theorem r_seq (h : m.H r (sThen (g1 ρ) fun ρ => sThen (g2 ρ) K)) : m.H r (sThen (sSeq g1 g2 ρ) K) := by
  rw [show sSeq g1 g2 ρ = sThen (g1 ρ) g2 from rfl, then_assoc]
  exact h
theorem r_nil (h : m.H r (K ρ)) : m.H r (sThen (sNil ρ) K) := h
theorem r_frz {i : Nat} {g : En → SRes} (h : m.H r (sThen (g (frz i ρ)) K)) : m.H r (sThen (sFrz i g ρ) K) := h
theorem r_setP {i : Nat} (h : f ρ = .ok d) (hk : m.H r (K (ρ.set i (some (.val d))))) : m.H r (sThen (sSet i f ρ) K) := hP h hk
theorem r_setM {i : Nat} (hz : m.Z ρ) (h : Q ea ra (f ρ)) (hk : ∀ a, m.H (k a) (K (ρ.set i (some (.val (ea a)))))) : m.H (ra.bind k) (sThen (sSet i f ρ) K) := hM hz h hk
theorem r_setOP {i : Nat} (h : f ρ = .ok d) (hk : m.H r (K (ρ.set i (some (.own d))))) : m.H r (sThen (sSetO i f ρ) K) := hP h hk
theorem r_setOM {i : Nat} (hz : m.Z ρ) (h : Q ea ra (f ρ)) (hk : ∀ a, m.H (k a) (K (ρ.set i (some (.own (ea a)))))) : m.H (ra.bind k) (sThen (sSetO i f ρ) K) := hM hz h hk
theorem r_dropP (h : f ρ = .ok d) (hk : m.H r (K ρ)) : m.H r (sThen (sDrop f ρ) K) := hP h hk
theorem r_dropM (hz : m.Z ρ) (h : Q ea ra (f ρ)) (hk : m.H r (K ρ)) : m.H (ra.bind fun _ => r) (sThen (sDrop f ρ) K) := hM hz h fun _ => hk
theorem r_asgP {τ : TgD} {ρ1 : En} (h : f ρ = .ok d) (ht : τ d ρ = .ok ρ1) (hk : m.H r (K ρ1)) : m.H r (sThen (sAsg f τ ρ) K) := hP h (by
  rw [ht]
  exact hk)
theorem r_asgM {τ : TgD} {ρ1 : α → En} (hz : m.Z ρ) (h : Q ea ra (f ρ)) (ht : ∀ a, τ (ea a) ρ = .ok (ρ1 a)) (hk : ∀ a, m.H (k a) (K (ρ1 a))) : m.H (ra.bind k) (sThen (sAsg f τ ρ) K) := hM hz h fun a => by
  rw [ht]
  exact hk a
theorem r_if {t : En → Rs Bool} {c : Bool} (h : t ρ = .ok c) (h1 : m.H r1 (sThen (g1 ρ) K)) (h2 : m.H r2 (sThen (g2 ρ) K)) : m.H (if c then r1 else r2) (sThen (sIf t g1 g2 ρ) K) := hP h (by
  cases c
  · exact h2
  · exact h1)
theorem r_ifM {t : En → Rs Bool} {rc : Rs Bool} (hz : m.Z ρ) (h : Q id rc (t ρ)) (h1 : m.H r1 (sThen (g1 ρ) K)) (h2 : m.H r2 (sThen (g2 ρ) K)) : m.H (rc.bind fun c => if c then r1 else r2) (sThen (sIf t g1 g2 ρ) K) := hM hz h fun c => by
  cases c
  · exact h2
  · exact h1
/-- both branches only store -/
theorem r_ifU {t : En → Rs Bool} {c : Bool} (ρJ : Bool → En) (h : t ρ = .ok c) (h1 : (mN (ρJ true)).H (.ok ()) (sThen (g1 ρ) .nx)) (h2 : (mN (ρJ false)).H (.ok ()) (sThen (g2 ρ) .nx)) (hk : m.H r (K (ρJ c))) : m.H r (sThen (sIf t g1 g2 ρ) K) := hP h (by
  have nxE : ∀ s : SRes, sThen s .nx = s := fun s => by cases s <;> rfl
  cases c
  · have e : sThen (g2 ρ) .nx = .nx (ρJ false) := h2.out
    rw [nxE] at e
    show m.H r (sThen (g2 ρ) K)
    rw [e]
    exact hk
  · have e : sThen (g1 ρ) .nx = .nx (ρJ true) := h1.out
    rw [nxE] at e
    show m.H r (sThen (g1 ρ) K)
    rw [e]
    exact hk)
theorem r_endN {ρ1 : En} (h : ρ = ρ1) : (mN ρ1).H (.ok ()) (.nx ρ) := ⟨by rw [h]; exact rfl⟩
/-- what comes behind, once -/
theorem r_join {σ : Type} (rel : σ → En → Prop) {k : σ → Rs R} {s : SRes} (hk : ∀ s ρ', rel s ρ' → m.H (k s) (K ρ')) (h : ∀ K', (∀ s ρ', rel s ρ' → m.H (k s) (K' ρ')) → m.H r (sThen s K')) : m.H r (sThen s K) := h K hk
theorem r_joined {σ : Type} {rel : σ → En → Prop} {k : σ → Rs R} (hk : ∀ s ρ', rel s ρ' → m.H (k s) (K ρ')) {s : σ} (h : rel s ρ) : m.H (k s) (K ρ) := hk s ρ h
/-! ### ways out -/
theorem r_retF {e : R → PyData} {v : R} (h : f ρ = .ok (e v)) : (mF e).H (.ok v) (sThen (sRet f ρ) K) := hP h ⟨qp rfl⟩
theorem r_retFM {e : R → PyData} {r : Rs R} (h : Q e r (f ρ)) : (mF e).H r (sThen (sRet f ρ) K) := by
  cases r with
  | ok v => exact r_retF h.out
  | ex z =>
    refine ⟨?_⟩
    show Q e (.ex z) (outS (sThen (eS ρ (f ρ) .ret) K))
    rw [show f ρ = .ex z from h.out]
    exact qex
  | bad => exact ⟨qbad⟩
theorem r_retNF {e : R → PyData} {v : R} (h : e v = .none) : (mF e).H (.ok v) (sThen (sRetN ρ) K) := ⟨by
  show Q e (.ok v) (.ok .none)
  rw [← h]
  exact qp rfl⟩
theorem r_endF {e : R → PyData} {v : R} (h : e v = .none) : (mF e).H (.ok v) (.nx ρ) := ⟨by
  show Q e (.ok v) (.ok .none)
  rw [← h]
  exact qp rfl⟩
theorem r_exF {e : R → PyData} {z : Exn} : (mF e).H (.ex z) (.ex z ρ) := ⟨qex⟩
section
variable {σ V : Type} {rel : σ → En → Prop} {e : V → PyData} {Z : En → Prop} {s : σ} {v : V} {rv : Rs V}
theorem r_retL (h : f ρ = .ok (e v)) : (mL rel e Z).H (.ok (.ret v)) (sThen (sRet f ρ) K) := hP h ⟨rfl⟩
theorem r_retLM (hz : Z ρ) (h : Q e rv (f ρ)) : (mL rel e Z).H (rv.bind fun v => .ok (.ret v)) (sThen (sRet f ρ) K) := hM hz h fun v => ⟨rfl⟩
theorem r_retNL (h : e v = .none) : (mL rel e Z).H (.ok (.ret v)) (sThen (sRetN ρ) K) := ⟨by
  show SRes.ret .none = .ret (e v)
  rw [h]⟩
theorem r_brkL (h : rel s ρ) : (mL rel e Z).H (.ok (.brk s)) (sThen (sBrk ρ) K) := ⟨⟨ρ, rfl, h⟩⟩
theorem r_ctL (h : rel s ρ) : (mL rel e Z).H (.ok (.nx s)) (sThen (sCt ρ) K) := ⟨⟨ρ, .inr rfl, h⟩⟩
theorem r_endL (h : rel s ρ) : (mL rel e Z).H (.ok (.nx s)) (.nx ρ) := ⟨⟨ρ, .inl rfl, h⟩⟩
theorem r_ctB (h : rel s ρ) : (mB rel Z).H (.ok s) (sThen (sCt ρ) K) := ⟨⟨ρ, .inr rfl, h⟩⟩
theorem r_endB (h : rel s ρ) : (mB rel Z).H (.ok s) (.nx ρ) := ⟨⟨ρ, .inl rfl, h⟩⟩
end
/-! ### lists that grow -/
def appR (xs : List α) (x : α) : Rs (List α) := if xs.length < mx then .ok (xs ++ [x]) else .bad
@[simp] theorem appR_ok {xs : List α} {x : α} (h : xs.length < mx) : appR xs x = .ok (xs ++ [x]) := if_pos h
theorem r_appP {i : Nat} {xs : List α} {x : α} {k : List α → Rs R} (hi : ρ[i]? = some (some (.own (eL ea xs)))) (h : f ρ = .ok (ea x)) (hk : ∀ ys, m.H (k ys) (K (ρ.set i (some (.own (eL ea ys)))))) : m.H ((appR xs x).bind k) (sThen (sApp i f ρ) K) := by
  have e : sApp i f ρ = eS ρ (f ρ) fun d => if (xs.map ea).length < mx then .nx (ρ.set i (some (.own (.list (xs.map ea ++ [d]))))) else .bad := by
    unfold sApp
    rw [hi]
    rfl
  rw [e, h]
  unfold appR
  by_cases c : xs.length < mx
  · rw [if_pos c, eS_ok, if_pos (by rw [List.length_map]; exact c)]
    have := hk (xs ++ [x])
    unfold eL at this
    rw [List.map_append] at this
    exact this
  · rw [if_neg c]
    exact ⟨m.bad _⟩
theorem r_appM {i : Nat} {xs : List α} {rx : Rs α} {k : List α → Rs R} (hz : m.Z ρ) (hi : ρ[i]? = some (some (.own (eL ea xs)))) (h : Q ea rx (f ρ)) (hk : ∀ ys, m.H (k ys) (K (ρ.set i (some (.own (eL ea ys)))))) : m.H (rx.bind fun x => (appR xs x).bind k) (sThen (sApp i f ρ) K) := by
  cases rx with
  | ok x => exact r_appP hi h.out hk
  | ex z =>
    have e : sApp i f ρ = .ex z ρ := by
      unfold sApp
      rw [hi]
      show eS ρ (f ρ) _ = _
      rw [show f ρ = .ex z from h.out]
      rfl
    rw [e]
    exact ⟨m.ex z ρ hz⟩
  | bad => exact ⟨m.bad _⟩
/-- xs[i] = x -/
def setR (xs : List α) (i : Int) (x : α) : Rs (List α) := match ixN xs.length i with
  | some j => .ok (xs.set j x)
  | none => .bad
theorem r_setIxP {i : Nat} {xs : List α} {x : α} {j : Int} {fk : En → Rs PyData} {k : List α → Rs R} (hi : ρ[i]? = some (some (.own (eL ea xs)))) (h : f ρ = .ok (ea x)) (hj : fk ρ = .ok (.int j)) (hk : ∀ ys, m.H (k ys) (K (ρ.set i (some (.own (eL ea ys)))))) : m.H ((setR xs j x).bind k) (sThen (sSetIx i fk f ρ) K) := by
  unfold sSetIx setR
  rw [hi]
  show m.H _ (sThen (eS ρ (f ρ) fun d => eS ρ (fk ρ) fun k => match k with
    | .int k => (match ixN (xs.map ea).length k with
      | some j => .nx (ρ.set i (some (.own (.list ((xs.map ea).set j d)))))
      | none => .bad)
    | _ => .bad) K)
  rw [h, hj, eS_ok, eS_ok, List.length_map]
  dsimp only
  cases ixN xs.length j with
  | none => exact ⟨m.bad _⟩
  | some n =>
    have := hk (xs.set n x)
    unfold eL at this
    rw [List.map_set] at this
    exact this
/-! ### loops -/
def forB {σ : Type} (b : σ → α → Rs σ) : List α → σ → Rs σ
  | [], s => .ok s
  | x :: xs, s => (b s x).bind fun s => forB b xs s
def Ct.nxt {σ V V' : Type} (t : Ct σ V) (k : σ → Rs V') (kr : V → Rs V') : Rs V' := match t with
  | .nx s => k s
  | .brk s => k s
  | .ret v => kr v
@[simp] theorem nxt_nx {σ V V' : Type} (s : σ) (k : σ → Rs V') (kr : V → Rs V') : (Ct.nx s : Ct σ V).nxt k kr = k s := Eq.trans rfl rfl
@[simp] theorem nxt_brk {σ V V' : Type} (s : σ) (k : σ → Rs V') (kr : V → Rs V') : (Ct.brk s : Ct σ V).nxt k kr = k s := Eq.trans rfl rfl
@[simp] theorem nxt_ret {σ V V' : Type} (v : V) (k : σ → Rs V') (kr : V → Rs V') : (Ct.ret v : Ct σ V).nxt k kr = kr v := Eq.trans rfl rfl
def forC {σ V : Type} (b : σ → α → Rs (Ct σ V)) : List α → σ → Rs (Ct σ V)
  | [], s => .ok (.nx s)
  | x :: xs, s => (b s x).bind fun t => match t with
    | .nx s => forC b xs s
    | .brk s => .ok (.nx s)
    | .ret v => .ok (.ret v)
theorem for_B {σ : Type} {rel : σ → En → Prop} {Z : En → Prop} {τ : TgD} {b : En → SRes} {bd : σ → α → Rs σ} (hb : ∀ s x ρ', rel s ρ' → ∃ ρ1, τ (ea x) ρ' = .ok ρ1 ∧ (mB rel Z).H (bd s x) (sThen (b ρ1) .nx)) : ∀ (xs : List α) (s : σ) (ρ : En), rel s ρ →
    match forB bd xs s with
    | .bad => True
    | .ok s' => ∃ ρ', forS τ b (xs.map ea) ρ = .nx ρ' ∧ rel s' ρ'
    | .ex z => ∃ ρ', forS τ b (xs.map ea) ρ = .ex z ρ' ∧ Z ρ'
  | [], s, ρ, h => ⟨ρ, rfl, h⟩
  | x :: xs, s, ρ, h => by
    have nxE : ∀ s : SRes, sThen s .nx = s := fun s => by cases s <;> rfl
    obtain ⟨ρ1, ht, hw⟩ := hb s x ρ h
    have hw := hw.out
    rw [nxE] at hw
    have e : forS τ b ((x :: xs).map ea) ρ = (match b ρ1 with
      | .nx ρ' => forS τ b (xs.map ea) ρ'
      | .ct ρ' => forS τ b (xs.map ea) ρ'
      | .brk ρ' => .nx ρ'
      | r => r) := by
      rw [List.map_cons]
      conv => lhs; unfold forS
      (rw [ht]) <;> rfl
    rw [e]
    unfold forB
    cases eb : bd s x with
    | bad => trivial
    | ok s1 =>
      rw [eb] at hw
      obtain ⟨ρ', h1, h2⟩ := hw
      have ih := for_B hb xs s1 ρ' h2
      rcases h1 with h1 | h1 <;> (rw [h1]; exact ih)
    | ex z =>
      rw [eb] at hw
      obtain ⟨ρ', h1, h2⟩ := hw
      rw [h1]
      exact ⟨ρ', rfl, h2⟩
theorem for_C {σ V : Type} {rel : σ → En → Prop} {e : V → PyData} {Z : En → Prop} {τ : TgD} {b : En → SRes} {bd : σ → α → Rs (Ct σ V)} (hb : ∀ s x ρ', rel s ρ' → ∃ ρ1, τ (ea x) ρ' = .ok ρ1 ∧ (mL rel e Z).H (bd s x) (sThen (b ρ1) .nx)) : ∀ (xs : List α) (s : σ) (ρ : En), rel s ρ →
    match forC bd xs s with
    | .bad => True
    | .ok (.nx s') => ∃ ρ', forS τ b (xs.map ea) ρ = .nx ρ' ∧ rel s' ρ'
    | .ok (.brk s') => ∃ ρ', forS τ b (xs.map ea) ρ = .nx ρ' ∧ rel s' ρ'
    | .ok (.ret v) => forS τ b (xs.map ea) ρ = .ret (e v)
    | .ex z => ∃ ρ', forS τ b (xs.map ea) ρ = .ex z ρ' ∧ Z ρ'
  | [], s, ρ, h => ⟨ρ, rfl, h⟩
  | x :: xs, s, ρ, h => by
    have nxE : ∀ s : SRes, sThen s .nx = s := fun s => by cases s <;> rfl
    obtain ⟨ρ1, ht, hw⟩ := hb s x ρ h
    have hw := hw.out
    rw [nxE] at hw
    have e : forS τ b ((x :: xs).map ea) ρ = (match b ρ1 with
      | .nx ρ' => forS τ b (xs.map ea) ρ'
      | .ct ρ' => forS τ b (xs.map ea) ρ'
      | .brk ρ' => .nx ρ'
      | r => r) := by
      rw [List.map_cons]
      conv => lhs; unfold forS
      (rw [ht]) <;> rfl
    rw [e]
    unfold forC
    cases eb : bd s x with
    | bad => trivial
    | ok t =>
      rw [eb] at hw
      cases t with
      | nx s1 =>
        obtain ⟨ρ', h1, h2⟩ := hw
        have ih := for_C hb xs s1 ρ' h2
        rcases h1 with h1 | h1 <;> (rw [h1]; exact ih)
      | brk s1 =>
        obtain ⟨ρ', h1, h2⟩ := hw
        rw [h1]
        exact ⟨ρ', rfl, h2⟩
      | ret v =>
        rw [show b ρ1 = .ret _ from hw]
        exact rfl
    | ex z =>
      rw [eb] at hw
      obtain ⟨ρ', h1, h2⟩ := hw
      rw [h1]
      exact ⟨ρ', rfl, h2⟩
theorem r_forB {σ : Type} (rel : σ → En → Prop) {fi : En → Rs (List PyData)} {τ : TgD} {b : En → SRes} {bd : σ → α → Rs σ} {s0 : σ} {xs : List α} {k : σ → Rs R} (hi : fi ρ = .ok (xs.map ea)) (h0 : rel s0 ρ) (hb : ∀ s x ρ', rel s ρ' → ∃ ρ1, τ (ea x) ρ' = .ok ρ1 ∧ (mB rel m.Z).H (bd s x) (sThen (b ρ1) .nx)) (hk : ∀ s ρ', rel s ρ' → m.H (k s) (K ρ')) : m.H ((forB bd xs s0).bind k) (sThen (sFor fi τ b ρ) K) := by
  refine hP hi ?_
  have q := for_B hb xs s0 ρ h0
  cases e : forB bd xs s0 with
  | bad => exact ⟨m.bad _⟩
  | ok s =>
    rw [e] at q
    obtain ⟨ρ', h1, h2⟩ := q
    rw [h1]
    exact hk s ρ' h2
  | ex z =>
    rw [e] at q
    obtain ⟨ρ', h1, h2⟩ := q
    rw [h1]
    exact ⟨m.ex z ρ' h2⟩
theorem r_forBM {σ : Type} (rel : σ → En → Prop) {fi : En → Rs (List PyData)} {τ : TgD} {b : En → SRes} {bd : σ → α → Rs σ} {s0 : σ} {rx : Rs (List α)} {k : σ → Rs R} (hz : m.Z ρ) (hi : Q (List.map ea) rx (fi ρ)) (h0 : rel s0 ρ) (hb : ∀ s x ρ', rel s ρ' → ∃ ρ1, τ (ea x) ρ' = .ok ρ1 ∧ (mB rel m.Z).H (bd s x) (sThen (b ρ1) .nx)) (hk : ∀ s ρ', rel s ρ' → m.H (k s) (K ρ')) : m.H (rx.bind fun xs => (forB bd xs s0).bind k) (sThen (sFor fi τ b ρ) K) := by
  cases rx with
  | ok xs => exact r_forB rel hi.out h0 hb hk
  | ex z =>
    have e : sFor fi τ b ρ = .ex z ρ := by
      show eS ρ (fi ρ) _ = _
      rw [show fi ρ = .ex z from hi.out]
      rfl
    rw [e]
    exact ⟨m.ex z ρ hz⟩
  | bad => exact ⟨m.bad _⟩
theorem r_forC {σ V : Type} (rel : σ → En → Prop) (e : V → PyData) {fi : En → Rs (List PyData)} {τ : TgD} {b : En → SRes} {bd : σ → α → Rs (Ct σ V)} {s0 : σ} {xs : List α} {k : σ → Rs R} {kr : V → Rs R} (hi : fi ρ = .ok (xs.map ea)) (h0 : rel s0 ρ) (hb : ∀ s x ρ', rel s ρ' → ∃ ρ1, τ (ea x) ρ' = .ok ρ1 ∧ (mL rel e m.Z).H (bd s x) (sThen (b ρ1) .nx)) (hk : ∀ s ρ', rel s ρ' → m.H (k s) (K ρ')) (hr : ∀ v, m.H (kr v) (.ret (e v))) : m.H ((forC bd xs s0).bind fun t => t.nxt k kr) (sThen (sFor fi τ b ρ) K) := by
  refine hP hi ?_
  have q := for_C hb xs s0 ρ h0
  cases e : forC bd xs s0 with
  | bad => exact ⟨m.bad _⟩
  | ok t =>
    rw [e] at q
    cases t with
    | nx s =>
      obtain ⟨ρ', h1, h2⟩ := q
      rw [h1]
      exact hk s ρ' h2
    | brk s =>
      obtain ⟨ρ', h1, h2⟩ := q
      rw [h1]
      exact hk s ρ' h2
    | ret v =>
      rw [show forS τ b (xs.map ea) ρ = .ret _ from q]
      exact hr v
  | ex z =>
    rw [e] at q
    obtain ⟨ρ', h1, h2⟩ := q
    rw [h1]
    exact ⟨m.ex z ρ' h2⟩
theorem r_forCM {σ V : Type} (rel : σ → En → Prop) (e : V → PyData) {fi : En → Rs (List PyData)} {τ : TgD} {b : En → SRes} {bd : σ → α → Rs (Ct σ V)} {s0 : σ} {rx : Rs (List α)} {k : σ → Rs R} {kr : V → Rs R} (hz : m.Z ρ) (hi : Q (List.map ea) rx (fi ρ)) (h0 : rel s0 ρ) (hb : ∀ s x ρ', rel s ρ' → ∃ ρ1, τ (ea x) ρ' = .ok ρ1 ∧ (mL rel e m.Z).H (bd s x) (sThen (b ρ1) .nx)) (hk : ∀ s ρ', rel s ρ' → m.H (k s) (K ρ')) (hr : ∀ v, m.H (kr v) (.ret (e v))) : m.H (rx.bind fun xs => (forC bd xs s0).bind fun t => t.nxt k kr) (sThen (sFor fi τ b ρ) K) := by
  cases rx with
  | ok xs => exact r_forC rel e hi.out h0 hb hk hr
  | ex z =>
    have e : sFor fi τ b ρ = .ex z ρ := by
      show eS ρ (fi ρ) _ = _
      rw [show fi ρ = .ex z from hi.out]
      rfl
    rw [e]
    exact ⟨m.ex z ρ hz⟩
  | bad => exact ⟨m.bad _⟩
theorem r_rF {e : R → PyData} (v : R) : (mF e).H (.ok v) (.ret (e v)) := ⟨qp rfl⟩
theorem r_rL {σ : Type} {rel : σ → En → Prop} {e : R → PyData} {Z : En → Prop} (v : R) : (mL rel e Z).H (.ok (.ret v)) (.ret (e v)) := ⟨rfl⟩
/-! ### while -/
def whB {σ : Type} (t : σ → Rs Bool) (b : σ → Rs σ) : Nat → σ → Rs σ
  | 0, _ => .bad
  | n + 1, s => (t s).bind fun c => if c then (b s).bind fun s => whB t b n s else .ok s
theorem wh_B {σ : Type} {rel : σ → En → Prop} {Z : En → Prop} {t : En → Rs Bool} {b : En → SRes} {tt : σ → Rs Bool} {bd : σ → Rs σ} (hz : ∀ s ρ', rel s ρ' → Z ρ') (ht : ∀ s ρ', rel s ρ' → Q id (tt s) (t ρ')) (hb : ∀ s ρ', rel s ρ' → (mB rel Z).H (bd s) (sThen (b ρ') .nx)) : ∀ (n : Nat) (s : σ) (ρ : En), rel s ρ →
    match whB tt bd n s with
    | .bad => True
    | .ok s' => ∃ ρ', whileS t b n ρ = .nx ρ' ∧ rel s' ρ'
    | .ex z => ∃ ρ', whileS t b n ρ = .ex z ρ' ∧ Z ρ'
  | 0, s, ρ, h => trivial
  | n + 1, s, ρ, h => by
    have nxE : ∀ s : SRes, sThen s .nx = s := fun s => by cases s <;> rfl
    have h1 := ht s ρ h
    have h2 := (hb s ρ h).out
    rw [nxE] at h2
    unfold whB whileS
    cases et : tt s with
    | bad => trivial
    | ex z =>
      rw [et] at h1
      rw [show t ρ = .ex z from h1.out]
      exact ⟨ρ, rfl, hz s ρ h⟩
    | ok c =>
      rw [et] at h1
      rw [show t ρ = .ok c from h1.out, eS_ok, bind_ok]
      cases c with
      | false => exact ⟨ρ, rfl, h⟩
      | true =>
        rw [if_pos rfl, if_pos rfl]
        cases eb : bd s with
        | bad => trivial
        | ok s1 =>
          rw [eb] at h2
          obtain ⟨ρ', h3, h4⟩ := h2
          have ih := wh_B hz ht hb n s1 ρ' h4
          rcases h3 with h3 | h3 <;> (rw [h3]; exact ih)
        | ex z =>
          rw [eb] at h2
          obtain ⟨ρ', h3, h4⟩ := h2
          rw [h3]
          exact ⟨ρ', rfl, h4⟩
theorem r_whB {σ : Type} (rel : σ → En → Prop) {fu : En → Nat} {N : Nat} {t : En → Rs Bool} {b : En → SRes} {tt : σ → Rs Bool} {bd : σ → Rs σ} {s0 : σ} {k : σ → Rs R} (hn : fu ρ = N) (hz : ∀ s ρ', rel s ρ' → m.Z ρ') (h0 : rel s0 ρ) (ht : ∀ s ρ', rel s ρ' → Q id (tt s) (t ρ')) (hb : ∀ s ρ', rel s ρ' → (mB rel m.Z).H (bd s) (sThen (b ρ') .nx)) (hk : ∀ s ρ', rel s ρ' → m.H (k s) (K ρ')) : m.H ((whB tt bd N s0).bind k) (sThen (sWhile fu t b ρ) K) := by
  have q := wh_B hz ht hb N s0 ρ h0
  have e2 : sWhile fu t b ρ = whileS t b N ρ := by rw [← hn]; rfl
  rw [e2]
  cases e : whB tt bd N s0 with
  | bad => exact ⟨m.bad _⟩
  | ok s =>
    rw [e] at q
    obtain ⟨ρ', h1, h2⟩ := q
    rw [h1]
    exact hk s ρ' h2
  | ex z =>
    rw [e] at q
    obtain ⟨ρ', h1, h2⟩ := q
    rw [h1]
    exact ⟨m.ex z ρ' h2⟩
def whC {σ V : Type} (t : σ → Rs Bool) (b : σ → Rs (Ct σ V)) : Nat → σ → Rs (Ct σ V)
  | 0, _ => .bad
  | n + 1, s => (t s).bind fun c => if c then (b s).bind fun x => match x with
      | .nx s => whC t b n s
      | .brk s => .ok (.nx s)
      | .ret v => .ok (.ret v)
    else .ok (.nx s)
theorem wh_C {σ V : Type} {rel : σ → En → Prop} {e : V → PyData} {Z : En → Prop} {t : En → Rs Bool} {b : En → SRes} {tt : σ → Rs Bool} {bd : σ → Rs (Ct σ V)} (hz : ∀ s ρ', rel s ρ' → Z ρ') (ht : ∀ s ρ', rel s ρ' → Q id (tt s) (t ρ')) (hb : ∀ s ρ', rel s ρ' → (mL rel e Z).H (bd s) (sThen (b ρ') .nx)) : ∀ (n : Nat) (s : σ) (ρ : En), rel s ρ →
    match whC tt bd n s with
    | .bad => True
    | .ok (.nx s') => ∃ ρ', whileS t b n ρ = .nx ρ' ∧ rel s' ρ'
    | .ok (.brk s') => ∃ ρ', whileS t b n ρ = .nx ρ' ∧ rel s' ρ'
    | .ok (.ret v) => whileS t b n ρ = .ret (e v)
    | .ex z => ∃ ρ', whileS t b n ρ = .ex z ρ' ∧ Z ρ'
  | 0, s, ρ, h => trivial
  | n + 1, s, ρ, h => by
    have nxE : ∀ s : SRes, sThen s .nx = s := fun s => by cases s <;> rfl
    have h1 := ht s ρ h
    have h2 := (hb s ρ h).out
    rw [nxE] at h2
    unfold whC whileS
    cases et : tt s with
    | bad => trivial
    | ex z =>
      rw [et] at h1
      rw [show t ρ = .ex z from h1.out]
      exact ⟨ρ, rfl, hz s ρ h⟩
    | ok c =>
      rw [et] at h1
      rw [show t ρ = .ok c from h1.out, eS_ok, bind_ok]
      cases c with
      | false => exact ⟨ρ, rfl, h⟩
      | true =>
        rw [if_pos rfl, if_pos rfl]
        cases eb : bd s with
        | bad => trivial
        | ok x =>
          rw [eb] at h2
          cases x with
          | nx s1 =>
            obtain ⟨ρ', h3, h4⟩ := h2
            have ih := wh_C hz ht hb n s1 ρ' h4
            rcases h3 with h3 | h3 <;> (rw [h3]; exact ih)
          | brk s1 =>
            obtain ⟨ρ', h3, h4⟩ := h2
            rw [h3]
            exact ⟨ρ', rfl, h4⟩
          | ret v =>
            rw [show b ρ = .ret _ from h2]
            exact rfl
        | ex z =>
          rw [eb] at h2
          obtain ⟨ρ', h3, h4⟩ := h2
          rw [h3]
          exact ⟨ρ', rfl, h4⟩
theorem r_whC {σ V : Type} (rel : σ → En → Prop) (e : V → PyData) {fu : En → Nat} {N : Nat} {t : En → Rs Bool} {b : En → SRes} {tt : σ → Rs Bool} {bd : σ → Rs (Ct σ V)} {s0 : σ} {k : σ → Rs R} {kr : V → Rs R} (hn : fu ρ = N) (hz : ∀ s ρ', rel s ρ' → m.Z ρ') (h0 : rel s0 ρ) (ht : ∀ s ρ', rel s ρ' → Q id (tt s) (t ρ')) (hb : ∀ s ρ', rel s ρ' → (mL rel e m.Z).H (bd s) (sThen (b ρ') .nx)) (hk : ∀ s ρ', rel s ρ' → m.H (k s) (K ρ')) (hr : ∀ v, m.H (kr v) (.ret (e v))) : m.H ((whC tt bd N s0).bind fun t => t.nxt k kr) (sThen (sWhile fu t b ρ) K) := by
  have q := wh_C hz ht hb N s0 ρ h0
  have e2 : sWhile fu t b ρ = whileS t b N ρ := by rw [← hn]; rfl
  rw [e2]
  cases e : whC tt bd N s0 with
  | bad => exact ⟨m.bad _⟩
  | ok x =>
    rw [e] at q
    cases x with
    | nx s =>
      obtain ⟨ρ', h1, h2⟩ := q
      rw [h1]
      exact hk s ρ' h2
    | brk s =>
      obtain ⟨ρ', h1, h2⟩ := q
      rw [h1]
      exact hk s ρ' h2
    | ret v =>
      rw [show whileS t b N ρ = .ret _ from q]
      exact hr v
  | ex z =>
    rw [e] at q
    obtain ⟨ρ', h1, h2⟩ := q
    rw [h1]
    exact ⟨m.ex z ρ' h2⟩
/-! ### exceptions -/
theorem r_raise0 {x : Str} (hz : m.Z ρ) : m.H (.ex ⟨x, []⟩) (sThen (sRaise0 x ρ) K) := ⟨m.ex _ ρ hz⟩
theorem r_raise {x : Str} {fns : List Str} {fa : En → Rs (List PyData)} {ds : List PyData} (hz : m.Z ρ) (h : fa ρ = .ok ds) (hl : ds.length = fns.length := by exact rfl) : m.H (.ex (exnOf x fns ds)) (sThen (sRaise x fns fa ρ) K) := hP h (by
  rw [if_pos hl]
  exact ⟨m.ex _ ρ hz⟩)
theorem p_aNil : aNil ρ = .ok [] := rfl
theorem p_aCons {fs : En → Rs (List PyData)} {ds : List PyData} (h : f ρ = .ok d) (h2 : fs ρ = .ok ds) : aCons f fs ρ = .ok (d :: ds) := pbind h (pbind h2 rfl)
/-- try: the body ends by a way out, a clause too -/
def mT (e : R → PyData) (Z : En → Prop) : Md R where
  W r s := match r with
    | .bad => True
    | .ok a => s = .ret (e a)
    | .ex z => ∃ ρ', s = .ex z ρ' ∧ Z ρ'
  Z := Z
  bad _ := trivial
  ex _ ρ h := ⟨ρ, rfl, h⟩
theorem r_retT {e : R → PyData} {Z : En → Prop} {v : R} (h : f ρ = .ok (e v)) : (mT e Z).H (.ok v) (sThen (sRet f ρ) K) := hP h ⟨rfl⟩
theorem r_retTM {e : R → PyData} {Z : En → Prop} {r : Rs R} (hz : Z ρ) (h : Q e r (f ρ)) : (mT e Z).H r (sThen (sRet f ρ) K) := by
  have := hM (m := mT e Z) (K := K) (kx := .ret) (k := fun v => .ok v) hz h fun v => ⟨rfl⟩
  have e2 : (r.bind fun v => .ok v) = r := by cases r <;> rfl
  rw [e2] at this
  exact this
end
end DL

/-! DM3: names (many laws draw them). -/
namespace DL
open PySem PySem.Spec PyProof.Rows L2
/-! ### texts -/
theorem len_app (a b : Str) : (a ++ b).length = a.length + b.length := by
  show (a.cps ++ b.cps).size = _
  rw [Array.size_append]
  rfl
theorem len_one (c : Nat) : (⟨#[c]⟩ : Str).length = 1 := rfl
theorem cutS_len (z : Str) (lo hi : Option Int) : (cutS z lo hi).length ≤ z.length := by
  show (List.toArray _).size ≤ z.cps.size
  rw [List.size_toArray, List.length_take, List.length_drop, Array.length_toList]
  show _ ≤ z.length
  have : z.cps.size = z.length := rfl
  omega
theorem join_len (ys : List Str) (h : ∀ y ∈ ys, y.length ≤ 1) : (ys.map (·.length)).sum ≤ ys.length := by
  induction ys with
  | nil => exact Nat.le_refl _
  | cons y ys ih =>
    rw [List.map_cons, List.sum_cons, List.length_cons]
    have h1 := h y List.mem_cons_self
    have h2 := ih fun z hz => h z (List.mem_cons_of_mem _ hz)
    omega
theorem txt_join_len (a : Str) (ys : List Str) : (Txt.join a ys).length ≤ (ys.map (·.length)).sum + ys.length * a.length := by
  unfold Txt.join
  rw [StrLaws.glued_eq_join]
  exact StrLaws.join_length_le a ys
@[simp] theorem cut_s (lo hi : Option Int) (z : Str) : oCut lo hi (.str z) = if z.length ≤ mx then .ok (.str (cutS z lo hi)) else .bad := Eq.trans rfl rfl
theorem ix_str {z : Str} {n : Nat} (hz : z.cps.toList.length = n) (hn : n ≤ 1000) {i : Int} (h0 : 0 ≤ i) (h1 : i < n) : ∃ c : Nat, oIx (.str z) (.int i) = .ok (.str ⟨#[c]⟩) := by
  have hl : z.length ≤ mx := by
    have : z.length = z.cps.toList.length := by rw [Array.length_toList]; rfl
    rw [this, hz]
    show _ ≤ 16777216
    omega
  have e : atI z.cps.toList i = z.cps.toList[i.toNat]? := at_int _ h0
  have hi : i.toNat < z.cps.toList.length := by omega
  refine ⟨z.cps.toList[i.toNat], ?_⟩
  have q : oIx (.str z) (.int i) = if z.length ≤ mx then (match atI z.cps.toList i with | some c => .ok (.str ⟨#[c]⟩) | none => .bad) else .bad := rfl
  rw [q, if_pos hl, e, List.getElem?_eq_getElem hi]
theorem ix_str0 {z : Str} (h : 1 ≤ z.length) (h2 : z.length ≤ 1000) : ∃ c : Nat, oIx (.str z) (.int 0) = .ok (.str ⟨#[c]⟩) := by
  refine ix_str (n := z.length) (by rw [Array.length_toList]; rfl) h2 (Int.le_refl 0) (by omega)
theorem oStr_of {i : Int} (h : i.natAbs.log2 < 1920) : oStr (.int i) = .ok (.str (toString i)) := by
  simp only [oStr]
  exact if_pos h
theorem str_small {i : Int} (h0 : 0 ≤ i) (h1 : i < 10) : ∃ z : Str, oStr (.int i) = .ok (.str z) ∧ z.length = 1 := by
  have : i = 0 ∨ i = 1 ∨ i = 2 ∨ i = 3 ∨ i = 4 ∨ i = 5 ∨ i = 6 ∨ i = 7 ∨ i = 8 ∨ i = 9 := by omega
  rcases this with rfl | rfl | rfl | rfl | rfl | rfl | rfl | rfl | rfl | rfl <;> exact ⟨_, oStr_of (by decide +kernel), by decide +kernel⟩
theorem lcL_ex {τ : TgD} {te : En → Rs PyData} {ρ : En} (P : PyData → Prop) : ∀ (xs : List PyData), (∀ d ∈ xs, ∃ ρ1 y, τ d ρ = .ok ρ1 ∧ te ρ1 = .ok y ∧ P y) → ∃ ys, lcL τ tY te xs ρ = .ok ys ∧ ys.length = xs.length ∧ ∀ y ∈ ys, P y
  | [], _ => ⟨[], rfl, rfl, fun y h => by cases h⟩
  | d :: ds, h => by
    obtain ⟨ρ1, y, e1, e2, p⟩ := h d List.mem_cons_self
    obtain ⟨ys, e, l, q⟩ := lcL_ex P ds fun z hz => h z (List.mem_cons_of_mem _ hz)
    refine ⟨y :: ys, ?_, by rw [List.length_cons, List.length_cons, l], fun z hz => ?_⟩
    · unfold lcL
      rw [e1]
      show (match te ρ1 with
        | .ok y => (lcL τ tY te ds ρ).bind fun r => .ok (y :: r)
        | _ => .bad) = _
      rw [e2, e]
      rfl
    · rcases List.mem_cons.mp hz with h | h
      · rw [h]; exact p
      · exact q z h
/-! ### names -/
def ce_names : En → Rs PyData :=
  (b2 oIx (dVar 3) (b2 oIx (dVar 4) (b2 oAdd (dC (.int 5)) (dVar 6))))
def cl_names : En → SRes :=
  (sSeq (sSet 9 (b2 oAdd (b2 oIx (dVar 2) (b2 oMod (b1 oInt (b2 oAdd (b2 oMul (dVar 6) (dC (.int 5))) (b2 oIx (dVar 4) (dC (.int 4))))) (dC (.int 26)))) (b1 oStr (b2 oDiv (dVar 6) (dC (.int 26))))))
  (sSeq (sSet 10 (dCut (dVar 5) pNo (pSo (b2 oMod (b1 oInt (b2 oAdd (b2 oIx (dVar 4) (dC (.int 1))) (b2 oMul (dC (.int 3)) (dVar 6)))) (dC (.int 11))))))
  (sIf (tAndD (tst (b2 oEq (b2 oIx (dVar 4) (dC (.int 0))) (dC (.int 0)))) (tst (b2 oLe (dVar 1) (dC (.int 26)))))
  (sApp 8 (b2 oIx (dVar 9) (dC (.int 0))))
  (sIf (tst (b2 oLe (b2 oIx (dVar 4) (dC (.int 0))) (dC (.int 1))))
  (sApp 8 (b2 oAdd (b2 oAdd (dCut (dVar 5) pNo (pSo (dVar 7))) (dVar 9)) (dCut (dVar 5) (pSo (dVar 7)) (pSo (b2 oIx (dVar 4) (dC (.int 1)))))))
  (sIf (tst (b2 oEq (b2 oIx (dVar 4) (dC (.int 0))) (dC (.int 2))))
  (sApp 8 (b2 oAdd (dVar 10) (dVar 9)))
  (sApp 8 (b2 oAdd (dVar 9) (dVar 10))))))))
def c_names : En → SRes :=
  (sSeq (sSet 2 (dC (.str "qwertzuiopasdfghjklyxcvbnm")))
  (sSeq (sSet 3 (dC (.str "abcdefghijklmnopqrstuvwxyz0123456789")))
  (sSeq (sSet 4 (dCall g_draws (aCons (dVar 0) (aCons (b2 oAdd (mkL (aCons (dC (.int 4)) (aCons (dC (.int 11)) (aCons (dC (.int 11)) (aCons (dC (.int 26)) (aCons (dC (.int 26)) aNil)))))) (b2 oMul (mkL (aCons (dC (.int 36)) aNil)) (dC (.int 9)))) aNil))))
  (sSeq (sSet 5 (b2 oAdd (b2 oIx (dVar 2) (b2 oIx (dVar 4) (dC (.int 3)))) (strM oJoin (dC (.str "")) (lcD [6] (iRange1 (dC (.int 9))) (τName 6) tY ce_names))))
  (sSeq (sSet 7 (b2 oMod (b1 oInt (b2 oIx (dVar 4) (dC (.int 2)))) (b2 oAdd (b2 oIx (dVar 4) (dC (.int 1))) (dC (.int 1)))))
  (sSeq (sSetO 8 (mkL aNil))
  (sSeq (sFor (iRange1 (dVar 1)) (τName 6) cl_names)
  (sFrz 8 (sRet (dVar 8))))))))))
def g_names : List PyData → Rs PyData := runF 11 2 c_names
abbrev L26 : Str := "qwertzuiopasdfghjklyxcvbnm"
abbrev S36 : Str := "abcdefghijklmnopqrstuvwxyz0123456789"
theorem l26 : L26.cps.toList.length = 26 := by decide +kernel
theorem s36 : S36.cps.toList.length = 36 := by decide +kernel
def name1 (z : Str) : Prop := 1 ≤ z.length ∧ z.length ≤ 30
theorem names_turn {A B : Str} (hA : A.cps.toList.length = 26) (cell zm z6 z7 z9 z10 : Option SV) (os : List Int) (stem : Str) (zs : List Str) (k many : Nat) (d0 d1 d4 pl : Int) (h0 : os[0]? = some d0) (h1 : os[1]? = some d1) (h4 : os[4]? = some d4) (hs : stem.length ≤ 10) (hk : k < 200) (lz : zs.length < mx) :
    ∃ z y9 y10, cl_names [cell, some (.val (.int (many : Int))), some (.val (.str A)), some (.val (.str B)), some (.val (.list (os.map .int))), some (.val (.str stem)), some (.val (.int (k : Int))), some (.val (.int pl)), some (.own (.list (zs.map .str))), z9, z10]
      = .nx [cell, some (.val (.int (many : Int))), some (.val (.str A)), some (.val (.str B)), some (.val (.list (os.map .int))), some (.val (.str stem)), some (.val (.int (k : Int))), some (.val (.int pl)), some (.own (.list ((zs ++ [z]).map .str))), y9, y10] ∧ name1 z := by
  have a0 : atI (os.map PyData.int) 0 = some (.int d0) := by rw [show (0 : Int) = ((0 : Nat) : Int) from rfl, at_nat, map_at, h0]; rfl
  have a1 : atI (os.map PyData.int) 1 = some (.int d1) := by rw [show (1 : Int) = ((1 : Nat) : Int) from rfl, at_nat, map_at, h1]; rfl
  have a4 : atI (os.map PyData.int) 4 = some (.int d4) := by rw [show (4 : Int) = ((4 : Nat) : Int) from rfl, at_nat, map_at, h4]; rfl
  obtain ⟨c, hc⟩ := ix_str (z := A) hA (by decide) (i := ((k : Int) * 5 + d4) % 26) (Int.emod_nonneg _ (by omega)) (Int.emod_lt_of_pos _ (by omega))
  obtain ⟨n, hn, ln⟩ := str_small (i := (k : Int) / 26) (Int.ediv_nonneg (by omega) (by omega)) (by omega)
  have cl : ((⟨#[c]⟩ : Str) ++ n).length = 2 := by rw [len_app, ln]; rfl
  have m1 : (⟨#[c]⟩ : Str).length + n.length ≤ mx := by rw [ln, len_one]; decide
  have m2 : stem.length ≤ mx := by show _ ≤ 16777216; omega
  obtain ⟨c2, hc2⟩ := ix_str0 (z := (⟨#[c]⟩ : Str) ++ n) (by rw [cl]; omega) (by rw [cl]; omega)
  have q1 := cutS_len stem none (some ((d1 + 3 * (k : Int)) % 11))
  have q2 := cutS_len stem none (some pl)
  have q3 := cutS_len stem (some pl) (some d1)
  have m3 : (cutS stem none (some ((d1 + 3 * (k : Int)) % 11))).length + ((⟨#[c]⟩ : Str) ++ n).length ≤ mx := by rw [cl]; show _ ≤ 16777216; omega
  have m4 : ((⟨#[c]⟩ : Str) ++ n).length + (cutS stem none (some ((d1 + 3 * (k : Int)) % 11))).length ≤ mx := by rw [cl]; show _ ≤ 16777216; omega
  have m5 : (cutS stem none (some pl)).length + ((⟨#[c]⟩ : Str) ++ n).length ≤ mx := by rw [cl]; show _ ≤ 16777216; omega
  have m6 : (cutS stem none (some pl) ++ ((⟨#[c]⟩ : Str) ++ n)).length + (cutS stem (some pl) (some d1)).length ≤ mx := by rw [len_app, cl]; show _ ≤ 16777216; omega
  by_cases e1 : d0 = 0 ∧ (many : Int) ≤ 26
  · refine ⟨⟨#[c2]⟩, some (.val (.str ((⟨#[c]⟩ : Str) ++ n))), some (.val (.str (cutS stem none (some ((d1 + 3 * (k : Int)) % 11))))), ?_, by rw [len_one]; decide, by rw [len_one]; decide⟩
    simp [cl_names, x_app, a0, a1, a4, hc, hn, m1, m2, hc2, lz, e1.1, e1.2, mulOk_l]
  · by_cases e2 : d0 ≤ 1
    · refine ⟨(cutS stem none (some pl) ++ ((⟨#[c]⟩ : Str) ++ n)) ++ cutS stem (some pl) (some d1), some (.val (.str ((⟨#[c]⟩ : Str) ++ n))), some (.val (.str (cutS stem none (some ((d1 + 3 * (k : Int)) % 11))))), ?_, ?_, ?_⟩
      · simp [cl_names, x_app, a0, a1, a4, hc, hn, m1, m2, lz, e2, mulOk_l, e1, m5, m6]
      · rw [len_app, len_app, cl]; omega
      · rw [len_app, len_app, cl]; omega
    · by_cases e3 : d0 = 2
      · refine ⟨cutS stem none (some ((d1 + 3 * (k : Int)) % 11)) ++ ((⟨#[c]⟩ : Str) ++ n), some (.val (.str ((⟨#[c]⟩ : Str) ++ n))), some (.val (.str (cutS stem none (some ((d1 + 3 * (k : Int)) % 11))))), ?_, ?_, ?_⟩
        · simp [cl_names, x_app, a0, a1, a4, hc, hn, m1, m2, lz, e2, mulOk_l, e1, m3, e3]
        · rw [len_app, cl]; omega
        · rw [len_app, cl]; omega
      · refine ⟨((⟨#[c]⟩ : Str) ++ n) ++ cutS stem none (some ((d1 + 3 * (k : Int)) % 11)), some (.val (.str ((⟨#[c]⟩ : Str) ++ n))), some (.val (.str (cutS stem none (some ((d1 + 3 * (k : Int)) % 11))))), ?_, ?_, ?_⟩
        · simp [cl_names, x_app, a0, a1, a4, hc, hn, m1, m2, lz, e2, mulOk_l, e1, m4, e3]
        · rw [len_app, cl]; omega
        · rw [len_app, cl]; omega
theorem names_loop {A B : Str} (hA : A.cps.toList.length = 26) (cell : Int) (many : Nat) (os : List Int) (stem : Str) (d0 d1 d4 pl : Int) (h0 : os[0]? = some d0) (h1 : os[1]? = some d1) (h4 : os[4]? = some d4) (hs : stem.length ≤ 10) (hm : many ≤ 200) :
    ∃ (zs : List Str) (z6 z9 z10 : Option SV), forS (τName 6) cl_names ((List.range many).map fun (k : Nat) => .int (k : Int)) [some (.val (.int cell)), some (.val (.int (many : Int))), some (.val (.str A)), some (.val (.str B)), some (.val (.list (os.map .int))), some (.val (.str stem)), none, some (.val (.int pl)), some (.own (.list [])), none, none]
      = .nx [some (.val (.int cell)), some (.val (.int (many : Int))), some (.val (.str A)), some (.val (.str B)), some (.val (.list (os.map .int))), some (.val (.str stem)), z6, some (.val (.int pl)), some (.own (.list (zs.map .str))), z9, z10] ∧ zs.length = many ∧ ∀ z ∈ zs, name1 z := by
  refine for_rng many (fun k ρ => ∃ (zs : List Str) (z6 z9 z10 : Option SV), ρ = [some (.val (.int cell)), some (.val (.int (many : Int))), some (.val (.str A)), some (.val (.str B)), some (.val (.list (os.map .int))), some (.val (.str stem)), z6, some (.val (.int pl)), some (.own (.list (zs.map .str))), z9, z10] ∧ zs.length = k ∧ ∀ z ∈ zs, name1 z)
    (fun r => ∃ (zs : List Str) (z6 z9 z10 : Option SV), r = .nx [some (.val (.int cell)), some (.val (.int (many : Int))), some (.val (.str A)), some (.val (.str B)), some (.val (.list (os.map .int))), some (.val (.str stem)), z6, some (.val (.int pl)), some (.own (.list (zs.map .str))), z9, z10] ∧ zs.length = many ∧ ∀ z ∈ zs, name1 z)
    ⟨[], none, none, none, rfl, rfl, fun z h => by cases h⟩ ?_ ?_
  · intro k ρ hk hI
    have step : ∀ (zs : List Str) (z6 z9 z10 : Option SV), zs.length = k → (∀ z ∈ zs, name1 z) → Aft (cl_names [some (.val (.int cell)), some (.val (.int (many : Int))), some (.val (.str A)), some (.val (.str B)), some (.val (.list (os.map .int))), some (.val (.str stem)), some (.val (.int (k : Int))), some (.val (.int pl)), some (.own (.list (zs.map .str))), z9, z10]) (fun ρ => ∃ (zs : List Str) (z6 z9 z10 : Option SV), ρ = [some (.val (.int cell)), some (.val (.int (many : Int))), some (.val (.str A)), some (.val (.str B)), some (.val (.list (os.map .int))), some (.val (.str stem)), z6, some (.val (.int pl)), some (.own (.list (zs.map .str))), z9, z10] ∧ zs.length = k + 1 ∧ ∀ z ∈ zs, name1 z)
        (fun r => ∃ (zs : List Str) (z6 z9 z10 : Option SV), r = .nx [some (.val (.int cell)), some (.val (.int (many : Int))), some (.val (.str A)), some (.val (.str B)), some (.val (.list (os.map .int))), some (.val (.str stem)), z6, some (.val (.int pl)), some (.own (.list (zs.map .str))), z9, z10] ∧ zs.length = many ∧ ∀ z ∈ zs, name1 z) := fun zs z6 z9 z10 lz hz => by
      obtain ⟨z, y9, y10, t, n1⟩ := names_turn hA (some (.val (.int cell))) z6 z6 none z9 z10 os stem zs k many d0 d1 d4 pl h0 h1 h4 hs (by omega) (by show _ < 16777216; omega)
      rw [t, aft_nx]
      refine ⟨_, _, _, _, rfl, by simp [lz], fun v hv => ?_⟩
      rcases List.mem_append.mp hv with h | h
      · exact hz v h
      · rw [List.mem_singleton.mp h]; exact n1
    exact hI.elim fun zs h => h.elim fun z6 h => h.elim fun z9 h => h.elim fun z10 h => by
      rw [h.1]
      exact step zs z6 z9 z10 h.2.1 h.2.2
  · intro ρ h
    exact h.elim fun zs h => h.elim fun z6 h => h.elim fun z9 h => h.elim fun z10 h => ⟨zs, z6, z9, z10, by rw [h.1], h.2⟩
theorem names_ok (cell : Int) (many : Nat) (hm : many ≤ 200) : ∃ zs : List Str, g_names [.int cell, .int (many : Int)] = .ok (.list (zs.map .str)) ∧ zs.length = many ∧ ∀ z ∈ zs, name1 z := by
  have hsz : Szs [4, 11, 11, 26, 26, 36, 36, 36, 36, 36, 36, 36, 36, 36] := by intro m hm; simp at hm; omega
  obtain ⟨os, e, d⟩ := draws_ok cell _ hsz (by decide)
  obtain ⟨d0, h0, _, _⟩ := d.get (i := 0) rfl
  obtain ⟨d1, h1, g1, _⟩ := d.get (i := 1) rfl
  obtain ⟨d2, h2, g2, _⟩ := d.get (i := 2) rfl
  obtain ⟨d3, h3, g3, g3'⟩ := d.get (i := 3) rfl
  obtain ⟨d4, h4, _, _⟩ := d.get (i := 4) rfl
  have at_ : ∀ {i : Nat} {x : Int}, os[i]? = some x → atI (os.map PyData.int) (i : Int) = some (.int x) := fun {i x} h => by rw [at_nat, map_at, h]; rfl
  have a1 := at_ h1
  have a2 := at_ h2
  have a3 := at_ h3
  simp at a1 a2 a3
  obtain ⟨c, hc⟩ := ix_str (z := L26) l26 (by decide) g3 g3'
  -- the signs
  obtain ⟨ys, ey, ly, py⟩ := lcL_ex (τ := τName 6) (te := ce_names) (ρ := [some (.val (.int cell)), some (.val (.int (many : Int))), some (.val (.str L26)), some (.val (.str S36)), some (.val (.list (os.map .int))), none, none, none, none, none, none])
    (fun y => ∃ c : Nat, y = .str ⟨#[c]⟩) ((List.range 9).map fun (k : Nat) => .int (k : Int)) (fun d' hd => by
      obtain ⟨k, hk, rfl⟩ := List.mem_map.mp hd
      have hk' := List.mem_range.mp hk
      have hx : ([4, 11, 11, 26, 26, 36, 36, 36, 36, 36, 36, 36, 36, 36] : List Int)[5 + k]? = some 36 := by
        have : k = 0 ∨ k = 1 ∨ k = 2 ∨ k = 3 ∨ k = 4 ∨ k = 5 ∨ k = 6 ∨ k = 7 ∨ k = 8 := by omega
        rcases this with rfl | rfl | rfl | rfl | rfl | rfl | rfl | rfl | rfl <;> rfl
      obtain ⟨x, ex, gx, gx'⟩ := d.get hx
      obtain ⟨c, hc⟩ := ix_str (z := S36) s36 (by decide) gx gx'
      have ax : atI (os.map PyData.int) (5 + (k : Int)) = some (.int x) := by rw [show (5 + (k : Int)) = ((5 + k : Nat) : Int) by omega]; exact at_ ex
      exact ⟨_, .str ⟨#[c]⟩, rfl, by simp [ce_names, ax, hc], c, rfl⟩)
  have hzs : ∃ zs : List Str, ys = zs.map .str ∧ ∀ z ∈ zs, z.length ≤ 1 := by
    clear ey ly
    induction ys with
    | nil => exact ⟨[], rfl, fun z h => by cases h⟩
    | cons y ys ih =>
      obtain ⟨c, rfl⟩ := py y List.mem_cons_self
      obtain ⟨zs, rfl, h⟩ := ih fun y hy => py y (List.mem_cons_of_mem _ hy)
      refine ⟨⟨#[c]⟩ :: zs, rfl, fun z hz => ?_⟩
      rcases List.mem_cons.mp hz with q | q
      · rw [q, len_one]; decide
      · exact h z q
  obtain ⟨gs, rfl, hg⟩ := hzs
  have lg : gs.length = 9 := by simpa using ly
  have sm := join_len gs hg
  have tj := txt_join_len "" gs
  have l0 : ("" : Str).length = 0 := by decide
  rw [l0] at tj
  have jz : oJoin (.str "") (.list (gs.map .str)) = .ok (.str (Txt.join "" gs)) := by
    simp only [oJoin, strsOf_map]
    rw [if_pos]
    rw [l0]
    show _ ≤ 16777216
    omega
  have ls : ((⟨#[c]⟩ : Str) ++ Txt.join "" gs).length ≤ 10 := by rw [len_app, len_one]; omega
  have m1 : (⟨#[c]⟩ : Str).length + (Txt.join "" gs).length ≤ mx := by rw [len_one]; show _ ≤ 16777216; omega
  have p1 : (0 : Int) < d1 + 1 := by omega
  have em : oMul (.list [.int 36]) (.int 9) = .ok (.list [.int 36, .int 36, .int 36, .int 36, .int 36, .int 36, .int 36, .int 36, .int 36]) := by
    simp only [oMul]
    rw [if_pos (by decide)]
    rfl
  have lp := names_loop (B := S36) l26 cell many os ((⟨#[c]⟩ : Str) ++ Txt.join "" gs) d0 d1 d4 (d2 % (d1 + 1)) h0 h1 h4 ls hm
  obtain ⟨zs, z6, z9, z10, e2, lz, hz⟩ := lp
  refine ⟨zs, ?_, lz, hz⟩
  have r9 : rngD 0 9 = .ok ((List.range 9).map fun (k : Nat) => .int (k : Int)) := rng_nat (n := 9) (by decide)
  have no9 : noOwn [some (.val (.int cell)), some (.val (.int (many : Int))), some (.val (.str L26)), some (.val (.str S36)), some (.val (.list (os.map .int))), none, none, none, none, none, none] [6] = true := rfl
  have w9 : wipeE [some (.val (.int cell)), some (.val (.int (many : Int))), some (.val (.str L26)), some (.val (.str S36)), some (.val (.list (os.map .int))), none, none, none, none, none, none] [6] = [some (.val (.int cell)), some (.val (.int (many : Int))), some (.val (.str L26)), some (.val (.str S36)), some (.val (.list (os.map .int))), none, none, none, none, none, none] := rfl
  simp at e
  simp [g_names, runF, c_names, em, e, a1, a2, a3, hc, r9, no9, w9, ey, jz, m1, strM, p1, rng_nat (show many ≤ 1000000000 by omega), e2]
end DL

/-! SH3: typed operations. -/
namespace DL
open PySem PySem.Spec PyProof.Rows L2
section
variable {α β γ δ ε ζ : Type} (e : α → PyData) (ea : α → PyData) (eb : β → PyData) (ec : γ → PyData) (ed : δ → PyData) (ee : ε → PyData)
/-! ### equality -/
structure EqE {α : Type} (e : α → PyData) (n : Nat) : Prop where
  plain : ∀ a, (e a).plain = true
  depth : ∀ a, (e a).depth ≤ n
  eqv : ∀ a b, PyData.eqv (e a) (e b) = true ↔ a = b
theorem eqI : EqE PyData.int 0 := ⟨fun _ => rfl, fun _ => Nat.le_refl 0, fun a b => by simp [PyData.eqv]⟩
theorem eqS : EqE PyData.str 0 := ⟨fun _ => rfl, fun _ => Nat.le_refl 0, fun a b => by simp [PyData.eqv]⟩
theorem eqB : EqE PyData.bool 0 := ⟨fun _ => rfl, fun _ => Nat.le_refl 0, fun a b => by simp [PyData.eqv]⟩
theorem eqN : EqE eN 0 := ⟨fun _ => rfl, fun _ => Nat.le_refl 0, fun a b => by simp [eN, PyData.eqv]⟩
variable {e ea eb ec ed ee} {n n1 n2 n3 n4 n5 : Nat}
theorem plainAll_map (h : EqE e n) : ∀ xs : List α, PyData.plainAll (xs.map e) = true
  | [] => rfl
  | x :: xs => by simp [PyData.plainAll, h.plain x, plainAll_map h xs]
theorem depthAll_map (h : EqE e n) : ∀ xs : List α, PyData.depthAll (xs.map e) ≤ n
  | [] => Nat.zero_le _
  | x :: xs => by
    have h1 := h.depth x
    have h2 := depthAll_map h xs
    show max _ _ ≤ n
    omega
theorem eqvAll_map (h : EqE e n) : ∀ xs ys : List α, PyData.eqvAll (xs.map e) (ys.map e) = true ↔ xs = ys
  | [], [] => by simp [PyData.eqvAll]
  | [], y :: ys => by simp [PyData.eqvAll]
  | x :: xs, [] => by simp [PyData.eqvAll]
  | x :: xs, y :: ys => by simp [PyData.eqvAll, h.eqv x y, eqvAll_map h xs ys]
theorem eqL (h : EqE e n) : EqE (eL e) (n + 1) := ⟨fun xs => by simp [eL, PyData.plain, plainAll_map h], fun xs => by
  show PyData.depthAll (xs.map e) + 1 ≤ n + 1
  have := depthAll_map h xs
  omega, fun xs ys => by simp [eL, PyData.eqv, eqvAll_map h]⟩
theorem eqT (h : EqE e n) : EqE (eT e) (n + 1) := ⟨fun xs => by simp [eT, PyData.plain, plainAll_map h], fun xs => by
  show PyData.depthAll (xs.map e) + 1 ≤ n + 1
  have := depthAll_map h xs
  omega, fun xs ys => by simp [eT, PyData.eqv, eqvAll_map h]⟩
theorem eqP2 (h1 : EqE ea n1) (h2 : EqE eb n2) : EqE (eP2 ea eb) (n1 + n2 + 1) := ⟨fun p => by simp [eP2, PyData.plain, PyData.plainAll, h1.plain, h2.plain], fun p => by
  show max _ (max _ 0) + 1 ≤ _
  have := h1.depth p.1
  have := h2.depth p.2
  omega, fun p q => by simp [eP2, PyData.eqv, PyData.eqvAll, h1.eqv, h2.eqv, Prod.ext_iff]⟩
theorem eqP3 (h1 : EqE ea n1) (h2 : EqE eb n2) (h3 : EqE ec n3) : EqE (eP3 ea eb ec) (n1 + n2 + n3 + 1) := ⟨fun p => by simp [eP3, PyData.plain, PyData.plainAll, h1.plain, h2.plain, h3.plain], fun p => by
  show max _ (max _ (max _ 0)) + 1 ≤ _
  have := h1.depth p.1
  have := h2.depth p.2.1
  have := h3.depth p.2.2
  omega, fun p q => by simp [eP3, PyData.eqv, PyData.eqvAll, h1.eqv, h2.eqv, h3.eqv, Prod.ext_iff]⟩
theorem eqP4 (h1 : EqE ea n1) (h2 : EqE eb n2) (h3 : EqE ec n3) (h4 : EqE ed n4) : EqE (eP4 ea eb ec ed) (n1 + n2 + n3 + n4 + 1) := ⟨fun p => by simp [eP4, PyData.plain, PyData.plainAll, h1.plain, h2.plain, h3.plain, h4.plain], fun p => by
  show max _ (max _ (max _ (max _ 0))) + 1 ≤ _
  have := h1.depth p.1
  have := h2.depth p.2.1
  have := h3.depth p.2.2.1
  have := h4.depth p.2.2.2
  omega, fun p q => by simp [eP4, PyData.eqv, PyData.eqvAll, h1.eqv, h2.eqv, h3.eqv, h4.eqv, Prod.ext_iff]⟩
/-- what is no None -/
def NoN (e : α → PyData) : Prop := ∀ a, e a ≠ .none
theorem eqO (h : EqE e n) (hn : ∀ a, PyData.eqv (e a) .none = false ∧ PyData.eqv .none (e a) = false) : EqE (eO e) n := ⟨fun o => by cases o; exact rfl; exact h.plain _, fun o => by cases o; exact Nat.zero_le _; exact h.depth _, fun o p => by
  cases o <;> cases p
  · simp [eO, PyData.eqv]
  · simp [eO, (hn _).2]
  · simp [eO, (hn _).1]
  · simp [eO, h.eqv]⟩
variable [DecidableEq α]
theorem cmpOk_e (h : EqE e n) (a b : α) (hn : n ≤ 64 := by exact Nat.le_of_ble_eq_true rfl) : cmpOk (e a) (e b) = true := by
  have := h.depth a
  simp [cmpOk, h.plain]
  omega
theorem op_eq (h : EqE e n) (a b : α) (hn : n ≤ 64 := by exact Nat.le_of_ble_eq_true rfl) : oEq (e a) (e b) = .ok (.bool (decide (a = b))) := by
  unfold oEq
  rw [if_pos (cmpOk_e h a b hn)]
  have : PyData.eqv (e a) (e b) = decide (a = b) := by
    rw [Bool.eq_iff_iff, h.eqv, decide_eq_true_iff]
  rw [this]
theorem op_ne (h : EqE e n) (a b : α) (hn : n ≤ 64 := by exact Nat.le_of_ble_eq_true rfl) : oNe (e a) (e b) = .ok (.bool (!decide (a = b))) := by
  unfold oNe
  rw [if_pos (cmpOk_e h a b hn)]
  have : PyData.eqv (e a) (e b) = decide (a = b) := by
    rw [Bool.eq_iff_iff, h.eqv, decide_eq_true_iff]
  rw [this]
theorem any_map (h : EqE e n) (a : α) : ∀ xs : List α, ((xs.map e).any fun y => PyData.eqv y (e a)) = decide (a ∈ xs)
  | [] => by simp
  | x :: xs => by
    have ih := any_map h a xs
    rw [List.map_cons, List.any_cons, ih]
    have : PyData.eqv (e x) (e a) = decide (a = x) := by rw [Bool.eq_iff_iff, h.eqv, decide_eq_true_iff, eq_comm]
    rw [this]
    simp
theorem inOk_e (h : EqE e n) (a : α) (xs : List α) (hn : n ≤ 60 := by exact Nat.le_of_ble_eq_true rfl) : inOk (xs.map e) (e a) = true := by
  have := h.depth a
  simp [inOk, h.plain, plainAll_map h]
  omega
theorem in_L (h : EqE e n) (a : α) (xs : List α) (hn : n ≤ 60 := by exact Nat.le_of_ble_eq_true rfl) : oIn (e a) (eL e xs) = .ok (.bool (decide (a ∈ xs))) := by
  show (if inOk (xs.map e) (e a) = true then _ else _) = _
  rw [if_pos (inOk_e h a xs hn), any_map h]
theorem in_T (h : EqE e n) (a : α) (xs : List α) (hn : n ≤ 60 := by exact Nat.le_of_ble_eq_true rfl) : oIn (e a) (eT e xs) = .ok (.bool (decide (a ∈ xs))) := by
  have : oIn (e a) (eT e xs) = if inOk (xs.map e) (e a) = true then .ok (.bool ((xs.map e).any fun y => PyData.eqv y (e a))) else .bad := by cases e a <;> rfl
  rw [this, if_pos (inOk_e h a xs hn), any_map h]
theorem notin_L (h : EqE e n) (a : α) (xs : List α) (hn : n ≤ 60 := by exact Nat.le_of_ble_eq_true rfl) : oNotIn (e a) (eL e xs) = .ok (.bool (!decide (a ∈ xs))) := by
  show (if inOk (xs.map e) (e a) = true then _ else _) = _
  rw [if_pos (inOk_e h a xs hn), any_map h]
theorem notin_T (h : EqE e n) (a : α) (xs : List α) (hn : n ≤ 60 := by exact Nat.le_of_ble_eq_true rfl) : oNotIn (e a) (eT e xs) = .ok (.bool (!decide (a ∈ xs))) := by
  have : oNotIn (e a) (eT e xs) = if inOk (xs.map e) (e a) = true then .ok (.bool (!(xs.map e).any fun y => PyData.eqv y (e a))) else .bad := by cases e a <;> rfl
  rw [this, if_pos (inOk_e h a xs hn), any_map h]
end
/-! ### numbers -/
def modR (i j : Int) : Rs Int := if 0 < j then .ok (i % j) else .bad
def divR (i j : Int) : Rs Int := if 0 < j ∧ j < 1073741824 then .ok (i / j) else .bad
def mulR (i j : Int) : Rs Int := if mulOk i j then .ok (i * j) else .bad
theorem modR_ok {i j : Int} (h : 0 < j) : modR i j = .ok (i % j) := if_pos h
theorem divR_ok {i j : Int} (h : 0 < j ∧ j < 1073741824) : divR i j = .ok (i / j) := if_pos h
theorem mulR_ok {i j : Int} (h : (-18446744073709551616 < i ∧ i < 18446744073709551616) ∨ (-18446744073709551616 < j ∧ j < 18446744073709551616)) : mulR i j = .ok (i * j) := by
  unfold mulR
  rw [if_pos]
  rcases h with h | h
  · exact mulOk_l h
  · exact mulOk_r h
theorem q_mod (i j : Int) : Q PyData.int (modR i j) (oMod (.int i) (.int j)) := by
  rw [mod_ii]
  unfold modR
  split
  · exact qp rfl
  · exact qbad
theorem q_div (i j : Int) : Q PyData.int (divR i j) (oDiv (.int i) (.int j)) := by
  rw [div_ii]
  unfold divR
  split
  · exact qp rfl
  · exact qbad
theorem q_mul (i j : Int) : Q PyData.int (mulR i j) (oMul (.int i) (.int j)) := by
  rw [mul_ii]
  unfold mulR
  split
  · exact qp rfl
  · exact qbad
theorem mod_c (i j : Int) (h : 0 < j := by decide) : oMod (.int i) (.int j) = .ok (.int (i % j)) := by rw [mod_ii, if_pos h]
theorem div_c (i j : Int) (h : 0 < j := by decide) (h2 : j < 1073741824 := by decide) : oDiv (.int i) (.int j) = .ok (.int (i / j)) := by rw [div_ii, if_pos ⟨h, h2⟩]
theorem mul_cr (i j : Int) (h : -18446744073709551616 < j := by decide) (h2 : j < 18446744073709551616 := by decide) : oMul (.int i) (.int j) = .ok (.int (i * j)) := by rw [mul_ii, if_pos (mulOk_r ⟨h, h2⟩)]
theorem mul_cl (i j : Int) (h : -18446744073709551616 < i := by decide) (h2 : i < 18446744073709551616 := by decide) : oMul (.int i) (.int j) = .ok (.int (i * j)) := by rw [mul_ii, if_pos (mulOk_l ⟨h, h2⟩)]
theorem mul_cs (i j : Int) (z : Str) : True := trivial
/-! ### texts -/
def catS (a b : Str) : Rs Str := if a.length + b.length ≤ mx then .ok (a ++ b) else .bad
theorem catS_ok {a b : Str} (h : a.length + b.length ≤ mx) : catS a b = .ok (a ++ b) := if_pos h
theorem q_catS (a b : Str) : Q PyData.str (catS a b) (oAdd (.str a) (.str b)) := by
  rw [add_ss]
  unfold catS
  split
  · exact qp rfl
  · exact qbad
def lenS (z : Str) : Rs Int := if z.length ≤ mx then .ok (z.length : Int) else .bad
theorem lenS_ok {z : Str} (h : z.length ≤ mx) : lenS z = .ok (z.length : Int) := if_pos h
theorem q_lenS (z : Str) : Q PyData.int (lenS z) (oLen (.str z)) := by
  rw [len_s]
  unfold lenS
  split
  · exact qp rfl
  · exact qbad
def ixS (z : Str) (i : Int) : Rs Str := if z.length ≤ mx then (match atI z.cps.toList i with | some c => .ok ⟨#[c]⟩ | none => .bad) else .bad
theorem q_ixS (z : Str) (i : Int) : Q PyData.str (ixS z i) (oIx (.str z) (.int i)) := by
  have e : oIx (.str z) (.int i) = if z.length ≤ mx then (match atI z.cps.toList i with | some c => .ok (.str ⟨#[c]⟩) | none => .bad) else .bad := rfl
  rw [e]
  unfold ixS
  split
  · cases atI z.cps.toList i
    · exact qbad
    · exact qp rfl
  · exact qbad
def cutSR (z : Str) (lo hi : Option Int) : Rs Str := if z.length ≤ mx then .ok (cutS z lo hi) else .bad
theorem cutSR_ok {z : Str} {lo hi : Option Int} (h : z.length ≤ mx) : cutSR z lo hi = .ok (cutS z lo hi) := if_pos h
theorem q_cutS (z : Str) (lo hi : Option Int) : Q PyData.str (cutSR z lo hi) (oCut lo hi (.str z)) := by
  rw [cut_s]
  unfold cutSR
  split
  · exact qp rfl
  · exact qbad
def strR (i : Int) : Rs Str := if i.natAbs.log2 < 1920 then .ok (toString i) else .bad
theorem q_str (i : Int) : Q PyData.str (strR i) (oStr (.int i)) := by
  have e : oStr (.int i) = if i.natAbs.log2 < 1920 then .ok (.str (toString i)) else .bad := rfl
  rw [e]
  unfold strR
  split
  · exact qp rfl
  · exact qbad
def joinR (a : Str) (ys : List Str) : Rs Str := if (ys.map (·.length)).sum + ys.length * a.length ≤ mx then .ok (Txt.join a ys) else .bad
theorem q_joinL (a : Str) (ys : List Str) : Q PyData.str (joinR a ys) (oJoin (.str a) (eL PyData.str ys)) := by
  simp only [eL, oJoin, strsOf_map]
  unfold joinR
  split
  · exact qp rfl
  · exact qbad
theorem q_joinT (a : Str) (ys : List Str) : Q PyData.str (joinR a ys) (oJoin (.str a) (eT PyData.str ys)) := by
  simp only [eT, oJoin, strsOf_map]
  unfold joinR
  split
  · exact qp rfl
  · exact qbad
theorem q_strM {α : Type} {e : α → PyData} {r : Rs α} {op : PyData → PyData → Rs PyData} {fo fe : En → Rs PyData} {ρ : En} {a : Str} {d : PyData} (h : fo ρ = .ok (.str a)) (h2 : fe ρ = .ok d) (hk : Q e r (op (.str a) d)) : Q e r (strM op fo fe ρ) := qbindP h (qbindP h2 hk)
theorem q_strMM {α β : Type} {e : α → PyData} {eb : β → PyData} {rb : Rs β} {k : β → Rs α} {op : PyData → PyData → Rs PyData} {fo fe : En → Rs PyData} {ρ : En} {a : Str} (h : fo ρ = .ok (.str a)) (h2 : Q eb rb (fe ρ)) (hk : ∀ b, Q e (k b) (op (.str a) (eb b))) : Q e (rb.bind k) (strM op fo fe ρ) := qbindP h (qbind h2 hk)
/-! ### lists, tuples -/
section
variable {α β γ δ ε : Type} (e : α → PyData) (ea : α → PyData) (eb : β → PyData) (ec : γ → PyData) (ed : δ → PyData) (ee : ε → PyData)
def catR (xs ys : List α) : Rs (List α) := if xs.length + ys.length ≤ mx then .ok (xs ++ ys) else .bad
theorem catR_ok {xs ys : List α} (h : xs.length + ys.length ≤ mx) : catR xs ys = .ok (xs ++ ys) := if_pos h
theorem q_catL (xs ys : List α) : Q (eL e) (catR xs ys) (oAdd (eL e xs) (eL e ys)) := by
  unfold eL
  rw [add_ll, List.length_map, List.length_map]
  unfold catR
  split
  · exact qp (by rw [← List.map_append])
  · exact qbad
theorem q_catLL (xs ys : List α) : Q (eL e) (catR xs ys) (oAddL (eL e xs) (eL e ys)) := by
  unfold eL
  rw [addL_ll, List.length_map, List.length_map]
  unfold catR
  split
  · exact qp (by rw [← List.map_append])
  · exact qbad
theorem q_catT (xs ys : List α) : Q (eT e) (catR xs ys) (oAdd (eT e xs) (eT e ys)) := by
  unfold eT
  rw [add_tt, List.length_map, List.length_map]
  unfold catR
  split
  · exact qp (by rw [← List.map_append])
  · exact qbad
def repR (xs : List α) (k : Int) : Rs (List α) := if decide (-4611686018427387904 ≤ k) && decide (k < 4611686018427387904) && decide (xs.length * k.toNat ≤ mx) then .ok (List.replicate k.toNat xs).flatten else .bad
theorem repR_ok {xs : List α} {k : Int} (h1 : -4611686018427387904 ≤ k) (h2 : k < 4611686018427387904) (h3 : xs.length * k.toNat ≤ mx) : repR xs k = .ok (List.replicate k.toNat xs).flatten := if_pos (by rw [decide_eq_true h1, decide_eq_true h2, decide_eq_true h3]; rfl)
theorem map_rep (xs : List α) (n : Nat) : (List.replicate n xs).flatten.map e = (List.replicate n (xs.map e)).flatten := by
  rw [List.map_flatten, List.map_replicate]
theorem q_repL (xs : List α) (k : Int) : Q (eL e) (repR xs k) (oMul (eL e xs) (.int k)) := by
  unfold eL
  have h : oMul (.list (xs.map e)) (.int k) = if decide (-4611686018427387904 ≤ k) && decide (k < 4611686018427387904) && decide ((xs.map e).length * k.toNat ≤ mx) then .ok (.list (List.replicate k.toNat (xs.map e)).flatten) else .bad := Eq.trans rfl rfl
  rw [h, List.length_map]
  unfold repR
  split
  · exact qp (by rw [map_rep])
  · exact qbad
theorem q_repLL (xs : List α) (k : Int) : Q (eL e) (repR xs k) (oMulL (eL e xs) (.int k)) := by
  unfold eL
  have h : oMulL (.list (xs.map e)) (.int k) = if decide (-4611686018427387904 ≤ k) && decide (k < 4611686018427387904) && decide ((xs.map e).length * k.toNat ≤ mx) then .ok (.list (List.replicate k.toNat (xs.map e)).flatten) else .bad := Eq.trans rfl rfl
  rw [h, List.length_map]
  unfold repR
  split
  · exact qp (by rw [map_rep])
  · exact qbad
theorem atI_map {β : Type} (f : α → β) (xs : List α) (i : Int) : atI (xs.map f) i = (atI xs i).map f := by
  unfold atI
  rw [List.length_map]
  cases ixN xs.length i with
  | none => rfl
  | some j => show (xs.map f)[j]? = _; rw [List.getElem?_map]; rfl
def ixR (xs : List α) (i : Int) : Rs α := match atI xs i with
  | some x => .ok x
  | none => .bad
theorem ixR_nat {xs : List α} {j : Nat} {x : α} (h : xs[j]? = some x) : ixR xs (j : Int) = .ok x := by
  unfold ixR
  rw [at_nat, h]
theorem ixR_int {xs : List α} {i : Int} {x : α} (h0 : 0 ≤ i) (h : xs[i.toNat]? = some x) : ixR xs i = .ok x := by
  unfold ixR
  rw [at_int _ h0, h]
theorem q_ixL (xs : List α) (i : Int) : Q e (ixR xs i) (oIx (eL e xs) (.int i)) := by
  unfold eL ixR
  rw [ixl, atI_map]
  cases atI xs i
  · exact qbad
  · exact qp rfl
theorem q_ixT (xs : List α) (i : Int) : Q e (ixR xs i) (oIx (eT e xs) (.int i)) := by
  unfold eT ixR
  rw [ixt, atI_map]
  cases atI xs i
  · exact qbad
  · exact qp rfl
theorem q_ixScr (xs : List Int) (i : Int) : Q PyData.int (ixR xs i) (oIx (scr xs) (.int i)) := by
  unfold ixR
  rw [ixs, atI_map]
  cases atI xs i
  · exact qbad
  · exact qp rfl
theorem len_L (xs : List α) : oLen (eL e xs) = .ok (.int (xs.length : Int)) := by
  unfold eL
  rw [len_l, List.length_map]
theorem len_T (xs : List α) : oLen (eT e xs) = .ok (.int (xs.length : Int)) := by
  unfold eT
  rw [len_t, List.length_map]
theorem len_Scr (xs : List Int) : oLen (scr xs) = .ok (.int (xs.length : Int)) := by
  rw [len_scr, List.length_map]
theorem tuple_L (xs : List α) : oTuple (eL e xs) = .ok (eT e xs) := rfl
theorem tuple_T (xs : List α) : oTuple (eT e xs) = .ok (eT e xs) := rfl
theorem list_L (xs : List α) : oList (eL e xs) = .ok (eL e xs) := rfl
theorem list_T (xs : List α) : oList (eT e xs) = .ok (eL e xs) := rfl
theorem cut_L (xs : List α) (lo hi : Option Int) : oCut lo hi (eL e xs) = .ok (eL e (cutD xs lo hi)) := by
  unfold eL
  rw [cut_l, cut_map]
theorem cut_T (xs : List α) (lo hi : Option Int) : oCut lo hi (eT e xs) = .ok (eT e (cutD xs lo hi)) := by
  unfold eT
  rw [cut_t, cut_map]
theorem cutL_L (xs : List α) (lo hi : Option Int) : oCutL lo hi (eL e xs) = .ok (eL e (cutD xs lo hi)) := by
  unfold eL
  show Rs.ok (PyData.list (cutD (xs.map e) lo hi)) = _
  rw [cut_map]
theorem any_L (xs : List α) : oAny (eL e xs) = .ok (xs.map e) := rfl
theorem any_T (xs : List α) : oAny (eT e xs) = .ok (xs.map e) := rfl
theorem any_Scr (xs : List Int) : oAny (scr xs) = .ok (xs.map PyData.int) := rfl
theorem ix2_0 (p : α × β) : oIx (eP2 ea eb p) (.int 0) = .ok (ea p.1) := by unfold eP2; rw [ixt, at0]
theorem ix2_1 (p : α × β) : oIx (eP2 ea eb p) (.int 1) = .ok (eb p.2) := by unfold eP2; rw [ixt, at1]
theorem ix3_0 (p : α × β × γ) : oIx (eP3 ea eb ec p) (.int 0) = .ok (ea p.1) := by unfold eP3; rw [ixt, at0]
theorem ix3_1 (p : α × β × γ) : oIx (eP3 ea eb ec p) (.int 1) = .ok (eb p.2.1) := by unfold eP3; rw [ixt, at1]
theorem ix3_2 (p : α × β × γ) : oIx (eP3 ea eb ec p) (.int 2) = .ok (ec p.2.2) := by unfold eP3; rw [ixt, at2]
theorem ix4_0 (p : α × β × γ × δ) : oIx (eP4 ea eb ec ed p) (.int 0) = .ok (ea p.1) := by unfold eP4; rw [ixt, at0]
theorem ix4_1 (p : α × β × γ × δ) : oIx (eP4 ea eb ec ed p) (.int 1) = .ok (eb p.2.1) := by unfold eP4; rw [ixt, at1]
theorem ix4_2 (p : α × β × γ × δ) : oIx (eP4 ea eb ec ed p) (.int 2) = .ok (ec p.2.2.1) := by unfold eP4; rw [ixt, at2]
theorem ix4_3 (p : α × β × γ × δ) : oIx (eP4 ea eb ec ed p) (.int 3) = .ok (ed p.2.2.2) := by unfold eP4; rw [ixt, at3]
theorem len_P2 (p : α × β) : oLen (eP2 ea eb p) = .ok (.int 2) := rfl
theorem len_P3 (p : α × β × γ) : oLen (eP3 ea eb ec p) = .ok (.int 3) := rfl
theorem len_P4 (p : α × β × γ × δ) : oLen (eP4 ea eb ec ed p) = .ok (.int 4) := rfl
/-! ### None -/
theorem isN_O {e : α → PyData} (h : ∀ a, oIs (e a) .none = .ok (.bool false)) (o : Option α) : oIs (eO e o) .none = .ok (.bool o.isNone) := by
  cases o
  · rfl
  · exact h _
theorem isnotN_O {e : α → PyData} (h : ∀ a, oIsNot (e a) .none = .ok (.bool true)) (o : Option α) : oIsNot (eO e o) .none = .ok (.bool o.isSome) := by
  cases o
  · rfl
  · exact h _
def getO (o : Option α) : Rs α := match o with
  | some a => .ok a
  | none => .bad
@[simp] theorem getO_some (a : α) : getO (some a) = .ok a := rfl
theorem q_getO {o : Option α} {x : Rs PyData} (h : x = .ok (eO e o)) : Q e (getO o) x := by
  cases o
  · exact qbad
  · exact ⟨h⟩
theorem q_getOM {ro : Rs (Option α)} {x : Rs PyData} (h : Q (eO e) ro x) : Q e (ro.bind getO) x := by
  cases ro with
  | ok o => exact q_getO e h.out
  | ex z => exact ⟨h.out⟩
  | bad => exact qbad
theorem q_any {ro : Rs α} {x : Rs PyData} (h : Q e ro x) : Q id (ro.bind fun a => .ok (e a)) x := by
  cases ro with
  | ok o => exact ⟨h.out⟩
  | ex z => exact ⟨h.out⟩
  | bad => exact qbad
theorem q_some {ro : Rs α} {x : Rs PyData} (h : Q e ro x) : Q (eO e) (ro.bind fun a => .ok (some a)) x := by
  cases ro with
  | ok o => exact ⟨h.out⟩
  | ex z => exact ⟨h.out⟩
  | bad => exact qbad
/-! ### what is not typed: any data -/
def asB (d : PyData) : Rs Bool := match d with | .bool b => .ok b | _ => .bad
def asI (d : PyData) : Rs Int := match d with | .int b => .ok b | _ => .bad
def asS (d : PyData) : Rs Str := match d with | .str b => .ok b | _ => .bad
@[simp] theorem asB_b (b : Bool) : asB (.bool b) = .ok b := rfl
@[simp] theorem asI_i (b : Int) : asI (.int b) = .ok b := rfl
@[simp] theorem asS_s (b : Str) : asS (.str b) = .ok b := rfl
theorem q_asB {r : Rs PyData} {x : Rs PyData} (h : Q id r x) : Q PyData.bool (r.bind asB) x := by
  cases r with
  | ok d =>
    cases d with
    | bool b => exact ⟨h.out⟩
    | _ => exact qbad
  | ex z => exact ⟨h.out⟩
  | bad => exact qbad
theorem q_asI {r : Rs PyData} {x : Rs PyData} (h : Q id r x) : Q PyData.int (r.bind asI) x := by
  cases r with
  | ok d =>
    cases d with
    | int b => exact ⟨h.out⟩
    | _ => exact qbad
  | ex z => exact ⟨h.out⟩
  | bad => exact qbad
theorem q_asS {r : Rs PyData} {x : Rs PyData} (h : Q id r x) : Q PyData.str (r.bind asS) x := by
  cases r with
  | ok d =>
    cases d with
    | str b => exact ⟨h.out⟩
    | _ => exact qbad
  | ex z => exact ⟨h.out⟩
  | bad => exact qbad
theorem q_id (x : Rs PyData) : Q id x x := by cases x <;> constructor <;> trivial
/-! ### ranges, iteration -/
def rngR (i j : Int) : Rs (List Int) := if decide (-4611686018427387904 ≤ i) && decide (i < 4611686018427387904) && decide (-4611686018427387904 ≤ j) && decide (j < 4611686018427387904) && decide ((j - i).toNat ≤ 4611686018427387904) then .ok ((List.range (j - i).toNat).map fun (k : Nat) => i + (k : Int)) else .bad
theorem q_rng (i j : Int) : Q (List.map PyData.int) (rngR i j) (rngD i j) := by
  have h : rngD i j = if decide (-4611686018427387904 ≤ i) && decide (i < 4611686018427387904) && decide (-4611686018427387904 ≤ j) && decide (j < 4611686018427387904) && decide ((j - i).toNat ≤ 4611686018427387904) then .ok ((List.range (j - i).toNat).map fun (k : Nat) => .int (i + (k : Int))) else .bad := rfl
  rw [h]
  unfold rngR
  split
  · refine qp ?_
    rw [List.map_map]
    rfl
  · exact qbad
theorem rngR_nat {n : Nat} (h : n ≤ 1000000000) : rngR 0 (n : Int) = .ok ((List.range n).map fun (k : Nat) => (k : Int)) := by
  unfold rngR
  rw [if_pos]
  · rw [show ((n : Int) - 0).toNat = n by omega]
    exact congrArg Rs.ok (List.map_congr_left fun k _ => Int.zero_add _)
  · simp only [Bool.and_eq_true, decide_eq_true_eq]
    omega
theorem rngR_ok {i j : Int} (h1 : -1000000000 ≤ i) (h2 : i ≤ 1000000000) (h3 : -1000000000 ≤ j) (h4 : j ≤ 1000000000) : rngR i j = .ok ((List.range (j - i).toNat).map fun (k : Nat) => i + (k : Int)) := by
  unfold rngR
  rw [if_pos]
  simp only [Bool.and_eq_true, decide_eq_true_eq]
  omega
theorem q_range1 {f : En → Rs PyData} {ρ : En} {n : Int} (h : f ρ = .ok (.int n)) : Q (List.map PyData.int) (rngR 0 n) (iRange1 f ρ) := by
  rw [x_range1]
  exact qbindP h (q_rng 0 n)
theorem q_range1M {f : En → Rs PyData} {ρ : En} {rn : Rs Int} (h : Q PyData.int rn (f ρ)) : Q (List.map PyData.int) (rn.bind fun n => rngR 0 n) (iRange1 f ρ) := by
  rw [x_range1]
  exact qbind h fun n => q_rng 0 n
theorem q_range2 {f g : En → Rs PyData} {ρ : En} {m n : Int} (h : f ρ = .ok (.int m)) (h2 : g ρ = .ok (.int n)) : Q (List.map PyData.int) (rngR m n) (iRange2 f g ρ) := by
  rw [x_range2]
  exact qbindP h (qbindP h2 (q_rng m n))
theorem q_range2M {f g : En → Rs PyData} {ρ : En} {rm rn : Rs Int} (h : Q PyData.int rm (f ρ)) (h2 : Q PyData.int rn (g ρ)) : Q (List.map PyData.int) (rm.bind fun m => rn.bind fun n => rngR m n) (iRange2 f g ρ) := by
  rw [x_range2]
  exact qbind h fun m => qbind h2 fun n => q_rng m n
def rng3R (m n c : Int) : Rs (List Int) := if decide (c ≠ 0) && decide (c.natAbs < 1073741824) && Builtin.Range.small m n c && decide (Builtin.Range.rangeSize m n c = ((Builtin.Range.rangeSize m n c).toNat : Int)) && decide ((Builtin.Range.rangeSize m n c).toNat ≤ 4611686018427387904) then
  .ok ((List.range (Builtin.Range.rangeSize m n c).toNat).map fun (k : Nat) => m + (k : Int) * c) else .bad
theorem q_rng3 (m n c : Int) : Q (List.map PyData.int) (rng3R m n c) (rng3 m n c) := by
  unfold rng3R rng3
  split
  · refine qp ?_
    rw [List.map_map]
    rfl
  · exact qbad
theorem q_range3 {f g h : En → Rs PyData} {ρ : En} {m n c : Int} (h1 : f ρ = .ok (.int m)) (h2 : g ρ = .ok (.int n)) (h3 : h ρ = .ok (.int c)) : Q (List.map PyData.int) (rng3R m n c) (iRange3 f g h ρ) := by
  rw [x_range3]
  exact qbindP h1 (qbindP h2 (qbindP h3 (q_rng3 m n c)))
theorem p_iOf {op : PyData → Rs (List PyData)} {f : En → Rs PyData} {ρ : En} {d : PyData} {ds : List PyData} (h : f ρ = .ok d) (hk : op d = .ok ds) : iOf op f ρ = .ok ds := pbind h hk
theorem q_iOf {β : Type} {op : PyData → Rs (List PyData)} {f : En → Rs PyData} {ρ : En} {eb : β → PyData} {rb : Rs β} {k : β → Rs (List α)} (h : Q eb rb (f ρ)) (hk : ∀ b, Q (List.map e) (k b) (op (eb b))) : Q (List.map e) (rb.bind k) (iOf op f ρ) := qbind h hk
theorem q_iOfP {op : PyData → Rs (List PyData)} {f : En → Rs PyData} {ρ : En} {d : PyData} {r : Rs (List α)} (h : f ρ = .ok d) (hk : Q (List.map e) r (op d)) : Q (List.map e) r (iOf op f ρ) := qbindP h hk
/-- the signs of a text -/
def signsR (z : Str) : Rs (List Str) := if z.length ≤ mx then .ok (z.cps.toList.map fun c => ⟨#[c]⟩) else .bad
theorem q_signs (z : Str) : Q (List.map PyData.str) (signsR z) (oAny (.str z)) := by
  have h : oAny (.str z) = if z.length ≤ mx then .ok (z.cps.toList.map fun c => .str ⟨#[c]⟩) else .bad := rfl
  rw [h]
  unfold signsR
  split
  · refine qp ?_
    rw [List.map_map]
    rfl
  · exact qbad
/-! ### slices -/
theorem p_pSo {f : En → Rs PyData} {ρ : En} {i : Int} (h : f ρ = .ok (.int i)) : pSo f ρ = .ok (some i) := by
  rw [x_pSo]
  exact pbind h rfl
theorem p_pNo {ρ : En} : pNo ρ = .ok none := rfl
theorem q_pSo {f : En → Rs PyData} {ρ : En} {ri : Rs Int} (h : Q PyData.int ri (f ρ)) : Q id (ri.bind fun i => .ok (some i)) (pSo f ρ) := by
  rw [x_pSo]
  exact qbind h fun i => qp rfl
theorem p_cut {f : En → Rs PyData} {l h : En → Rs (Option Int)} {ρ : En} {d d' : PyData} {lo hi : Option Int} (hf : f ρ = .ok d) (hl : l ρ = .ok lo) (hh : h ρ = .ok hi) (hk : oCut lo hi d = .ok d') : dCut f l h ρ = .ok d' := pbind hf (pbind hl (pbind hh hk))
theorem q_cut {f : En → Rs PyData} {l h : En → Rs (Option Int)} {ρ : En} {eb : β → PyData} {rb : Rs β} {rl rh : Rs (Option Int)} {k : β → Option Int → Option Int → Rs α} (hf : Q eb rb (f ρ)) (hl : Q id rl (l ρ)) (hh : Q id rh (h ρ)) (hk : ∀ b lo hi, Q e (k b lo hi) (oCut lo hi (eb b))) : Q e (rb.bind fun b => rl.bind fun lo => rh.bind fun hi => k b lo hi) (dCut f l h ρ) := qbind hf fun b => qbind hl fun lo => qbind hh fun hi => hk b lo hi
theorem p_cutL {f : En → Rs PyData} {l h : En → Rs (Option Int)} {ρ : En} {d d' : PyData} {lo hi : Option Int} (hf : f ρ = .ok d) (hl : l ρ = .ok lo) (hh : h ρ = .ok hi) (hk : oCutL lo hi d = .ok d') : dCutL f l h ρ = .ok d' := pbind hf (pbind hl (pbind hh hk))
theorem q_cutL {f : En → Rs PyData} {l h : En → Rs (Option Int)} {ρ : En} {eb : β → PyData} {rb : Rs β} {rl rh : Rs (Option Int)} {k : β → Option Int → Option Int → Rs α} (hf : Q eb rb (f ρ)) (hl : Q id rl (l ρ)) (hh : Q id rh (h ρ)) (hk : ∀ b lo hi, Q e (k b lo hi) (oCutL lo hi (eb b))) : Q e (rb.bind fun b => rl.bind fun lo => rh.bind fun hi => k b lo hi) (dCutL f l h ρ) := qbind hf fun b => qbind hl fun lo => qbind hh fun hi => hk b lo hi
/-! ### comprehensions -/
def lcP (xs : List β) (p : β → Bool) (f : β → α) : Rs (List α) := if xs.length ≤ mx then .ok ((xs.filter p).map f) else .bad
theorem lcP_ok {xs : List β} {p : β → Bool} {f : β → α} (h : xs.length ≤ mx) : lcP xs p f = .ok ((xs.filter p).map f) := if_pos h
def lcG (p : β → Rs Bool) (f : β → Rs α) : List β → Rs (List α)
  | [] => .ok []
  | x :: xs => match p x with
    | .ok true => (match f x with
      | .ok y => (lcG p f xs).bind fun r => .ok (y :: r)
      | _ => .bad)
    | .ok false => lcG p f xs
    | _ => .bad
def lcR (xs : List β) (p : β → Rs Bool) (f : β → Rs α) : Rs (List α) := if xs.length ≤ mx then lcG p f xs else .bad
theorem lcR_ok {xs : List β} {p : β → Rs Bool} {f : β → Rs α} (h : xs.length ≤ mx) : lcR xs p f = lcG p f xs := if_pos h
theorem lcG_map {p : β → Rs Bool} {f : β → Rs α} {g : β → α} : ∀ {xs : List β}, (∀ x ∈ xs, p x = .ok true ∧ f x = .ok (g x)) → lcG p f xs = .ok (xs.map g)
  | [], _ => rfl
  | x :: xs, h => by
    unfold lcG
    rw [(h x List.mem_cons_self).1]
    dsimp only
    rw [(h x List.mem_cons_self).2, lcG_map fun y hy => h y (List.mem_cons_of_mem _ hy)]
    rfl
theorem lcG_filter {p : β → Rs Bool} {f : β → Rs α} {q : β → Bool} {g : β → α} : ∀ {xs : List β}, (∀ x ∈ xs, p x = .ok (q x) ∧ (q x = true → f x = .ok (g x))) → lcG p f xs = .ok ((xs.filter q).map g)
  | [], _ => rfl
  | x :: xs, h => by
    have ih := lcG_filter fun y hy => h y (List.mem_cons_of_mem x hy)
    unfold lcG
    rw [(h x List.mem_cons_self).1]
    cases e : q x with
    | false =>
      dsimp only
      rw [ih, List.filter_cons_of_neg (by rw [e]; exact Bool.false_ne_true)]
    | true =>
      dsimp only
      rw [(h x List.mem_cons_self).2 e, ih, List.filter_cons_of_pos e]
      rfl
theorem q_lcP {vs : List Nat} {fi : En → Rs (List PyData)} {τ : TgD} {tt : En → Rs Bool} {te : En → Rs PyData} {ρ ρw : En} {xs : List β} {p : β → Bool} {f : β → α} (hi : fi ρ = .ok (xs.map eb)) (no : noOwn ρ vs = true) (hw : wipeE ρ vs = ρw) (hb : ∀ x, ∃ ρ1, τ (eb x) ρw = .ok ρ1 ∧ tt ρ1 = .ok (p x) ∧ te ρ1 = .ok (e (f x))) : Q (eL e) (lcP xs p f) (lcD vs fi τ tt te ρ) := by
  rw [x_lc, hi, bind_ok, List.length_map, no, hw]
  unfold lcP
  by_cases c : xs.length ≤ mx
  · rw [if_pos c, if_pos (by rw [decide_eq_true c]; rfl)]
    refine qp (pbind ?_ rfl)
    have := lcL_map (τ := τ) (tt := tt) (te := te) (ρ := ρw) eb (fun x => e (f x)) p (fun x => (hb x).choose) xs fun x _ => ⟨(hb x).choose_spec.1, (hb x).choose_spec.2.1, fun _ => (hb x).choose_spec.2.2⟩
    rw [this, List.map_map]
    rfl
  · rw [if_neg c]
    exact qbad
theorem lcL_G {τ : TgD} {tt : En → Rs Bool} {te : En → Rs PyData} {ρw : En} {p : β → Rs Bool} {f : β → Rs α} (hb : ∀ x, ∃ ρ1, τ (eb x) ρw = .ok ρ1 ∧ Q id (p x) (tt ρ1) ∧ Q e (f x) (te ρ1)) : ∀ xs : List β, ∀ ys, lcG p f xs = .ok ys → lcL τ tt te (xs.map eb) ρw = .ok (ys.map e)
  | [], ys, h => by cases h; rfl
  | x :: xs, ys, h => by
    obtain ⟨ρ1, h1, h2, h3⟩ := hb x
    rw [List.map_cons]
    unfold lcL
    rw [h1]
    unfold lcG at h
    cases ep : p x with
    | bad => rw [ep] at h; cases h
    | ex z => rw [ep] at h; cases h
    | ok b =>
      rw [ep] at h h2
      dsimp only
      rw [show tt ρ1 = .ok b from h2.out]
      cases b with
      | false => exact lcL_G hb xs ys h
      | true =>
        dsimp only at h ⊢
        cases ef : f x with
        | bad => rw [ef] at h; cases h
        | ex z => rw [ef] at h; cases h
        | ok y =>
          rw [ef] at h h3
          rw [show te ρ1 = .ok (e y) from h3.out]
          dsimp only at h ⊢
          cases eg : lcG p f xs with
          | bad => rw [eg] at h; cases h
          | ex z => rw [eg] at h; cases h
          | ok zs =>
            rw [eg] at h
            cases h
            rw [lcL_G hb xs zs eg]
            rfl
theorem lcG_noex (p : β → Rs Bool) (f : β → Rs α) (z : Exn) : ∀ xs : List β, lcG p f xs ≠ .ex z
  | [] => fun h => by cases h
  | x :: xs => fun h => by
    unfold lcG at h
    cases ep : p x with
    | bad => rw [ep] at h; cases h
    | ex z => rw [ep] at h; cases h
    | ok b =>
      rw [ep] at h
      cases b with
      | false => exact lcG_noex p f z xs h
      | true =>
        dsimp only at h
        cases ef : f x with
        | bad => rw [ef] at h; cases h
        | ex z => rw [ef] at h; cases h
        | ok y =>
          rw [ef] at h
          dsimp only at h
          cases eg : lcG p f xs with
          | bad => rw [eg] at h; cases h
          | ex z' => exact lcG_noex p f z' xs eg
          | ok zs => rw [eg] at h; cases h
theorem q_lcR {vs : List Nat} {fi : En → Rs (List PyData)} {τ : TgD} {tt : En → Rs Bool} {te : En → Rs PyData} {ρ ρw : En} {xs : List β} {p : β → Rs Bool} {f : β → Rs α} (hi : fi ρ = .ok (xs.map eb)) (no : noOwn ρ vs = true) (hw : wipeE ρ vs = ρw) (hb : ∀ x, ∃ ρ1, τ (eb x) ρw = .ok ρ1 ∧ Q id (p x) (tt ρ1) ∧ Q e (f x) (te ρ1)) : Q (eL e) (lcR xs p f) (lcD vs fi τ tt te ρ) := by
  rw [x_lc, hi, bind_ok, List.length_map, no, hw]
  unfold lcR
  by_cases c : xs.length ≤ mx
  · rw [if_pos c, if_pos (by rw [decide_eq_true c]; rfl)]
    cases eg : lcG p f xs with
    | bad => exact qbad
    | ex z => exact (lcG_noex p f z xs eg).elim
    | ok ys => exact qp (pbind (lcL_G e eb hb xs ys eg) rfl)
  · rw [if_neg c]
    exact qbad
theorem q_lcMM {vs : List Nat} {fi : En → Rs (List PyData)} {τ : TgD} {tt : En → Rs Bool} {te : En → Rs PyData} {ρ ρw : En} {rx : Rs (List β)} {p : β → Rs Bool} {f : β → Rs α} (hi : Q (List.map eb) rx (fi ρ)) (no : noOwn ρ vs = true) (hw : wipeE ρ vs = ρw) (hb : ∀ x, ∃ ρ1, τ (eb x) ρw = .ok ρ1 ∧ Q id (p x) (tt ρ1) ∧ Q e (f x) (te ρ1)) : Q (eL e) (rx.bind fun xs => lcR xs p f) (lcD vs fi τ tt te ρ) := by
  cases rx with
  | ok xs => exact q_lcR e eb hi.out no hw hb
  | ex z =>
    rw [x_lc, show fi ρ = .ex z from hi.out]
    exact qex
  | bad => exact qbad
theorem q_lcMP {vs : List Nat} {fi : En → Rs (List PyData)} {τ : TgD} {tt : En → Rs Bool} {te : En → Rs PyData} {ρ ρw : En} {rx : Rs (List β)} {p : β → Bool} {f : β → α} (hi : Q (List.map eb) rx (fi ρ)) (no : noOwn ρ vs = true) (hw : wipeE ρ vs = ρw) (hb : ∀ x, ∃ ρ1, τ (eb x) ρw = .ok ρ1 ∧ tt ρ1 = .ok (p x) ∧ te ρ1 = .ok (e (f x))) : Q (eL e) (rx.bind fun xs => lcP xs p f) (lcD vs fi τ tt te ρ) := by
  cases rx with
  | ok xs => exact q_lcP e eb hi.out no hw hb
  | ex z =>
    rw [x_lc, show fi ρ = .ex z from hi.out]
    exact qex
  | bad => exact qbad
/-! ### sorted pairs -/
theorem q_sortP (ps : List (Int × Int)) : oSortP (eL (eP2 PyData.int PyData.int) ps) = .ok (eL (eP2 PyData.int PyData.int) (ps.mergeSort leP)) := by
  show oSortP (.list (ps.map prD)) = .ok (.list ((ps.mergeSort leP).map prD))
  simp only [oSortP, pairsOf_map]
end
theorem r_fun {R : Type} {e : R → PyData} {r : Rs R} {n m : Nat} {b : En → SRes} {ds : List PyData} {ρ0 : En} (hl : ds.length = m) (h0 : ds.map (fun d => some (SV.val d)) ++ List.replicate (n - m) none = ρ0) (h : (mF e).H r (sThen (b ρ0) .nx)) : Q e r (runF n m b ds) := by
  have nxE : ∀ s : SRes, sThen s .nx = s := fun s => by cases s <;> rfl
  unfold runF
  rw [if_pos hl, h0]
  have := h.out
  rw [nxE] at this
  exact this
end DL

/-! SH4: typed readings: what is left. -/
namespace DL
open PySem PySem.Spec PyProof.Rows L2
section
variable {ρ : En}
theorem pv {i : Nat} (d : PyData) (h : dVar i ρ = .ok d := by rfl) : dVar i ρ = .ok d := h
theorem bv {i : Nat} (d : PyData) (h : bVar i ρ = .ok d := by rfl) : bVar i ρ = .ok d := h
/-- a slot that holds data or nothing -/
def nv (w : Option PyData) : Option SV := match w with
  | none => none
  | some d => some (.val d)
theorem no_nil : noOwn ρ [] = true := rfl
def NoO (ρ : En) (v : Nat) : Prop := (match ρ[v]? with
  | some (some (.own _)) => false
  | _ => true) = true
theorem no_cons {v : Nat} {vs : List Nat} (h : NoO ρ v) (t : noOwn ρ vs = true) : noOwn ρ (v :: vs) = true := by
  unfold noOwn at *
  rw [List.all_cons, t, Bool.and_true]
  exact h
theorem no_rfl {v : Nat} (h : NoO ρ v) : NoO ρ v := h
theorem no_nv {v : Nat} {w : Option PyData} (h : ρ[v]? = some (nv w)) : NoO ρ v := by
  unfold NoO
  rw [h]
  cases w <;> rfl
theorem pc (d : PyData) : dC d ρ = .ok d := rfl
theorem p_range1 {f : En → Rs PyData} {n : Int} {ds : List PyData} (h : f ρ = .ok (.int n)) (hk : rngD 0 n = .ok ds) : iRange1 f ρ = .ok ds := by
  rw [x_range1, h]
  exact hk
theorem p_range2 {f g : En → Rs PyData} {m n : Int} {ds : List PyData} (h : f ρ = .ok (.int m)) (h2 : g ρ = .ok (.int n)) (hk : rngD m n = .ok ds) : iRange2 f g ρ = .ok ds := by
  rw [x_range2, h, h2]
  exact hk
theorem q_iOfB {β : Type} {op : PyData → Rs (List PyData)} {f : En → Rs PyData} {eb : List β → PyData} {e : β → PyData} {rb : Rs (List β)} (h : Q eb rb (f ρ)) (hk : ∀ b, op (eb b) = .ok (b.map e)) : Q (List.map e) rb (iOf op f ρ) := by
  have := qbind (k := fun b => .ok b) (e := List.map e) h fun b => qp (hk b)
  have e2 : (rb.bind fun b => .ok b) = rb := by cases rb <;> rfl
  rw [e2] at this
  exact this
theorem pw_10_18 : oPow (.int 10) (.int 18) = .ok (.int 1000000000000000000) := pow_18
theorem pw_10_12 : oPow (.int 10) (.int 12) = .ok (.int 1000000000000) := by kernel_rfl
def min2 (i j : Int) : Int := if j < i then j else i
def max2 (i j : Int) : Int := if j > i then j else i
theorem min2_ii (i j : Int) : oMin2 (.int i) (.int j) = .ok (.int (min2 i j)) := min_ii i j
theorem max2_ii (i j : Int) : oMax2 (.int i) (.int j) = .ok (.int (max2 i j)) := max_ii i j
theorem min2_le (i j : Int) : min2 i j ≤ i ∧ min2 i j ≤ j := by unfold min2; split <;> omega
theorem max2_le (i j : Int) : i ≤ max2 i j ∧ j ≤ max2 i j := by unfold max2; split <;> omega
def isND (d : PyData) : Rs Bool := (oIs d .none).bind asB
def isnotND (d : PyData) : Rs Bool := (oIsNot d .none).bind asB
theorem q_isND (d : PyData) : Q PyData.bool (isND d) (oIs d .none) := q_asB (q_id _)
theorem q_isnotND (d : PyData) : Q PyData.bool (isnotND d) (oIsNot d .none) := q_asB (q_id _)
end
section
variable {R α β σ : Type} {m : Md R} {r r1 r2 : Rs R} {K g1 g2 : En → SRes} {ρ : En} {f : En → Rs PyData} {d : PyData} {ea : α → PyData} {ra : Rs α} {k : α → Rs R}
/-- what comes behind a fork, once -/
def letK {σ : Type} (k : σ → Rs R) (F : (σ → Rs R) → Rs R) : Rs R := F k
theorem letK_eq {σ : Type} (k : σ → Rs R) (F : (σ → Rs R) → Rs R) : letK k F = F k := rfl
theorem letK_ok {σ : Type} {k : σ → Rs R} {F : (σ → Rs R) → Rs R} {v : Rs R} (hk : ∀ z, k z = v) (hF : ∀ k' : σ → Rs R, (∀ z, k' z = v) → F k' = v) : letK k F = v := hF k hk
theorem r_joinK {σ : Type} (rel : σ → En → Prop) {k : σ → Rs R} {F : (σ → Rs R) → Rs R} {s : SRes} (hk : ∀ s ρ', rel s ρ' → m.H (k s) (K ρ')) (h : ∀ K', (∀ s ρ', rel s ρ' → m.H (k s) (K' ρ')) → m.H (F k) (sThen s K')) : m.H (letK k F) (sThen s K) := h K hk
theorem r_bad {s : SRes} : m.H .bad s := ⟨m.bad s⟩
theorem r_some {v : α} {s : SRes} (h : m.H (k v) s) : m.H ((getO (some v)).bind k) s := h
theorem r_ifS {t : En → Rs Bool} {c : Bool} {k : σ → Rs R} (ρJ : Bool → σ → En) {v1 v2 : σ} (h : t ρ = .ok c) (h1 : (mN (ρJ true v1)).H (.ok ()) (sThen (g1 ρ) .nx)) (h2 : (mN (ρJ false v2)).H (.ok ()) (sThen (g2 ρ) .nx)) (hk : ∀ v, m.H (k v) (K (ρJ c v))) : m.H ((Rs.ok (bif c then v1 else v2)).bind k) (sThen (sIf t g1 g2 ρ) K) := hP h (by
  have nxE : ∀ s : SRes, sThen s .nx = s := fun s => by cases s <;> rfl
  cases c
  · have e : sThen (g2 ρ) .nx = .nx (ρJ false v2) := h2.out
    rw [nxE] at e
    show m.H (k v2) (sThen (g2 ρ) K)
    rw [e]
    exact hk v2
  · have e : sThen (g1 ρ) .nx = .nx (ρJ true v1) := h1.out
    rw [nxE] at e
    show m.H (k v1) (sThen (g1 ρ) K)
    rw [e]
    exact hk v1)
/-! ### try -/
def tryRF (tb : List (Str × Bool)) (r : Rs R) (h : Exn → Rs R) : Rs R := match r with
  | .ex z => (match tb.lookup z.cls with
    | some true => (match h z with
      | .ok v => .ok v
      | _ => .bad)
    | some false => .ex z
    | none => .bad)
  | r => r
def tryRL (tb : List (Str × Bool)) (r : Rs R) (h : Exn → Rs R) : Rs (Ct σ R) := (tryRF tb r h).bind fun v => .ok (.ret v)
@[simp] theorem tryRF_ok (tb : List (Str × Bool)) (v : R) (h : Exn → Rs R) : tryRF tb (.ok v) h = .ok v := Eq.trans rfl rfl
theorem r_rT {e : R → PyData} {Z : En → Prop} (v : R) : (mT e Z).H (.ok v) (.ret (e v)) := ⟨rfl⟩
theorem tryRF_ex {tb : List (Str × Bool)} {z : Exn} {h : Exn → Rs R} {v : R} (ht : tb.lookup z.cls = some true) (hv : h z = .ok v) : tryRF tb (.ex z) h = .ok v := by
  unfold tryRF
  dsimp only
  rw [ht]
  dsimp only
  rw [hv]
theorem try_T {e : R → PyData} {tb : List (Str × Bool)} {slot : Option Nat} {run g : En → SRes} {h : Exn → Rs R} (ρ1 : En) (h1 : (mT e fun ρ' => ρ' = ρ1).H r (sThen (g ρ) .nx)) (h2 : ∀ z, (mT e fun _ => True).H (h z) (sThen (run (inn slot z ρ1)) .nx)) : (mT e fun ρ' => ρ' = ρ1).H (tryRF tb r h) (sTry [⟨tb, slot, run⟩] g ρ) := by
  have nxE : ∀ s : SRes, sThen s .nx = s := fun s => by cases s <;> rfl
  have q := h1.out
  rw [nxE] at q
  unfold sTry
  cases r with
  | bad => exact ⟨trivial⟩
  | ok v =>
    rw [show g ρ = .ret (e v) from q]
    exact ⟨rfl⟩
  | ex z =>
    obtain ⟨ρ', e1, e2⟩ := q
    rw [e1, e2]
    unfold tryRF
    show (mT e _).H _ (match tb.lookup z.cls with
      | some true => aft slot (run (inn slot z ρ1))
      | some false => hndl [] z ρ1
      | none => .bad)
    dsimp only
    cases tb.lookup z.cls with
    | none => exact ⟨trivial⟩
    | some b =>
      cases b with
      | false => exact ⟨⟨ρ1, rfl, rfl⟩⟩
      | true =>
        dsimp only
        have q2 := (h2 z).out
        rw [nxE] at q2
        cases hz : h z with
        | bad => exact ⟨trivial⟩
        | ex z2 => exact ⟨trivial⟩
        | ok v =>
          rw [hz] at q2
          rw [show run (inn slot z ρ1) = .ret (e v) from q2]
          exact ⟨rfl⟩
theorem r_tryF {e : R → PyData} {tb : List (Str × Bool)} {slot : Option Nat} {run g : En → SRes} {h : Exn → Rs R} (ρ1 : En) (h1 : (mT e fun ρ' => ρ' = ρ1).H r (sThen (g ρ) .nx)) (h2 : ∀ z, (mT e fun _ => True).H (h z) (sThen (run (inn slot z ρ1)) .nx)) : (mF e).H (tryRF tb r h) (sThen (sTry [⟨tb, slot, run⟩] g ρ) K) := by
  have q := (try_T (tb := tb) ρ1 h1 h2).out
  generalize tryRF tb r h = r' at q
  cases r' with
  | bad => exact ⟨qbad⟩
  | ok v =>
    rw [show sTry [⟨tb, slot, run⟩] g ρ = .ret (e v) from q]
    exact ⟨qp rfl⟩
  | ex z =>
    obtain ⟨ρ', e1, _⟩ := q
    rw [e1]
    exact ⟨qex⟩
theorem r_tryL {rel : σ → En → Prop} {Z : En → Prop} {e : R → PyData} {tb : List (Str × Bool)} {slot : Option Nat} {run g : En → SRes} {h : Exn → Rs R} (ρ1 : En) (hz : Z ρ1) (h1 : (mT e fun ρ' => ρ' = ρ1).H r (sThen (g ρ) .nx)) (h2 : ∀ z, (mT e fun _ => True).H (h z) (sThen (run (inn slot z ρ1)) .nx)) : (mL rel e Z).H (tryRL tb r h) (sThen (sTry [⟨tb, slot, run⟩] g ρ) K) := by
  have q := (try_T (tb := tb) ρ1 h1 h2).out
  unfold tryRL
  generalize tryRF tb r h = r' at q
  cases r' with
  | bad => exact ⟨trivial⟩
  | ok v =>
    rw [show sTry [⟨tb, slot, run⟩] g ρ = .ret (e v) from q]
    exact ⟨rfl⟩
  | ex z =>
    obtain ⟨ρ', e1, e2⟩ := q
    rw [e1]
    exact ⟨⟨ρ', rfl, by rw [e2]; exact hz⟩⟩
end
end DL

/-! SH5: typed readings of what DL12, DL13 have. -/
namespace DL
open PySem PySem.Spec PyProof.Rows L2
section
variable {α β γ : Type} (e : α → PyData)
theorem revB_L (xs : List α) : oRevB (eL e xs) = .ok (eL e xs.reverse) := by
  show Rs.ok (PyData.list (xs.map e).reverse) = _
  rw [← List.map_reverse]
  rfl
theorem revB_T (xs : List α) : oRevB (eT e xs) = .ok (eT e xs.reverse) := by
  show Rs.ok (PyData.tuple (xs.map e).reverse) = _
  rw [← List.map_reverse]
  rfl
theorem rev_L (xs : List α) : oRev (eL e xs) = .ok (eL e xs.reverse) := by
  show Rs.ok (PyData.list (xs.map e).reverse) = _
  rw [← List.map_reverse]
  rfl
theorem sum_L (xs : List Int) : oSum (eL PyData.int xs) = .ok (.int xs.sum) := by
  show oSum (.list (xs.map .int)) = _
  simp only [oSum, intsOf_map]
def maxR (xs : List Int) : Rs Int := if 0 < xs.length then .ok (maxL xs) else .bad
def minR (xs : List Int) : Rs Int := if 0 < xs.length then .ok (minL xs) else .bad
theorem q_max1 (xs : List Int) : Q PyData.int (maxR xs) (oMax1 (eL PyData.int xs)) := by
  have : oMax1 (eL PyData.int xs) = if 0 < xs.length then .ok (.int (maxL xs)) else .bad := by
    show oMax1 (.list (xs.map .int)) = _
    simp only [oMax1, intsOf_map]
  rw [this]
  unfold maxR
  split
  · exact qp rfl
  · exact qbad
theorem q_min1 (xs : List Int) : Q PyData.int (minR xs) (oMin1 (eL PyData.int xs)) := by
  have : oMin1 (eL PyData.int xs) = if 0 < xs.length then .ok (.int (minL xs)) else .bad := by
    show oMin1 (.list (xs.map .int)) = _
    simp only [oMin1, intsOf_map]
  rw [this]
  unfold minR
  split
  · exact qp rfl
  · exact qbad
variable [DecidableEq α]
/-- the first place of x -/
def indR (xs : List α) (x : α) : Rs Int := match xs.findIdx? fun y => decide (y = x) with
  | some j => .ok (j : Int)
  | none => .bad
variable {e} {n : Nat}
theorem idx_map (h : EqE e n) (x : α) : ∀ xs : List α, idxD (xs.map e) (e x) = xs.findIdx? fun y => decide (y = x) := fun xs => by
  unfold idxD
  rw [List.findIdx?_map]
  congr 1
  funext y
  show PyData.eqv (e y) (e x) = _
  rw [Bool.eq_iff_iff, h.eqv, decide_eq_true_iff]
theorem q_indL (h : EqE e n) (hf : ∀ x, flatP (e x) = true) (xs : List α) (x : α) : Q PyData.int (indR xs x) (oIndex (eL e xs) (e x)) := by
  have : oIndex (eL e xs) (e x) = match xs.findIdx? fun y => decide (y = x) with | some j => .ok (.int (j : Int)) | none => .bad := by
    unfold eL
    have e2 : ((xs.map e).all flatP && flatP (e x)) = true := by
      rw [hf, Bool.and_true, List.all_map, List.all_eq_true]
      exact fun y _ => hf y
    (rw [index_l, if_pos e2, idx_map h]) <;> (cases xs.findIdx? fun y => decide (y = x) <;> rfl)
  rw [this]
  unfold indR
  cases xs.findIdx? fun y => decide (y = x)
  · exact qbad
  · exact qp rfl
theorem q_indT (h : EqE e n) (hf : ∀ x, flatP (e x) = true) (xs : List α) (x : α) : Q PyData.int (indR xs x) (oIndex (eT e xs) (e x)) := by
  have : oIndex (eT e xs) (e x) = match xs.findIdx? fun y => decide (y = x) with | some j => .ok (.int (j : Int)) | none => .bad := by
    unfold eT
    have e2 : ((xs.map e).all flatP && flatP (e x)) = true := by
      rw [hf, Bool.and_true, List.all_map, List.all_eq_true]
      exact fun y _ => hf y
    (rw [index_t, if_pos e2, idx_map h]) <;> (cases xs.findIdx? fun y => decide (y = x) <;> rfl)
  rw [this]
  unfold indR
  cases xs.findIdx? fun y => decide (y = x)
  · exact qbad
  · exact qp rfl
def indS (z y : Str) : Rs Int := match Txt.index0 z y with
  | some j => .ok (j : Int)
  | none => .bad
theorem q_indS (z y : Str) : Q PyData.int (indS z y) (oIndex (.str z) (.str y)) := by
  have : oIndex (.str z) (.str y) = match Txt.index0 z y with | some j => .ok (.int j) | none => .bad := rfl
  rw [this]
  unfold indS
  cases Txt.index0 z y
  · exact qbad
  · exact qp rfl
end
section
variable {α β γ : Type} {e : α → PyData} {eo : β → PyData} {ee : γ → PyData} {fo fe : En → Rs PyData} {ρ : En} {op : PyData → PyData → Rs PyData} {ro : Rs β} {re : Rs γ} {k : β → γ → Rs α}
/-- the receiver is a list, a tuple, a text -/
def Rcv (d : PyData) : Prop := (∃ ds, d = .list ds) ∨ (∃ ds, d = .tuple ds) ∨ ∃ z, d = .str z
theorem rcvL {α : Type} {e : α → PyData} {xs : List α} : Rcv (eL e xs) := .inl ⟨_, rfl⟩
theorem rcvT {α : Type} {e : α → PyData} {xs : List α} : Rcv (eT e xs) := .inr (.inl ⟨_, rfl⟩)
theorem rcvS {z : Str} : Rcv (.str z) := .inr (.inr ⟨_, rfl⟩)
theorem q_idxM (hr : ∀ b, Rcv (eo b)) (ho : Q eo ro (fo ρ)) (he : Q ee re (fe ρ)) (hk : ∀ b c, Q e (k b c) (op (eo b) (ee c))) : Q e (ro.bind fun b => re.bind fun c => k b c) (idxM op fo fe ρ) := by
  unfold idxM
  refine qbind ho fun b => ?_
  have hk := hk b
  have hr := hr b
  generalize eo b = d at *
  rcases hr with ⟨ds, rfl⟩ | ⟨ds, rfl⟩ | ⟨ds, rfl⟩ <;> exact qbind he fun c => hk c
end
section
variable {R α β : Type} {m : Md R} {K : En → SRes} {ρ : En} {f fk : En → Rs PyData} {ea eb : α → PyData} {k : List α → Rs R}
def popR (xs : List α) (i : Int) : Rs (List α) := match ixN xs.length i with
  | some n => .ok (xs.eraseIdx n)
  | none => .bad
theorem map_erase {β : Type} (g : α → β) : ∀ (xs : List α) (n : Nat), (xs.map g).eraseIdx n = (xs.eraseIdx n).map g
  | [], _ => by simp
  | x :: xs, 0 => rfl
  | x :: xs, n + 1 => by
    rw [List.map_cons, List.eraseIdx_cons_succ, List.eraseIdx_cons_succ, List.map_cons, map_erase g xs n]
theorem r_popM {j : Nat} {xs : List α} {ri : Rs Int} (hz : m.Z ρ) (hj : ρ[j]? = some (some (.own (eL ea xs)))) (h : Q PyData.int ri (f ρ)) (hk : ∀ ys, m.H (k ys) (K (ρ.set j (some (.own (eL ea ys)))))) : m.H (ri.bind fun i => (popR xs i).bind k) (sThen (sPop j f ρ) K) := by
  have e0 : sPop j f ρ = eS ρ (f ρ) fun k => match k with
    | .int k => (match ixN (xs.map ea).length k with
      | some n => .nx (ρ.set j (some (.own (.list ((xs.map ea).eraseIdx n)))))
      | none => .bad)
    | _ => .bad := by
    unfold sPop
    rw [hj]
    rfl
  rw [e0]
  refine hM hz h fun i => ?_
  dsimp only
  unfold popR
  rw [List.length_map]
  cases ixN xs.length i with
  | none => exact ⟨m.bad _⟩
  | some n =>
    have := hk (xs.eraseIdx n)
    unfold eL at this
    rw [← map_erase] at this
    exact this
/-- ys.append(xs.pop(i)) -/
def appPopR (ys xs : List α) (i : Int) : Rs (List α × List α) := match ixN xs.length i with
  | some n => match xs[n]? with
    | some x => if ys.length < mx then .ok (ys ++ [x], xs.eraseIdx n) else .bad
    | none => .bad
  | none => .bad
theorem r_appPopM {i j : Nat} {ys xs : List α} {ri : Rs Int} {k : List α × List α → Rs R} (hz : m.Z ρ) (hi : ρ[i]? = some (some (.own (eL ea ys)))) (hj : ρ[j]? = some (some (.own (eL ea xs)))) (h : Q PyData.int ri (f ρ))
    (hk : ∀ p, m.H (k p) (K ((ρ.set j (some (.own (eL ea p.2)))).set i (some (.own (eL ea p.1)))))) : m.H (ri.bind fun n => (appPopR ys xs n).bind k) (sThen (sAppPop i j f ρ) K) := by
  have e0 : sAppPop i j f ρ = eS ρ (f ρ) fun k => match k with
    | .int k => (match ixN (xs.map ea).length k with
      | some n => (match (xs.map ea)[n]? with
        | some y => if (ys.map ea).length < mx then .nx ((ρ.set j (some (.own (.list ((xs.map ea).eraseIdx n))))).set i (some (.own (.list (ys.map ea ++ [y]))))) else .bad
        | none => .bad)
      | none => .bad)
    | _ => .bad := by
    unfold sAppPop
    rw [hi, hj]
    rfl
  rw [e0]
  refine hM hz h fun i' => ?_
  dsimp only
  unfold appPopR
  rw [List.length_map]
  cases ixN xs.length i' with
  | none => exact ⟨m.bad _⟩
  | some n =>
    dsimp only
    rw [List.getElem?_map]
    cases xs[n]? with
    | none => exact ⟨m.bad _⟩
    | some x =>
      dsimp only [Option.map_some]
      rw [List.length_map]
      by_cases c : ys.length < mx
      · rw [if_pos c, if_pos c]
        have := hk (ys ++ [x], xs.eraseIdx n)
        unfold eL at this
        rw [← map_erase, List.map_append] at this
        exact this
      · rw [if_neg c]
        exact ⟨m.bad _⟩
theorem r_setIxM {i : Nat} {xs : List α} {rx : Rs α} {rj : Rs Int} (hz : m.Z ρ) (hi : ρ[i]? = some (some (.own (eL ea xs)))) (h : Q ea rx (f ρ)) (hj : Q PyData.int rj (fk ρ)) (hk : ∀ ys, m.H (k ys) (K (ρ.set i (some (.own (eL ea ys)))))) : m.H (rx.bind fun x => rj.bind fun j => (setR xs j x).bind k) (sThen (sSetIx i fk f ρ) K) := by
  have e0 : sSetIx i fk f ρ = eS ρ (f ρ) fun d => eS ρ (fk ρ) fun k => match k with
    | .int k => (match ixN (xs.map ea).length k with
      | some j => .nx (ρ.set i (some (.own (.list ((xs.map ea).set j d)))))
      | none => .bad)
    | _ => .bad := by
    unfold sSetIx
    rw [hi]
    rfl
  rw [e0]
  refine hM hz h fun x => ?_
  refine hM hz hj fun j => ?_
  dsimp only
  unfold setR
  rw [List.length_map]
  cases ixN xs.length j with
  | none => exact ⟨m.bad _⟩
  | some n =>
    have := hk (xs.set n x)
    unfold eL at this
    rw [List.map_set] at this
    exact this
end
end DL

/-! SH6: try of any form; lists as lists of any data. -/
namespace DL
open PySem PySem.Spec PyProof.Rows L2
section
variable {V σ R α : Type}
/-- a body under try: on, or back -/
def mY (rel : σ → En → Prop) (e : V → PyData) (Z : En → Prop) : Md (Ct σ V) where
  W r s := match r with
    | .bad => True
    | .ok (.nx a) => ∃ ρ', s = .nx ρ' ∧ rel a ρ'
    | .ok (.brk a) => False
    | .ok (.ret v) => s = .ret (e v)
    | .ex z => ∃ ρ', s = .ex z ρ' ∧ Z ρ'
  Z := Z
  bad _ := trivial
  ex _ ρ h := ⟨ρ, rfl, h⟩
section
variable {rel : σ → En → Prop} {e : V → PyData} {Z : En → Prop} {s : σ} {v : V} {rv : Rs V} {ρ : En} {f : En → Rs PyData} {K : En → SRes}
theorem r_retY (h : f ρ = .ok (e v)) : (mY rel e Z).H (.ok (.ret v)) (sThen (sRet f ρ) K) := hP h ⟨rfl⟩
theorem r_retYM (hz : Z ρ) (h : Q e rv (f ρ)) : (mY rel e Z).H (rv.bind fun v => .ok (.ret v)) (sThen (sRet f ρ) K) := hM hz h fun v => ⟨rfl⟩
theorem r_endY (h : rel s ρ) : (mY rel e Z).H (.ok (.nx s)) (.nx ρ) := ⟨⟨ρ, rfl, h⟩⟩
theorem r_rY (v : V) : (mY rel e Z).H (.ok (.ret v)) (.ret (e v)) := ⟨rfl⟩
end
/-- clauses: a class's table, what is done -/
def hndG : List (List (Str × Bool) × (Exn → Rs V)) → Exn → Rs (Ct σ V)
  | [], z => .ex z
  | c :: cs, z => match c.1.lookup z.cls with
    | some true => (match c.2 z with
      | .ok v => .ok (.ret v)
      | _ => .bad)
    | some false => hndG cs z
    | none => .bad
def tryG (cs : List (List (Str × Bool) × (Exn → Rs V))) (r : Rs (Ct σ V)) : Rs (Ct σ V) := match r with
  | .ex z => hndG cs z
  | r => r
@[simp] theorem tryG_ok (cs : List (List (Str × Bool) × (Exn → Rs V))) (t : Ct σ V) : tryG cs (.ok t) = .ok t := Eq.trans rfl rfl
@[simp] theorem tryG_ex (cs : List (List (Str × Bool) × (Exn → Rs V))) (z : Exn) : tryG cs (.ex z : Rs (Ct σ V)) = hndG cs z := Eq.trans rfl rfl
theorem hndG_hit {c : List (Str × Bool) × (Exn → Rs V)} {cs : List (List (Str × Bool) × (Exn → Rs V))} {z : Exn} {v : V} (h : c.1.lookup z.cls = some true) (hv : c.2 z = .ok v) : hndG (σ := σ) (c :: cs) z = .ok (.ret v) := by
  unfold hndG
  rw [h]
  dsimp only
  rw [hv]
theorem hndG_miss {c : List (Str × Bool) × (Exn → Rs V)} {cs : List (List (Str × Bool) × (Exn → Rs V))} {z : Exn} (h : c.1.lookup z.cls = some false) : hndG (σ := σ) (c :: cs) z = hndG cs z := by
  conv => lhs; unfold hndG
  rw [h]
inductive HsOk (e : V → PyData) (Z : En → Prop) : List (List (Str × Bool) × (Exn → Rs V)) → List Cls → Prop
  | nil : HsOk e Z [] []
  | cons {tb : List (Str × Bool)} {slot : Option Nat} {run : En → SRes} {h : Exn → Rs V} {cs : List (List (Str × Bool) × (Exn → Rs V))} {CS : List Cls} (hh : ∀ z ρ, Z ρ → (mT e fun _ => True).H (h z) (sThen (run (inn slot z ρ)) .nx)) (t : HsOk e Z cs CS) : HsOk e Z ((tb, h) :: cs) (⟨tb, slot, run⟩ :: CS)
theorem hnd_ok {e : V → PyData} {Z : En → Prop} {rel : σ → En → Prop} {cs : List (List (Str × Bool) × (Exn → Rs V))} {CS : List Cls} (hs : HsOk e Z cs CS) (z : Exn) (ρ : En) (hz : Z ρ) : (mY rel e Z).H (hndG cs z) (hndl CS z ρ) := by
  have nxE : ∀ s : SRes, sThen s .nx = s := fun s => by cases s <;> rfl
  induction hs with
  | nil => exact ⟨⟨ρ, rfl, hz⟩⟩
  | @cons tb slot run h cs CS hh t ih =>
    unfold hndG hndl
    dsimp only
    cases tb.lookup z.cls with
    | none => exact ⟨trivial⟩
    | some b =>
      cases b with
      | false => exact ih
      | true =>
        dsimp only
        have q2 := (hh z ρ hz).out
        rw [nxE] at q2
        cases hv : h z with
        | bad => exact ⟨trivial⟩
        | ex z2 => exact ⟨trivial⟩
        | ok v =>
          rw [hv] at q2
          rw [show run (inn slot z ρ) = .ret (e v) from q2]
          exact ⟨rfl⟩
theorem r_tryG {m : Md R} {K g : En → SRes} {e : V → PyData} (rel : σ → En → Prop) (Z : En → Prop) {ρ : En} {cs : List (List (Str × Bool) × (Exn → Rs V))} {CS : List Cls} {r : Rs (Ct σ V)} {k : σ → Rs R} {kr : V → Rs R} (hzz : ∀ ρ, Z ρ → m.Z ρ) (h1 : (mY rel e Z).H r (sThen (g ρ) .nx)) (hs : HsOk e Z cs CS) (hk : ∀ s ρ', rel s ρ' → m.H (k s) (K ρ')) (hr : ∀ v, m.H (kr v) (.ret (e v))) :
    m.H ((tryG cs r).bind fun t => t.nxt k kr) (sThen (sTry CS g ρ) K) := by
  have nxE : ∀ s : SRes, sThen s .nx = s := fun s => by cases s <;> rfl
  have q := h1.out
  rw [nxE] at q
  have fin : ∀ (r' : Rs (Ct σ V)) (s : SRes), (mY rel e Z).H r' s → m.H (r'.bind fun t => t.nxt k kr) (sThen s K) := fun r' s h => by
    have h := h.out
    cases r' with
    | bad => exact ⟨m.bad _⟩
    | ok t =>
      cases t with
      | nx a =>
        obtain ⟨ρ', e1, e2⟩ := h
        rw [e1]
        exact hk a ρ' e2
      | brk a => exact h.elim
      | ret v =>
        rw [show s = .ret (e v) from h]
        exact hr v
    | ex z =>
      obtain ⟨ρ', e1, e2⟩ := h
      rw [e1]
      exact ⟨m.ex z ρ' (hzz _ e2)⟩
  cases r with
  | ex z =>
    obtain ⟨ρ', e1, e2⟩ := q
    have e3 : sTry CS g ρ = hndl CS z ρ' := by unfold sTry; rw [e1]
    rw [e3, tryG_ex]
    exact fin _ _ (hnd_ok hs z ρ' e2)
  | bad => exact ⟨m.bad _⟩
  | ok t =>
    have e3 : sTry CS g ρ = g ρ := by
      unfold sTry
      cases t with
      | nx a => obtain ⟨ρ', e1, _⟩ := q; rw [e1]
      | brk a => exact q.elim
      | ret v => rw [show g ρ = .ret (e v) from q]
    rw [e3, tryG_ok]
    exact fin _ _ ⟨q⟩
end
section
variable {α : Type} {e : α → PyData} {xs : List α} {x : Rs PyData}
theorem cast_L (h : x = .ok (eL e xs)) : x = .ok (eL id (xs.map e)) := by
  rw [h]
  unfold eL
  rw [List.map_map]
  rfl
theorem cast_T (h : x = .ok (eT e xs)) : x = .ok (eT id (xs.map e)) := by
  rw [h]
  unfold eT
  rw [List.map_map]
  rfl
theorem q_castL {r : Rs (List α)} (h : Q (eL e) r x) : Q (eL id) (r.bind fun xs => .ok (xs.map e)) x := by
  cases r with
  | ok v => exact qp (cast_L h.out)
  | ex z => exact ⟨h.out⟩
  | bad => exact qbad
theorem q_castT {r : Rs (List α)} (h : Q (eT e) r x) : Q (eT id) (r.bind fun xs => .ok (xs.map e)) x := by
  cases r with
  | ok v => exact qp (cast_T h.out)
  | ex z => exact ⟨h.out⟩
  | bad => exact qbad
end
end DL

/-! DM4: windows (many laws draw them). -/
namespace DL
open PySem PySem.Spec PyProof.Rows L2
/-! ### loops that look for something -/
theorem for_ret {α : Type} {i : Nat} {b : En → SRes} {F : Option SV → En} (hF : ∀ z v, (F z).set i v = F v) (g : α → PyData) (p : α → Bool) (d : α → PyData) : ∀ (xs : List α) (z : Option SV), (∀ x ∈ xs, b (F (some (.val (g x)))) = if p x then .ret (d x) else .nx (F (some (.val (g x))))) →
    (∃ x, xs.find? p = some x ∧ forS (τName i) b (xs.map g) (F z) = .ret (d x)) ∨ (xs.find? p = none ∧ ∃ z', forS (τName i) b (xs.map g) (F z) = .nx (F z'))
  | [], z, _ => .inr ⟨rfl, z, rfl⟩
  | x :: xs, z, h => by
    have hx := h x List.mem_cons_self
    have ih := for_ret hF g p d xs (some (.val (g x))) fun y hy => h y (List.mem_cons_of_mem _ hy)
    have e : forS (τName i) b ((x :: xs).map g) (F z) = (match b (F (some (.val (g x)))) with
      | .nx ρ' => forS (τName i) b (xs.map g) ρ'
      | .ct ρ' => forS (τName i) b (xs.map g) ρ'
      | .brk ρ' => .nx ρ'
      | r => r) := by
      rw [List.map_cons]
      conv => lhs; unfold forS
      show (match b ((F z).set i (some (.val (g x)))) with
        | .nx ρ' => forS (τName i) b (xs.map g) ρ'
        | .ct ρ' => forS (τName i) b (xs.map g) ρ'
        | .brk ρ' => .nx ρ'
        | r => r) = _
      rw [hF]
    rw [e, hx]
    cases hp : p x with
    | true =>
      refine .inl ⟨x, by rw [List.find?_cons, hp], rfl⟩
    | false =>
      have e2 : (x :: xs).find? p = xs.find? p := by rw [List.find?_cons, hp]
      rw [e2]
      exact ih
/-! ### windows -/
structure Win where
  k : Str
  b : Int
  e : Int
def win (w : Win) : PyData := .tuple [.str w.k, .int w.b, .int w.e]
@[simp] theorem win0 (w : Win) : oIx (win w) (.int 0) = .ok (.str w.k) := by simp [win]
@[simp] theorem win1 (w : Win) : oIx (win w) (.int 1) = .ok (.int w.b) := by simp [win]
@[simp] theorem win2 (w : Win) : oIx (win w) (.int 2) = .ok (.int w.e) := by simp [win]
def WOk (w : Win) : Prop := 0 ≤ w.b ∧ w.b ≤ w.e ∧ w.e ≤ 9999
def c_shared : En → SRes :=
  (sRet (b2 oAdd (b2 oSub (b2 oMin2 (b2 oIx (dVar 0) (dC (.int 2))) (b2 oIx (dVar 1) (dC (.int 2)))) (b2 oMax2 (b2 oIx (dVar 0) (dC (.int 1))) (b2 oIx (dVar 1) (dC (.int 1))))) (dC (.int 1))))
def g_shared : List PyData → Rs PyData := runF 2 2 c_shared
def c_within : En → SRes :=
  (sSeq (sSet 2 (b2 oAdd (b2 oSub (b2 oIx (dVar 0) (dC (.int 2))) (b2 oIx (dVar 0) (dC (.int 1)))) (dC (.int 1))))
  (sRet (vAnd (b2 oEq (dCall g_shared (aCons (dVar 0) (aCons (dVar 1) aNil))) (dVar 2)) (b2 oGt (b2 oAdd (b2 oSub (b2 oIx (dVar 1) (dC (.int 2))) (b2 oIx (dVar 1) (dC (.int 1)))) (dC (.int 1))) (dVar 2)))))
def g_within : List PyData → Rs PyData := runF 3 2 c_within
def c_clash : En → SRes :=
  (sSeq (sIf (tst (b2 oLe (dCall g_shared (aCons (dVar 0) (aCons (dVar 1) aNil))) (dC (.int 0))))
  (sRet (dC (.bool false)))
  sNil)
  (sRet (vOr (b2 oEq (b2 oIx (dVar 0) (dC (.int 0))) (b2 oIx (dVar 1) (dC (.int 0)))) (b1 oNot (vOr (dCall g_within (aCons (dVar 0) (aCons (dVar 1) aNil))) (dCall g_within (aCons (dVar 1) (aCons (dVar 0) aNil))))))))
def g_clash : List PyData → Rs PyData := runF 2 2 c_clash
def cl_added_1 : En → SRes :=
  (sIf (tst (dCall g_clash (aCons (dVar 2) (aCons (dVar 1) aNil))))
  (sRet (dVar 0))
  sNil)
def ce_added_1 : En → Rs PyData :=
  (dVar 5)
def ct_added_1 : En → Rs Bool :=
  (tst (dCall g_within (aCons (dVar 4) (aCons (dVar 5) aNil))))
def cl_added_2 : En → SRes :=
  (sIf (tst (b2 oGt (b1 oLen (lcD [5] (iOf oAny (dVar 3)) (τName 5) ct_added_1 ce_added_1)) (dC (.int 5))))
  (sRet (dVar 0))
  sNil)
def c_added : En → SRes :=
  (sSeq (sFor (iOf oAny (dVar 0)) (τName 2) cl_added_1)
  (sSeq (sSet 3 (b2 oAdd (dVar 0) (mkL (aCons (dVar 1) aNil))))
  (sSeq (sFor (iOf oAny (dVar 3)) (τName 4) cl_added_2)
  (sRet (dVar 3)))))
def g_added : List PyData → Rs PyData := runF 6 2 c_added
def cl_windows_1 : En → SRes :=
  (sSeq (sSet 9 (b2 oAdd (dC (.int 2)) (b2 oMul (dC (.int 5)) (dVar 8))))
  (sSeq (sSet 10 (dC (.int 0)))
  (sSeq (sSet 11 (dVar 4))
  (sSeq (sIf (tst (b2 oLt (b2 oIx (dVar 6) (dVar 9)) (b1 oLen (dVar 7))))
  (sSeq (sSet 10 (b2 oIx (b2 oIx (dVar 7) (b2 oIx (dVar 6) (dVar 9))) (dC (.int 1))))
  (sSet 11 (b2 oIx (b2 oIx (dVar 7) (b2 oIx (dVar 6) (dVar 9))) (dC (.int 2)))))
  sNil)
  (sSeq (sSet 12 (b2 oIx (dVar 5) (b2 oIx (dVar 6) (b2 oAdd (dVar 9) (dC (.int 1))))))
  (sIf (tAndD (tst (b2 oEq (b2 oIx (dVar 6) (b2 oAdd (dVar 9) (dC (.int 2)))) (dC (.int 0)))) (tst (b2 oLt (dVar 10) (dVar 11))))
  (sSeq (sSet 13 (b2 oAdd (dVar 10) (b2 oMod (b1 oInt (b2 oIx (dVar 6) (b2 oAdd (dVar 9) (dC (.int 3))))) (b2 oSub (dVar 11) (dVar 10)))))
  (sSeq (sSet 7 (dCall g_added (aCons (dVar 7) (aCons (mkT (aCons (dVar 12) (aCons (dVar 10) (aCons (dVar 13) aNil)))) aNil))))
  (sSet 7 (dCall g_added (aCons (dVar 7) (aCons (mkT (aCons (dVar 12) (aCons (b2 oAdd (dVar 13) (dC (.int 1))) (aCons (dVar 11) aNil)))) aNil))))))
  (sSeq (sSet 14 (b2 oAdd (dVar 10) (b2 oMod (b1 oInt (b2 oDiv (b2 oIx (dVar 6) (b2 oAdd (dVar 9) (dC (.int 3)))) (dC (.int 4)))) (b2 oAdd (b2 oSub (dVar 11) (dVar 10)) (dC (.int 1))))))
  (sSeq (sIf (tst (b2 oEq (b2 oMod (b2 oIx (dVar 6) (b2 oAdd (dVar 9) (dC (.int 3)))) (dC (.int 4))) (dC (.int 0))))
  (sSet 14 (dVar 10))
  sNil)
  (sSeq (sSet 15 (b2 oAdd (dVar 14) (b2 oMod (b1 oInt (b2 oDiv (b2 oIx (dVar 6) (b2 oAdd (dVar 9) (dC (.int 4)))) (dC (.int 4)))) (b2 oAdd (b2 oSub (dVar 11) (dVar 14)) (dC (.int 1))))))
  (sSeq (sIf (tst (b2 oEq (b2 oMod (b2 oIx (dVar 6) (b2 oAdd (dVar 9) (dC (.int 4)))) (dC (.int 4))) (dC (.int 0))))
  (sSet 15 (dVar 11))
  sNil)
  (sSet 7 (dCall g_added (aCons (dVar 7) (aCons (mkT (aCons (dVar 12) (aCons (dVar 14) (aCons (dVar 15) aNil)))) aNil))))))))))))))
def c_windows : En → SRes :=
  (sSeq (sSet 3 (dCall g_draws (aCons (dVar 0) (aCons (mkL (aCons (b2 oAdd (dVar 2) (dC (.int 1))) (aCons (dC (.int 4)) aNil))) aNil))))
  (sSeq (sSet 4 (b2 oIx (mkL (aCons (dC (.int 9999)) (aCons (dC (.int 40)) (aCons (dC (.int 12)) (aCons (dC (.int 700)) aNil))))) (b2 oIx (dVar 3) (dC (.int 1)))))
  (sSeq (sSet 5 (dCall g_names (aCons (dVar 1) (aCons (dC (.int 6)) aNil))))
  (sSeq (sSet 6 (dCall g_draws (aCons (dVar 0) (aCons (b2 oAdd (mkL (aCons (b2 oAdd (dVar 2) (dC (.int 1))) (aCons (dC (.int 4)) aNil))) (b2 oMul (mkL (aCons (b2 oAdd (dVar 2) (dC (.int 2))) (aCons (dC (.int 6)) (aCons (dC (.int 3)) (aCons (dC (.int 40000)) (aCons (dC (.int 40000)) aNil)))))) (b2 oIx (dVar 3) (dC (.int 0))))) aNil))))
  (sSeq (sSet 7 (mkL aNil))
  (sSeq (sFor (iRange1 (b2 oIx (dVar 3) (dC (.int 0)))) (τName 8) cl_windows_1)
  (sRet (b1 oTuple (dVar 7)))))))))
def g_windows : List PyData → Rs PyData := runF 16 3 c_windows

def sharedM (a b : Win) : Int := (if b.e < a.e then b.e else a.e) - (if b.b > a.b then b.b else a.b) + 1
theorem shared_ok (a b : Win) : g_shared [win a, win b] = .ok (.int (sharedM a b)) := by
  simp [g_shared, runF, c_shared, sharedM]
def withinM (a b : Win) : Bool := decide (sharedM a b = a.e - a.b + 1) && decide (b.e - b.b + 1 > a.e - a.b + 1)
theorem within_ok (a b : Win) : g_within [win a, win b] = .ok (.bool (withinM a b)) := by
  simp [g_within, runF, c_within, withinM, shared_ok]
def clashM (a b : Win) : Bool := !decide (sharedM a b ≤ 0) && (decide (a.k = b.k) || !(withinM a b || withinM b a))
theorem clash_ok (a b : Win) : g_clash [win a, win b] = .ok (.bool (clashM a b)) := by
  simp [g_clash, runF, c_clash, clashM, shared_ok, within_ok]
/-- a inside b, strictly -/
def Ins (a b : Win) : Prop := b.b ≤ a.b ∧ a.e ≤ b.e ∧ (b.b < a.b ∨ a.e < b.e)
def Dis (a b : Win) : Prop := a.e < b.b ∨ b.e < a.b
theorem withinM_iff {a b : Win} (ha : WOk a) (hb : WOk b) : withinM a b = true ↔ Ins a b := by
  unfold WOk at ha hb
  unfold withinM Ins sharedM
  simp only [Bool.and_eq_true, decide_eq_true_eq]
  split <;> split <;> omega
theorem clashM_iff {a b : Win} (ha : WOk a) (hb : WOk b) : clashM a b = true ↔ ¬ Dis a b ∧ (a.k = b.k ∨ (¬ Ins a b ∧ ¬ Ins b a)) := by
  unfold clashM
  rw [Bool.and_eq_true, Bool.not_eq_true', decide_eq_false_iff_not, Bool.or_eq_true, decide_eq_true_eq, Bool.not_eq_true', Bool.or_eq_false_iff, ← Bool.not_eq_true, ← Bool.not_eq_true, withinM_iff ha hb, withinM_iff hb ha]
  have : sharedM a b ≤ 0 ↔ Dis a b := by
    unfold WOk at ha hb
    unfold sharedM Dis
    split <;> split <;> omega
  rw [this]
def addM (ws : List Win) (w : Win) : List Win :=
  if (ws.find? fun o => clashM o w).isSome then ws else if ((ws ++ [w]).find? fun i => decide (5 < ((ws ++ [w]).filter fun o => withinM i o).length)).isSome then ws else ws ++ [w]
theorem added_ok (ws : List Win) (w : Win) (hl : ws.length ≤ 1000) : g_added [.list (ws.map win), win w] = .ok (.list ((addM ws w).map win)) := by
  have l1 : ws.length + 1 ≤ mx := by show _ ≤ 16777216; omega
  have f1 := for_ret (i := 2) (b := cl_added_1) (F := fun z => [some (.val (.list (ws.map win))), some (.val (win w)), z, none, none, none]) (fun _ _ => rfl) win (fun o => clashM o w) (fun _ => .list (ws.map win)) ws none (fun o _ => by
    cases h : clashM o w <;> simp [cl_added_1, clash_ok, h])
  have lc : ∀ (y : Option SV) (v : Win), lcL (τName 5) ct_added_1 ce_added_1 ((ws ++ [w]).map win) [some (.val (.list (ws.map win))), some (.val (win w)), y, some (.val (.list ((ws ++ [w]).map win))), some (.val (win v)), none] = .ok (((ws ++ [w]).filter fun o => withinM v o).map win) := fun y v => by
    refine lcL_map win win (fun o => withinM v o) (fun o => [some (.val (.list (ws.map win))), some (.val (win w)), y, some (.val (.list ((ws ++ [w]).map win))), some (.val (win v)), some (.val (win o))]) (ws ++ [w]) fun o _ => ⟨rfl, ?_, fun _ => rfl⟩
    simp [ct_added_1, within_ok]
  have f2 := fun y => for_ret (i := 4) (b := cl_added_2) (F := fun z => [some (.val (.list (ws.map win))), some (.val (win w)), y, some (.val (.list ((ws ++ [w]).map win))), z, none]) (fun _ _ => rfl) win (fun i => decide (5 < ((ws ++ [w]).filter fun o => withinM i o).length)) (fun _ => .list (ws.map win)) (ws ++ [w]) none (fun v _ => by
    have l2 : ((ws ++ [w]).map win).length ≤ mx := by rw [List.length_map, List.length_append]; exact l1
    have no : noOwn [some (.val (.list (ws.map win))), some (.val (win w)), y, some (.val (.list ((ws ++ [w]).map win))), some (.val (win v)), none] [5] = true := rfl
    have wi : wipeE [some (.val (.list (ws.map win))), some (.val (win w)), y, some (.val (.list ((ws ++ [w]).map win))), some (.val (win v)), none] [5] = [some (.val (.list (ws.map win))), some (.val (win w)), y, some (.val (.list ((ws ++ [w]).map win))), some (.val (win v)), none] := rfl
    have t : tst (b2 oGt (b1 oLen (lcD [5] (iOf oAny (dVar 3)) (τName 5) ct_added_1 ce_added_1)) (dC (.int 5))) [some (.val (.list (ws.map win))), some (.val (win w)), y, some (.val (.list ((ws ++ [w]).map win))), some (.val (win v)), none] = .ok (decide (5 < ((ws ++ [w]).filter fun o => withinM v o).length)) := by
      have q : ((5 : Int) < (((ws ++ [w]).filter fun o => withinM v o).length : Int)) ↔ 5 < ((ws ++ [w]).filter fun o => withinM v o).length := by omega
      simp only [x_tst, x_b2, x_b1, x_lc, x_iOf, x_varS, x_var0, bind_ok, any_l, x_c]
      rw [if_pos (by rw [decide_eq_true l2, no]; rfl), wi, lc]
      simp only [bind_ok, len_l, List.length_map, gt_ii, tru_bool, q]
    have e : cl_added_2 [some (.val (.list (ws.map win))), some (.val (win w)), y, some (.val (.list ((ws ++ [w]).map win))), some (.val (win v)), none] = eS _ (tst (b2 oGt (b1 oLen (lcD [5] (iOf oAny (dVar 3)) (τName 5) ct_added_1 ce_added_1)) (dC (.int 5))) [some (.val (.list (ws.map win))), some (.val (win w)), y, some (.val (.list ((ws ++ [w]).map win))), some (.val (win v)), none]) fun c => if c then sRet (dVar 0) [some (.val (.list (ws.map win))), some (.val (win w)), y, some (.val (.list ((ws ++ [w]).map win))), some (.val (win v)), none] else sNil [some (.val (.list (ws.map win))), some (.val (win w)), y, some (.val (.list ((ws ++ [w]).map win))), some (.val (win v)), none] := rfl
    rw [e, t, eS_ok]
    rfl)
  unfold addM
  rcases f1 with ⟨o, h1, h2⟩ | ⟨h1, z1, h2⟩
  · rw [h1]
    simp [g_added, runF, c_added, h2]
  · rw [h1]
    rcases f2 z1 with ⟨v, h3, h4⟩ | ⟨h3, z2, h4⟩
    · rw [h3]
      simp at h4
      simp [g_added, runF, c_added, h2, l1, h4]
    · rw [h3]
      simp at h4
      simp [g_added, runF, c_added, h2, l1, h4]
end DL

/-! DM5: the windows that are drawn do not clash. -/
namespace DL
open PySem PySem.Spec PyProof.Rows L2
def WNest (ws : List Win) : Prop := (∀ w ∈ ws, WOk w) ∧ ws.Pairwise (fun a b => clashM a b = false) ∧ ∀ i ∈ ws, (ws.filter fun o => withinM i o).length ≤ 5
theorem nest_nil : WNest [] := ⟨fun w h => (by cases h), List.Pairwise.nil, fun i h => (by cases h)⟩
theorem added_ok' (ws : List Win) (kd : Str) (b e : Int) (hl : ws.length ≤ 1000) : g_added [.list (ws.map win), .tuple [.str kd, .int b, .int e]] = .ok (.list ((addM ws ⟨kd, b, e⟩).map win)) := added_ok ws ⟨kd, b, e⟩ hl
theorem addM_mem {ws : List Win} {w v : Win} (h : v ∈ addM ws w) : v ∈ ws ∨ v = w := by
  unfold addM at h
  split at h
  · exact .inl h
  · split at h
    · exact .inl h
    · rcases List.mem_append.mp h with h | h
      · exact .inl h
      · exact .inr (List.mem_singleton.mp h)
theorem addM_len (ws : List Win) (w : Win) : (addM ws w).length ≤ ws.length + 1 := by
  unfold addM
  split
  · omega
  · split
    · omega
    · rw [List.length_append]
      exact Nat.le_refl _
theorem addM_nest {ws : List Win} {w : Win} (h : WNest ws) (hw : WOk w) : WNest (addM ws w) := by
  unfold addM
  split
  · exact h
  · rename_i h1
    split
    · exact h
    · rename_i h2
      have n1 : ∀ o ∈ ws, clashM o w = false := fun o ho => by
        cases e : clashM o w with
        | false => rfl
        | true =>
          exfalso
          exact h1 (by rw [List.find?_isSome]; exact ⟨o, ho, e⟩)
      refine ⟨fun v hv => ?_, ?_, fun i hi => ?_⟩
      · rcases List.mem_append.mp hv with q | q
        · exact h.1 v q
        · rw [List.mem_singleton.mp q]; exact hw
      · rw [List.pairwise_append]
        exact ⟨h.2.1, List.pairwise_singleton _ _, fun a ha b hb => by rw [List.mem_singleton.mp hb]; exact n1 a ha⟩
      · rcases Nat.lt_or_ge 5 ((ws ++ [w]).filter fun o => withinM i o).length with q | q
        · exfalso
          exact h2 (by rw [List.find?_isSome]; exact ⟨i, hi, decide_eq_true q⟩)
        · exact q
def kindsIn (zs : List Str) (ws : List Win) : Prop := ∀ w ∈ ws, w.k ∈ zs
theorem kinds_add {zs : List Str} {ws : List Win} {w : Win} (h : kindsIn zs ws) (hw : w.k ∈ zs) : kindsIn zs (addM ws w) := fun v hv => by
  rcases addM_mem hv with q | q
  · exact h v q
  · rw [q]; exact hw
theorem windows_turn (s0 s1 s2 s3 s8 y9 y10 y11 y12 y13 y14 y15 : Option SV) (zs : List Str) (os : List Int) (ws : List Win) (k : Nat) (span x0 x1 x2 x3 x4 : Int) (hk : s8 = some (.val (.int (k : Int))))
    (e0 : os[2 + 5 * k]? = some x0) (e1 : os[2 + 5 * k + 1]? = some x1) (e2 : os[2 + 5 * k + 2]? = some x2) (e3 : os[2 + 5 * k + 3]? = some x3) (e4 : os[2 + 5 * k + 4]? = some x4)
    (g0 : 0 ≤ x0) (g1 : 0 ≤ x1 ∧ x1 < 6) (g3 : 0 ≤ x3) (g4 : 0 ≤ x4) (hz : zs.length = 6) (hs : 0 ≤ span ∧ span ≤ 9999) (hn : WNest ws) (hq : kindsIn zs ws) (hl : ws.length ≤ 900) :
    ∃ ws' z9 z10 z11 z12 z13 z14 z15, cl_windows_1 [s0, s1, s2, s3, some (.val (.int span)), some (.val (.list (zs.map .str))), some (.val (.list (os.map .int))), some (.val (.list (ws.map win))), s8, y9, y10, y11, y12, y13, y14, y15]
      = .nx [s0, s1, s2, s3, some (.val (.int span)), some (.val (.list (zs.map .str))), some (.val (.list (os.map .int))), some (.val (.list (ws'.map win))), s8, z9, z10, z11, z12, z13, z14, z15] ∧ WNest ws' ∧ kindsIn zs ws' ∧ ws'.length ≤ ws.length + 2 := by
  subst hk
  have at_ : ∀ {i : Nat} {x : Int}, os[i]? = some x → atI (os.map PyData.int) (i : Int) = some (.int x) := fun {i x} h => by rw [at_nat, map_at, h]; rfl
  have a0 : atI (os.map PyData.int) (2 + 5 * (k : Int)) = some (.int x0) := by rw [show (2 + 5 * (k : Int)) = ((2 + 5 * k : Nat) : Int) by omega]; exact at_ e0
  have a1 : atI (os.map PyData.int) (2 + 5 * (k : Int) + 1) = some (.int x1) := by rw [show (2 + 5 * (k : Int) + 1) = ((2 + 5 * k + 1 : Nat) : Int) by omega]; exact at_ e1
  have a2 : atI (os.map PyData.int) (2 + 5 * (k : Int) + 2) = some (.int x2) := by rw [show (2 + 5 * (k : Int) + 2) = ((2 + 5 * k + 2 : Nat) : Int) by omega]; exact at_ e2
  have a3 : atI (os.map PyData.int) (2 + 5 * (k : Int) + 3) = some (.int x3) := by rw [show (2 + 5 * (k : Int) + 3) = ((2 + 5 * k + 3 : Nat) : Int) by omega]; exact at_ e3
  have a4 : atI (os.map PyData.int) (2 + 5 * (k : Int) + 4) = some (.int x4) := by rw [show (2 + 5 * (k : Int) + 4) = ((2 + 5 * k + 4 : Nat) : Int) by omega]; exact at_ e4
  have three : (3 : Nat) ≤ mx := by decide
  obtain ⟨kd, hkd, hkz⟩ : ∃ kd, atI (zs.map PyData.str) x1 = some (.str kd) ∧ kd ∈ zs := by
    have hi : x1.toNat < zs.length := by omega
    refine ⟨zs[x1.toNat], ?_, List.getElem_mem hi⟩
    rw [at_int _ g1.1, map_at, List.getElem?_eq_getElem hi]
    rfl
  have bnd : ∃ low high : Int, 0 ≤ low ∧ low ≤ high ∧ high ≤ 9999 ∧ ((x0 < (ws.length : Int) ∧ ∃ w, atI (ws.map win) x0 = some (win w) ∧ w.b = low ∧ w.e = high) ∨ (¬ x0 < (ws.length : Int) ∧ low = 0 ∧ high = span)) := by
    by_cases h : x0 < (ws.length : Int)
    · have hi : x0.toNat < ws.length := by omega
      obtain ⟨w1, w2, w3⟩ := hn.1 _ (List.getElem_mem hi)
      refine ⟨_, _, w1, w2, w3, .inl ⟨h, ws[x0.toNat], ?_, rfl, rfl⟩⟩
      rw [at_int _ g0, map_at, List.getElem?_eq_getElem hi]
      rfl
    · exact ⟨0, span, Int.le_refl 0, hs.1, hs.2, .inr ⟨h, rfl, rfl⟩⟩
  obtain ⟨low, high, b1, b2, b3, hb⟩ := bnd
  rcases hb with ⟨h, w, hw, e5, e6⟩ | ⟨h, e5, e6⟩
  · subst e5
    subst e6
    generalize hlo : w.b = low at *
    generalize hhi : w.e = high at *
    by_cases c2 : x2 = 0 ∧ low < high
    · have p : (0 : Int) < high - low := by omega
      have r1 := Int.emod_nonneg x3 (show high - low ≠ 0 by omega)
      have r2 := Int.emod_lt_of_pos x3 p
      have A1 := added_ok' ws kd low (low + x3 % (high - low)) (by omega)
      have n1 := addM_nest hn (w := ⟨kd, low, low + x3 % (high - low)⟩) ⟨b1, by dsimp only; omega, by dsimp only; omega⟩
      have l1 := addM_len ws ⟨kd, low, low + x3 % (high - low)⟩
      have A2 := added_ok' (addM ws ⟨kd, low, low + x3 % (high - low)⟩) kd (low + x3 % (high - low) + 1) high (by omega)
      refine ⟨addM (addM ws ⟨kd, low, low + x3 % (high - low)⟩) ⟨kd, low + x3 % (high - low) + 1, high⟩, some (.val (.int (2 + 5 * (k : Int)))), some (.val (.int low)), some (.val (.int high)), some (.val (.str kd)), some (.val (.int (low + x3 % (high - low)))), y14, y15, ?_, addM_nest n1 ⟨by dsimp only; omega, by dsimp only; omega, b3⟩, kinds_add (kinds_add hq hkz) hkz, by have := addM_len (addM ws ⟨kd, low, low + x3 % (high - low)⟩) ⟨kd, low + x3 % (high - low) + 1, high⟩; omega⟩
      simp [cl_windows_1, a0, a1, a2, a3, a4, h, hw, hlo, hhi, hkd, c2.1, c2.2, p, three, A1, A2, mulOk_l]
    · have e2' : ∀ (a b : SRes), (if x2 = 0 ∧ low < high then a else b) = b := fun a b => if_neg c2
      have p : (0 : Int) < high - low + 1 := by omega
      have r1 := Int.emod_nonneg (x3 / 4) (show high - low + 1 ≠ 0 by omega)
      have r2 := Int.emod_lt_of_pos (x3 / 4) p
      by_cases c3 : x3 % 4 = 0
      · have p' : (0 : Int) < high - (low) + 1 := by omega
        have r3 := Int.emod_nonneg (x4 / 4) (show high - (low) + 1 ≠ 0 by omega)
        have r4 := Int.emod_lt_of_pos (x4 / 4) p'
        by_cases c4 : x4 % 4 = 0
        · have A1 := added_ok' ws kd (low) (high) (by omega)
          refine ⟨addM ws ⟨kd, low, high⟩, some (.val (.int (2 + 5 * (k : Int)))), some (.val (.int low)), some (.val (.int high)), some (.val (.str kd)), y13, some (.val (.int (low))), some (.val (.int (high))), ?_, addM_nest hn ⟨by dsimp only; omega, by dsimp only; omega, by dsimp only; omega⟩, kinds_add hq hkz, by have := addM_len ws ⟨kd, low, high⟩; omega⟩
          simp [cl_windows_1, a0, a1, a2, a3, a4, h, hw, hlo, hhi, hkd, c2, c3, c4, p, p', three, A1, mulOk_l]
        · have A1 := added_ok' ws kd (low) (low + x4 / 4 % (high - (low) + 1)) (by omega)
          refine ⟨addM ws ⟨kd, low, low + x4 / 4 % (high - (low) + 1)⟩, some (.val (.int (2 + 5 * (k : Int)))), some (.val (.int low)), some (.val (.int high)), some (.val (.str kd)), y13, some (.val (.int (low))), some (.val (.int (low + x4 / 4 % (high - (low) + 1)))), ?_, addM_nest hn ⟨by dsimp only; omega, by dsimp only; omega, by dsimp only; omega⟩, kinds_add hq hkz, by have := addM_len ws ⟨kd, low, low + x4 / 4 % (high - (low) + 1)⟩; omega⟩
          simp [cl_windows_1, a0, a1, a2, a3, a4, h, hw, hlo, hhi, hkd, c2, c3, c4, p, p', three, A1, mulOk_l]
      · have p' : (0 : Int) < high - (low + x3 / 4 % (high - low + 1)) + 1 := by omega
        have r3 := Int.emod_nonneg (x4 / 4) (show high - (low + x3 / 4 % (high - low + 1)) + 1 ≠ 0 by omega)
        have r4 := Int.emod_lt_of_pos (x4 / 4) p'
        by_cases c4 : x4 % 4 = 0
        · have A1 := added_ok' ws kd (low + x3 / 4 % (high - low + 1)) (high) (by omega)
          refine ⟨addM ws ⟨kd, low + x3 / 4 % (high - low + 1), high⟩, some (.val (.int (2 + 5 * (k : Int)))), some (.val (.int low)), some (.val (.int high)), some (.val (.str kd)), y13, some (.val (.int (low + x3 / 4 % (high - low + 1)))), some (.val (.int (high))), ?_, addM_nest hn ⟨by dsimp only; omega, by dsimp only; omega, by dsimp only; omega⟩, kinds_add hq hkz, by have := addM_len ws ⟨kd, low + x3 / 4 % (high - low + 1), high⟩; omega⟩
          simp [cl_windows_1, a0, a1, a2, a3, a4, h, hw, hlo, hhi, hkd, c2, c3, c4, p, p', three, A1, mulOk_l]
        · have A1 := added_ok' ws kd (low + x3 / 4 % (high - low + 1)) (low + x3 / 4 % (high - low + 1) + x4 / 4 % (high - (low + x3 / 4 % (high - low + 1)) + 1)) (by omega)
          refine ⟨addM ws ⟨kd, low + x3 / 4 % (high - low + 1), low + x3 / 4 % (high - low + 1) + x4 / 4 % (high - (low + x3 / 4 % (high - low + 1)) + 1)⟩, some (.val (.int (2 + 5 * (k : Int)))), some (.val (.int low)), some (.val (.int high)), some (.val (.str kd)), y13, some (.val (.int (low + x3 / 4 % (high - low + 1)))), some (.val (.int (low + x3 / 4 % (high - low + 1) + x4 / 4 % (high - (low + x3 / 4 % (high - low + 1)) + 1)))), ?_, addM_nest hn ⟨by dsimp only; omega, by dsimp only; omega, by dsimp only; omega⟩, kinds_add hq hkz, by have := addM_len ws ⟨kd, low + x3 / 4 % (high - low + 1), low + x3 / 4 % (high - low + 1) + x4 / 4 % (high - (low + x3 / 4 % (high - low + 1)) + 1)⟩; omega⟩
          simp [cl_windows_1, a0, a1, a2, a3, a4, h, hw, hlo, hhi, hkd, c2, c3, c4, p, p', three, A1, mulOk_l]
  · subst e5
    have e7 := e6.symm
    subst e7
    by_cases c2 : x2 = 0 ∧ 0 < span
    · have p : (0 : Int) < span := by omega
      have r1 := Int.emod_nonneg x3 (show span ≠ 0 by omega)
      have r2 := Int.emod_lt_of_pos x3 p
      have A1 := added_ok' ws kd 0 (x3 % span) (by omega)
      have n1 := addM_nest hn (w := ⟨kd, 0, x3 % span⟩) ⟨b1, by dsimp only; omega, by dsimp only; omega⟩
      have l1 := addM_len ws ⟨kd, 0, x3 % span⟩
      have A2 := added_ok' (addM ws ⟨kd, 0, x3 % span⟩) kd (x3 % span + 1) span (by omega)
      refine ⟨addM (addM ws ⟨kd, 0, x3 % span⟩) ⟨kd, x3 % span + 1, span⟩, some (.val (.int (2 + 5 * (k : Int)))), some (.val (.int 0)), some (.val (.int span)), some (.val (.str kd)), some (.val (.int (x3 % span))), y14, y15, ?_, addM_nest n1 ⟨by dsimp only; omega, by dsimp only; omega, b3⟩, kinds_add (kinds_add hq hkz) hkz, by have := addM_len (addM ws ⟨kd, 0, x3 % span⟩) ⟨kd, x3 % span + 1, span⟩; omega⟩
      simp [cl_windows_1, a0, a1, a2, a3, a4, h, hkd, c2.1, c2.2, p, three, A1, A2, mulOk_l]
    · have e2' : ∀ (a b : SRes), (if x2 = 0 ∧ 0 < span then a else b) = b := fun a b => if_neg c2
      have p : (0 : Int) < span + 1 := by omega
      have r1 := Int.emod_nonneg (x3 / 4) (show span + 1 ≠ 0 by omega)
      have r2 := Int.emod_lt_of_pos (x3 / 4) p
      by_cases c3 : x3 % 4 = 0
      · have p' : (0 : Int) < span + 1 := by omega
        have r3 := Int.emod_nonneg (x4 / 4) (show span + 1 ≠ 0 by omega)
        have r4 := Int.emod_lt_of_pos (x4 / 4) p'
        by_cases c4 : x4 % 4 = 0
        · have A1 := added_ok' ws kd 0 span (by omega)
          refine ⟨addM ws ⟨kd, 0, span⟩, some (.val (.int (2 + 5 * (k : Int)))), some (.val (.int 0)), some (.val (.int span)), some (.val (.str kd)), y13, some (.val (.int 0)), some (.val (.int span)), ?_, addM_nest hn ⟨by dsimp only; omega, by dsimp only; omega, by dsimp only; omega⟩, kinds_add hq hkz, by have := addM_len ws ⟨kd, 0, span⟩; omega⟩
          simp [cl_windows_1, a0, a1, a2, a3, a4, h, hkd, c2, c3, c4, p, p', three, A1, mulOk_l]
        · have A1 := added_ok' ws kd 0 (x4 / 4 % (span + 1)) (by omega)
          refine ⟨addM ws ⟨kd, 0, x4 / 4 % (span + 1)⟩, some (.val (.int (2 + 5 * (k : Int)))), some (.val (.int 0)), some (.val (.int span)), some (.val (.str kd)), y13, some (.val (.int 0)), some (.val (.int (x4 / 4 % (span + 1)))), ?_, addM_nest hn ⟨by dsimp only; omega, by dsimp only; omega, by dsimp only; omega⟩, kinds_add hq hkz, by have := addM_len ws ⟨kd, 0, x4 / 4 % (span + 1)⟩; omega⟩
          simp [cl_windows_1, a0, a1, a2, a3, a4, h, hkd, c2, c3, c4, p, p', three, A1, mulOk_l]
      · have p' : (0 : Int) < span - x3 / 4 % (span + 1) + 1 := by omega
        have r3 := Int.emod_nonneg (x4 / 4) (show span - x3 / 4 % (span + 1) + 1 ≠ 0 by omega)
        have r4 := Int.emod_lt_of_pos (x4 / 4) p'
        by_cases c4 : x4 % 4 = 0
        · have A1 := added_ok' ws kd (x3 / 4 % (span + 1)) span (by omega)
          refine ⟨addM ws ⟨kd, x3 / 4 % (span + 1), span⟩, some (.val (.int (2 + 5 * (k : Int)))), some (.val (.int 0)), some (.val (.int span)), some (.val (.str kd)), y13, some (.val (.int (x3 / 4 % (span + 1)))), some (.val (.int span)), ?_, addM_nest hn ⟨by dsimp only; omega, by dsimp only; omega, by dsimp only; omega⟩, kinds_add hq hkz, by have := addM_len ws ⟨kd, x3 / 4 % (span + 1), span⟩; omega⟩
          simp [cl_windows_1, a0, a1, a2, a3, a4, h, hkd, c2, c3, c4, p, p', three, A1, mulOk_l]
        · have A1 := added_ok' ws kd (x3 / 4 % (span + 1)) (x3 / 4 % (span + 1) + x4 / 4 % (span - x3 / 4 % (span + 1) + 1)) (by omega)
          refine ⟨addM ws ⟨kd, x3 / 4 % (span + 1), x3 / 4 % (span + 1) + x4 / 4 % (span - x3 / 4 % (span + 1) + 1)⟩, some (.val (.int (2 + 5 * (k : Int)))), some (.val (.int 0)), some (.val (.int span)), some (.val (.str kd)), y13, some (.val (.int (x3 / 4 % (span + 1)))), some (.val (.int (x3 / 4 % (span + 1) + x4 / 4 % (span - x3 / 4 % (span + 1) + 1)))), ?_, addM_nest hn ⟨by dsimp only; omega, by dsimp only; omega, by dsimp only; omega⟩, kinds_add hq hkz, by have := addM_len ws ⟨kd, x3 / 4 % (span + 1), x3 / 4 % (span + 1) + x4 / 4 % (span - x3 / 4 % (span + 1) + 1)⟩; omega⟩
          simp [cl_windows_1, a0, a1, a2, a3, a4, h, hkd, c2, c3, c4, p, p', three, A1, mulOk_l]
/-! ### a block of sizes, said over and over -/
def repB (blk : List Int) (n : Nat) : List Int := (List.replicate n blk).flatten
theorem repB_len (blk : List Int) (n : Nat) : (repB blk n).length = n * blk.length := by
  unfold repB
  induction n with
  | zero => simp
  | succ n ih => rw [List.replicate_succ, List.flatten_cons, List.length_append, ih, Nat.succ_mul, Nat.add_comm]
theorem repB_at (blk : List Int) {i : Nat} (hi : i < blk.length) : ∀ (n k : Nat), k < n → (repB blk n)[blk.length * k + i]? = blk[i]? := by
  intro n
  induction n with
  | zero => intro k h; omega
  | succ n ih =>
    intro k h
    have e : repB blk (n + 1) = blk ++ repB blk n := by unfold repB; rw [List.replicate_succ, List.flatten_cons]
    rw [e]
    cases k with
    | zero => rw [Nat.mul_zero, Nat.zero_add, List.getElem?_append_left hi]
    | succ k =>
      rw [List.getElem?_append_right (by rw [Nat.mul_succ]; omega)]
      have : blk.length * (k + 1) + i - blk.length = blk.length * k + i := by rw [Nat.mul_succ]; omega
      rw [this]
      exact ih k (by omega)
theorem repB_szs {blk : List Int} (h : Szs blk) (n : Nat) : Szs (repB blk n) := by
  intro m hm
  unfold repB at hm
  rw [List.mem_flatten] at hm
  obtain ⟨l, hl, hm⟩ := hm
  rw [List.eq_of_mem_replicate hl] at hm
  exact h m hm
theorem repB_map (blk : List Int) (n : Nat) : (List.replicate n (blk.map PyData.int)).flatten = (repB blk n).map .int := by
  unfold repB
  rw [List.map_flatten, List.map_replicate]
theorem mul_rep (blk : List Int) (n : Nat) (h : n * blk.length ≤ 100000) (hn : n ≤ 100000) : oMul (.list (blk.map .int)) (.int (n : Int)) = .ok (.list ((repB blk n).map .int)) := by
  simp only [oMul]
  rw [Int.toNat_natCast, if_pos, repB_map]
  simp only [Bool.and_eq_true, decide_eq_true_eq, List.length_map]
  refine ⟨⟨by omega, by omega⟩, ?_⟩
  show _ ≤ 16777216
  rw [Nat.mul_comm]
  omega
theorem windows_loop (c c2 span : Int) (most : Nat) (hs : List PyData) (zs : List Str) (os : List Int) (n : Nat) (hz : zs.length = 6) (hsp : 0 ≤ span ∧ span ≤ 9999) (hn : n ≤ 100)
    (hd : ∀ k, k < n → ∃ x0 x1 x2 x3 x4 : Int, os[2 + 5 * k]? = some x0 ∧ os[2 + 5 * k + 1]? = some x1 ∧ os[2 + 5 * k + 2]? = some x2 ∧ os[2 + 5 * k + 3]? = some x3 ∧ os[2 + 5 * k + 4]? = some x4 ∧ 0 ≤ x0 ∧ (0 ≤ x1 ∧ x1 < 6) ∧ 0 ≤ x3 ∧ 0 ≤ x4) :
    ∃ (ws : List Win) (z8 z9 z10 z11 z12 z13 z14 z15 : Option SV), forS (τName 8) cl_windows_1 ((List.range n).map fun (k : Nat) => .int (k : Int)) [some (.val (.int c)), some (.val (.int c2)), some (.val (.int (most : Int))), some (.val (.list hs)), some (.val (.int span)), some (.val (.list (zs.map .str))), some (.val (.list (os.map .int))), some (.val (.list [])), none, none, none, none, none, none, none, none] = .nx [some (.val (.int c)), some (.val (.int c2)), some (.val (.int (most : Int))), some (.val (.list hs)), some (.val (.int span)), some (.val (.list (zs.map .str))), some (.val (.list (os.map .int))), some (.val (.list (ws.map win))), z8, z9, z10, z11, z12, z13, z14, z15] ∧ WNest ws ∧ kindsIn zs ws ∧ ws.length ≤ 2 * n := by
  refine for_rng n (fun k ρ => ∃ (ws : List Win) (z8 z9 z10 z11 z12 z13 z14 z15 : Option SV), ρ = [some (.val (.int c)), some (.val (.int c2)), some (.val (.int (most : Int))), some (.val (.list hs)), some (.val (.int span)), some (.val (.list (zs.map .str))), some (.val (.list (os.map .int))), some (.val (.list (ws.map win))), z8, z9, z10, z11, z12, z13, z14, z15] ∧ WNest ws ∧ kindsIn zs ws ∧ ws.length ≤ 2 * k)
    (fun r => ∃ (ws : List Win) (z8 z9 z10 z11 z12 z13 z14 z15 : Option SV), r = .nx [some (.val (.int c)), some (.val (.int c2)), some (.val (.int (most : Int))), some (.val (.list hs)), some (.val (.int span)), some (.val (.list (zs.map .str))), some (.val (.list (os.map .int))), some (.val (.list (ws.map win))), z8, z9, z10, z11, z12, z13, z14, z15] ∧ WNest ws ∧ kindsIn zs ws ∧ ws.length ≤ 2 * n) ⟨[], none, none, none, none, none, none, none, none, rfl, nest_nil, fun w h => (by cases h), Nat.zero_le _⟩ ?_ ?_
  · intro k ρ hk hI
    have step : ∀ (ws : List Win) (z8 z9 z10 z11 z12 z13 z14 z15 : Option SV), WNest ws → kindsIn zs ws → ws.length ≤ 2 * k → Aft (cl_windows_1 [some (.val (.int c)), some (.val (.int c2)), some (.val (.int (most : Int))), some (.val (.list hs)), some (.val (.int span)), some (.val (.list (zs.map .str))), some (.val (.list (os.map .int))), some (.val (.list (ws.map win))), some (.val (.int (k : Int))), z9, z10, z11, z12, z13, z14, z15]) (fun ρ => ∃ (ws : List Win) (z8 z9 z10 z11 z12 z13 z14 z15 : Option SV), ρ = [some (.val (.int c)), some (.val (.int c2)), some (.val (.int (most : Int))), some (.val (.list hs)), some (.val (.int span)), some (.val (.list (zs.map .str))), some (.val (.list (os.map .int))), some (.val (.list (ws.map win))), z8, z9, z10, z11, z12, z13, z14, z15] ∧ WNest ws ∧ kindsIn zs ws ∧ ws.length ≤ 2 * (k + 1))
        (fun r => ∃ (ws : List Win) (z8 z9 z10 z11 z12 z13 z14 z15 : Option SV), r = .nx [some (.val (.int c)), some (.val (.int c2)), some (.val (.int (most : Int))), some (.val (.list hs)), some (.val (.int span)), some (.val (.list (zs.map .str))), some (.val (.list (os.map .int))), some (.val (.list (ws.map win))), z8, z9, z10, z11, z12, z13, z14, z15] ∧ WNest ws ∧ kindsIn zs ws ∧ ws.length ≤ 2 * n) := fun ws z8 z9 z10 z11 z12 z13 z14 z15 h1 h2 h3 => by
      obtain ⟨x0, x1, x2, x3, x4, e0, e1, e2, e3, e4, g0, g1, g3, g4⟩ := hd k hk
      obtain ⟨ws', y9, y10, y11, y12, y13, y14, y15, t, n1, n2, n3⟩ := windows_turn (some (.val (.int c))) (some (.val (.int c2))) (some (.val (.int (most : Int)))) (some (.val (.list hs))) (some (.val (.int (k : Int)))) z9 z10 z11 z12 z13 z14 z15 zs os ws k span x0 x1 x2 x3 x4 rfl e0 e1 e2 e3 e4 g0 g1 g3 g4 hz hsp h1 h2 (by omega)
      rw [t, aft_nx]
      exact ⟨ws', _, _, _, _, _, _, _, _, rfl, n1, n2, by omega⟩
    exact hI.elim fun ws h => h.elim fun z8 h => h.elim fun z9 h => h.elim fun z10 h => h.elim fun z11 h => h.elim fun z12 h => h.elim fun z13 h => h.elim fun z14 h => h.elim fun z15 h => by
      rw [h.1]
      exact step ws z8 z9 z10 z11 z12 z13 z14 z15 h.2.1 h.2.2.1 h.2.2.2
  · intro ρ h
    exact h.elim fun ws h => h.elim fun z8 h => h.elim fun z9 h => h.elim fun z10 h => h.elim fun z11 h => h.elim fun z12 h => h.elim fun z13 h => h.elim fun z14 h => h.elim fun z15 h => ⟨ws, z8, z9, z10, z11, z12, z13, z14, z15, by rw [h.1], h.2⟩
end DL

/-! DM6: the windows drawn. -/
namespace DL
open PySem PySem.Spec PyProof.Rows L2
theorem windows_ok (c c2 : Int) (most : Nat) (hm : most ≤ 40) : ∃ (ws : List Win) (zs : List Str), g_windows [.int c, .int c2, .int (most : Int)] = .ok (.tuple (ws.map win)) ∧ WNest ws ∧ ws.length ≤ 2 * most ∧ kindsIn zs ws ∧ ∀ z ∈ zs, name1 z := by
  obtain ⟨h, eh, dh⟩ := draws_ok c [(most : Int) + 1, 4] (by intro m hm'; simp at hm'; omega) (by simp)
  obtain ⟨n0, hn0, p0, p0'⟩ := dh.get (i := 0) rfl
  obtain ⟨n1, hn1, p1, p1'⟩ := dh.get (i := 1) rfl
  obtain ⟨n, rfl⟩ : ∃ n : Nat, n0 = (n : Int) := ⟨n0.toNat, by omega⟩
  have hn : n ≤ 40 := by omega
  have a0 : atI (h.map PyData.int) 0 = some (.int (n : Int)) := by rw [show (0 : Int) = ((0 : Nat) : Int) from rfl, at_nat, map_at, hn0]; rfl
  have a1 : atI (h.map PyData.int) 1 = some (.int n1) := by rw [show (1 : Int) = ((1 : Nat) : Int) from rfl, at_nat, map_at, hn1]; rfl
  obtain ⟨span, hsp, hs⟩ : ∃ span : Int, atI [PyData.int 9999, .int 40, .int 12, .int 700] n1 = some (.int span) ∧ 0 ≤ span ∧ span ≤ 9999 := by
    have : n1 = 0 ∨ n1 = 1 ∨ n1 = 2 ∨ n1 = 3 := by omega
    rcases this with rfl | rfl | rfl | rfl
    · exact ⟨9999, at0 _ _, by decide⟩
    · exact ⟨40, at1 _ _ _, by decide⟩
    · exact ⟨12, at2 _ _ _ _, by decide⟩
    · exact ⟨700, at3 _ _ _ _ _, by decide⟩
  obtain ⟨zs, ez, lz, nz⟩ := names_ok c2 6 (by decide)
  have hb : Szs [(most : Int) + 2, 6, 3, 40000, 40000] := by intro m hm'; simp at hm'; omega
  have hz2 : Szs ([(most : Int) + 1, 4] ++ repB [(most : Int) + 2, 6, 3, 40000, 40000] n) := Szs.app (by intro m hm'; simp at hm'; omega) (repB_szs hb n)
  obtain ⟨os, eo, d⟩ := draws_ok c _ hz2 (by rw [List.length_append, repB_len]; simp; omega)
  have at_ : ∀ (k i : Nat) (m : Int), k < n → i < 5 → [(most : Int) + 2, 6, 3, 40000, 40000][i]? = some m → ∃ x, os[2 + 5 * k + i]? = some x ∧ 0 ≤ x ∧ x < m := fun k i m hk hi hm' => by
    have q := repB_at [(most : Int) + 2, 6, 3, 40000, 40000] (i := i) (by simpa using hi) n k hk
    refine d.get (i := 2 + 5 * k + i) ?_
    rw [List.getElem?_append_right (by simp; omega)]
    rw [hm'] at q
    rw [← q]
    congr 1
    simp
    omega
  obtain ⟨ws, z8, z9, z10, z11, z12, z13, z14, z15, el, w1, w2, w3⟩ := windows_loop c c2 span most (h.map .int) zs os n lz hs (by omega) (fun k hk => by
    obtain ⟨x0, e0, g0, _⟩ := at_ k 0 _ hk (by decide) rfl
    obtain ⟨x1, e1, g1⟩ := at_ k 1 _ hk (by decide) rfl
    obtain ⟨x2, e2, _⟩ := at_ k 2 _ hk (by decide) rfl
    obtain ⟨x3, e3, g3, _⟩ := at_ k 3 _ hk (by decide) rfl
    obtain ⟨x4, e4, g4, _⟩ := at_ k 4 _ hk (by decide) rfl
    exact ⟨x0, x1, x2, x3, x4, e0, e1, e2, e3, e4, g0, g1, g3, g4⟩)
  refine ⟨ws, zs, ?_, w1, by omega, w2, nz⟩
  have mr := mul_rep [(most : Int) + 2, 6, 3, 40000, 40000] n (by simp; omega) (by omega)
  have ll : (repB [(most : Int) + 2, 6, 3, 40000, 40000] n).length + 1 + 1 ≤ mx := by rw [repB_len]; show _ ≤ 16777216; simp; omega
  have l2 : 2 + (repB [(most : Int) + 2, 6, 3, 40000, 40000] n).length ≤ mx := by rw [repB_len]; show _ ≤ 16777216; simp; omega
  simp at eh eo mr ez
  simp [g_windows, runF, c_windows, eh, a0, a1, hsp, ez, mr, l2, ll, eo, rng_nat (show n ≤ 1000000000 by omega), el]
end DL

/-! DM7: tickets. -/
namespace DL
open PySem PySem.Spec PyProof.Rows L2
def ce_tickets_1 : En → Rs PyData :=
  (b2 oIx (dVar 5) (dC (.int 0)))
def ce_tickets_2 : En → Rs PyData :=
  (dVar 13)
def ct_tickets_2 : En → Rs Bool :=
  (tAndD (tst (b2 oEq (b2 oIx (dVar 13) (dC (.int 0))) (dVar 10))) (tst (b2 oEq (b2 oIx (dVar 13) (dC (.int 1))) (b2 oAdd (dC (.int 1)) (b2 oIx (dVar 6) (b2 oAdd (dVar 9) (dC (.int 1))))))))
def cl_tickets_1 : En → SRes :=
  (sSeq (sSet 9 (b2 oAdd (dC (.int 1)) (b2 oMul (dC (.int 5)) (dVar 8))))
  (sSeq (sSet 10 (b2 oIx (dVar 4) (b2 oMod (b1 oInt (b2 oIx (dVar 6) (dVar 9))) (b1 oLen (dVar 4)))))
  (sSeq (sSet 11 (b2 oIx (dVar 6) (b2 oAdd (dVar 9) (dC (.int 3)))))
  (sSeq (sIf (tst (b2 oEq (b2 oIx (dVar 6) (b2 oAdd (dVar 9) (dC (.int 2)))) (dC (.int 0))))
  (sSet 11 (b2 oIx (dVar 6) (b2 oAdd (dVar 9) (dC (.int 4)))))
  sNil)
  (sSeq (sIf (tst (b2 oEq (b2 oIx (dVar 6) (b2 oAdd (dVar 9) (dC (.int 2)))) (dC (.int 1))))
  (sSet 11 (b2 oSub (dC (.int 999999)) (b2 oIx (dVar 6) (b2 oAdd (dVar 9) (dC (.int 3))))))
  sNil)
  (sSeq (sSetO 12 (lcD [13] (iOf oAny (bVar 7)) (τName 13) ct_tickets_2 ce_tickets_2))
  (sIf (tst (b2 oEq (b1 oLen (bVar 12)) (dC (.int 0))))
  (sApp 7 (mkT (aCons (dVar 10) (aCons (b2 oAdd (dC (.int 1)) (b2 oIx (dVar 6) (b2 oAdd (dVar 9) (dC (.int 1))))) (aCons (dVar 11) aNil)))))
  sNil)))))))
def c_tickets : En → SRes :=
  (sSeq (sSet 3 (dCall g_draws (aCons (dVar 0) (aCons (mkL (aCons (b2 oAdd (dVar 2) (dC (.int 1))) aNil)) aNil))))
  (sSeq (sSet 4 (b2 oAdd (mkL (aCons (dC (.str "single")) aNil)) (lcD [5] (iOf oAny (dVar 1)) (τName 5) tY ce_tickets_1)))
  (sSeq (sSet 6 (dCall g_draws (aCons (dVar 0) (aCons (b2 oAdd (mkL (aCons (b2 oAdd (dVar 2) (dC (.int 1))) aNil)) (b2 oMul (mkL (aCons (dC (.int 13)) (aCons (dC (.int 6)) (aCons (dC (.int 5)) (aCons (dC (.int 30)) (aCons (dC (.int 1000000)) aNil)))))) (b2 oIx (dVar 3) (dC (.int 0))))) aNil))))
  (sSeq (sSetO 7 (mkL aNil))
  (sSeq (sFor (iRange1 (b2 oIx (dVar 3) (dC (.int 0)))) (τName 8) cl_tickets_1)
  (sRet (b1 oTuple (bVar 7))))))))
def g_tickets : List PyData → Rs PyData := runF 14 3 c_tickets

structure Tk where
  k : Str
  z : Int
  p : Int
def tkD (t : Tk) : PyData := .tuple [.str t.k, .int t.z, .int t.p]
@[simp] theorem tk0 (t : Tk) : oIx (tkD t) (.int 0) = .ok (.str t.k) := by simp [tkD]
@[simp] theorem tk1 (t : Tk) : oIx (tkD t) (.int 1) = .ok (.int t.z) := by simp [tkD]
@[simp] theorem tk2 (t : Tk) : oIx (tkD t) (.int 2) = .ok (.int t.p) := by simp [tkD]
def TkOk (t : Tk) : Prop := 1 ≤ t.z ∧ t.z ≤ 6 ∧ 0 ≤ t.p ∧ t.p ≤ 999999
def TNest (ts : List Tk) : Prop := (∀ t ∈ ts, TkOk t) ∧ ts.Pairwise fun a b => ¬ (a.k = b.k ∧ a.z = b.z)
theorem tnest_nil : TNest [] := ⟨fun t h => (by cases h), List.Pairwise.nil⟩
theorem tickets_turn (s0 s1 s2 s3 s5 s8 y9 y10 y11 y12 y13 : Option SV) (zs : List Str) (os : List Int) (ts : List Tk) (k : Nat) (x0 x1 x2 x3 x4 : Int) (hk : s8 = some (.val (.int (k : Int)))) (h13 : noOwn [y13] [0] = true)
    (e0 : os[1 + 5 * k]? = some x0) (e1 : os[1 + 5 * k + 1]? = some x1) (e2 : os[1 + 5 * k + 2]? = some x2) (e3 : os[1 + 5 * k + 3]? = some x3) (e4 : os[1 + 5 * k + 4]? = some x4)
    (g0 : 0 ≤ x0) (g1 : 0 ≤ x1 ∧ x1 < 6) (g3 : 0 ≤ x3 ∧ x3 < 30) (g4 : 0 ≤ x4 ∧ x4 < 1000000) (hz : 0 < zs.length) (hn : TNest ts) (hl : ts.length ≤ 900) :
    ∃ ts' z9 z10 z11 z12, cl_tickets_1 [s0, s1, s2, s3, some (.val (.list (zs.map .str))), s5, some (.val (.list (os.map .int))), some (.own (.list (ts.map tkD))), s8, y9, y10, y11, y12, y13]
      = .nx [s0, s1, s2, s3, some (.val (.list (zs.map .str))), s5, some (.val (.list (os.map .int))), some (.own (.list (ts'.map tkD))), s8, z9, z10, z11, z12, y13] ∧ TNest ts' ∧ (∀ t ∈ ts', t ∈ ts ∨ t.k ∈ zs) ∧ ts'.length ≤ ts.length + 1 := by
  subst hk
  have at_ : ∀ {i : Nat} {x : Int}, os[i]? = some x → atI (os.map PyData.int) (i : Int) = some (.int x) := fun {i x} h => by rw [at_nat, map_at, h]; rfl
  have a0 : atI (os.map PyData.int) (1 + 5 * (k : Int)) = some (.int x0) := by rw [show (1 + 5 * (k : Int)) = ((1 + 5 * k : Nat) : Int) by omega]; exact at_ e0
  have a1 : atI (os.map PyData.int) (1 + 5 * (k : Int) + 1) = some (.int x1) := by rw [show (1 + 5 * (k : Int) + 1) = ((1 + 5 * k + 1 : Nat) : Int) by omega]; exact at_ e1
  have a2 : atI (os.map PyData.int) (1 + 5 * (k : Int) + 2) = some (.int x2) := by rw [show (1 + 5 * (k : Int) + 2) = ((1 + 5 * k + 2 : Nat) : Int) by omega]; exact at_ e2
  have a3 : atI (os.map PyData.int) (1 + 5 * (k : Int) + 3) = some (.int x3) := by rw [show (1 + 5 * (k : Int) + 3) = ((1 + 5 * k + 3 : Nat) : Int) by omega]; exact at_ e3
  have a4 : atI (os.map PyData.int) (1 + 5 * (k : Int) + 4) = some (.int x4) := by rw [show (1 + 5 * (k : Int) + 4) = ((1 + 5 * k + 4 : Nat) : Int) by omega]; exact at_ e4
  have pz : (0 : Int) < (zs.length : Int) := by omega
  have r0 := Int.emod_nonneg x0 (show (zs.length : Int) ≠ 0 by omega)
  have r1 := Int.emod_lt_of_pos x0 pz
  obtain ⟨kd, hkd, hkz⟩ : ∃ kd, atI (zs.map PyData.str) (x0 % (zs.length : Int)) = some (.str kd) ∧ kd ∈ zs := by
    have hi : (x0 % (zs.length : Int)).toNat < zs.length := by omega
    refine ⟨zs[(x0 % (zs.length : Int)).toNat], ?_, List.getElem_mem hi⟩
    rw [at_int _ r0, map_at, List.getElem?_eq_getElem hi]
    rfl
  have l1 : ts.length ≤ mx := by show _ ≤ 16777216; omega
  have l2 : ts.length < mx := by show _ < 16777216; omega
  have lc : ∀ pr y12 : Option SV, lcL (τName 13) ct_tickets_2 ce_tickets_2 (ts.map tkD) [s0, s1, s2, s3, some (.val (.list (zs.map .str))), s5, some (.val (.list (os.map .int))), some (.own (.list (ts.map tkD))), some (.val (.int (k : Int))), some (.val (.int (1 + 5 * (k : Int)))), some (.val (.str kd)), pr, y12, none] = .ok ((ts.filter fun t => decide (t.k = kd) && decide (t.z = 1 + x1)).map tkD) := fun pr y12 => by
    refine lcL_map tkD tkD (fun t => decide (t.k = kd) && decide (t.z = 1 + x1)) (fun t => [s0, s1, s2, s3, some (.val (.list (zs.map .str))), s5, some (.val (.list (os.map .int))), some (.own (.list (ts.map tkD))), some (.val (.int (k : Int))), some (.val (.int (1 + 5 * (k : Int)))), some (.val (.str kd)), pr, y12, some (.val (tkD t))]) ts fun t _ => ⟨rfl, ?_, fun _ => rfl⟩
    simp [ct_tickets_2, a1]
  have no : ∀ pr y12 : Option SV, noOwn [s0, s1, s2, s3, some (.val (.list (zs.map .str))), s5, some (.val (.list (os.map .int))), some (.own (.list (ts.map tkD))), some (.val (.int (k : Int))), some (.val (.int (1 + 5 * (k : Int)))), some (.val (.str kd)), pr, y12, y13] [13] = true := fun _ _ => h13
  have wi : ∀ pr y12 : Option SV, wipeE [s0, s1, s2, s3, some (.val (.list (zs.map .str))), s5, some (.val (.list (os.map .int))), some (.own (.list (ts.map tkD))), some (.val (.int (k : Int))), some (.val (.int (1 + 5 * (k : Int)))), some (.val (.str kd)), pr, y12, y13] [13] = [s0, s1, s2, s3, some (.val (.list (zs.map .str))), s5, some (.val (.list (os.map .int))), some (.own (.list (ts.map tkD))), some (.val (.int (k : Int))), some (.val (.int (1 + 5 * (k : Int)))), some (.val (.str kd)), pr, y12, none] := fun _ _ => rfl
  have add : ∀ pr : Int, 0 ≤ pr → pr ≤ 999999 → (ts.filter fun t => decide (t.k = kd) && decide (t.z = 1 + x1)).length = 0 → TNest (ts ++ [⟨kd, 1 + x1, pr⟩]) := fun pr p1 p2 hf => by
    rw [List.length_eq_zero_iff, List.filter_eq_nil_iff] at hf
    refine ⟨fun t ht => ?_, ?_⟩
    · rcases List.mem_append.mp ht with h | h
      · exact hn.1 t h
      · rw [List.mem_singleton.mp h]; exact ⟨by dsimp only; omega, by dsimp only; omega, p1, p2⟩
    · rw [List.pairwise_append]
      refine ⟨hn.2, List.pairwise_singleton _ _, fun a ha b hb => ?_⟩
      rw [List.mem_singleton.mp hb]
      intro z
      exact hf a ha (by simp [z.1, z.2])
  by_cases c0 : x2 = 0
  · subst c0
    by_cases hf : (ts.filter fun t => decide (t.k = kd) && decide (t.z = 1 + x1)).length = 0
    · refine ⟨ts ++ [⟨kd, 1 + x1, x4⟩], some (.val (.int (1 + 5 * (k : Int)))), some (.val (.str kd)), some (.val (.int (x4))), some (.own (.list ((ts.filter fun t => decide (t.k = kd) && decide (t.z = 1 + x1)).map tkD))), ?_, add _ (by omega) (by omega) hf, fun t ht => ?_, by rw [List.length_append]; exact Nat.le_refl _⟩
      · have hf' : ((ts.filter fun t => decide (t.k = kd) && decide (t.z = 1 + x1)).length : Int) = 0 := by omega
        simp only [cl_tickets_1]
        simp [x_app, a0, a1, a2, a3, a4, pz, hz, mulOk_l, hkd, l1, l2, no, wi, lc, hf', tkD]
      · rcases List.mem_append.mp ht with h | h
        · exact .inl h
        · rw [List.mem_singleton.mp h]; exact .inr hkz
    · refine ⟨ts, some (.val (.int (1 + 5 * (k : Int)))), some (.val (.str kd)), some (.val (.int (x4))), some (.own (.list ((ts.filter fun t => decide (t.k = kd) && decide (t.z = 1 + x1)).map tkD))), ?_, hn, fun t ht => .inl ht, Nat.le_succ _⟩
      have hf2 : ¬ ∀ a : Tk, a ∈ ts → a.k = kd → ¬ a.z = 1 + x1 := fun q => hf (List.length_eq_zero_iff.mpr (List.filter_eq_nil_iff.mpr fun a ha => by
        have := q a ha
        simpa using this))
      have hf' : ¬ ((ts.filter fun t => decide (t.k = kd) && decide (t.z = 1 + x1)).length : Int) = 0 := by omega
      simp [cl_tickets_1, x_app, a0, a1, a2, a3, a4, pz, hz, mulOk_l, hkd, l1, l2, no, wi, lc, hf', hf2]
  · by_cases c1 : x2 = 1
    · subst c1
      by_cases hf : (ts.filter fun t => decide (t.k = kd) && decide (t.z = 1 + x1)).length = 0
      · refine ⟨ts ++ [⟨kd, 1 + x1, 999999 - x3⟩], some (.val (.int (1 + 5 * (k : Int)))), some (.val (.str kd)), some (.val (.int (999999 - x3))), some (.own (.list ((ts.filter fun t => decide (t.k = kd) && decide (t.z = 1 + x1)).map tkD))), ?_, add _ (by omega) (by omega) hf, fun t ht => ?_, by rw [List.length_append]; exact Nat.le_refl _⟩
        · have hf' : ((ts.filter fun t => decide (t.k = kd) && decide (t.z = 1 + x1)).length : Int) = 0 := by omega
          simp only [cl_tickets_1]
          simp [x_app, a0, a1, a2, a3, a4, pz, hz, mulOk_l, hkd, l1, l2, no, wi, lc, hf', tkD]
        · rcases List.mem_append.mp ht with h | h
          · exact .inl h
          · rw [List.mem_singleton.mp h]; exact .inr hkz
      · refine ⟨ts, some (.val (.int (1 + 5 * (k : Int)))), some (.val (.str kd)), some (.val (.int (999999 - x3))), some (.own (.list ((ts.filter fun t => decide (t.k = kd) && decide (t.z = 1 + x1)).map tkD))), ?_, hn, fun t ht => .inl ht, Nat.le_succ _⟩
        have hf2 : ¬ ∀ a : Tk, a ∈ ts → a.k = kd → ¬ a.z = 1 + x1 := fun q => hf (List.length_eq_zero_iff.mpr (List.filter_eq_nil_iff.mpr fun a ha => by
          have := q a ha
          simpa using this))
        have hf' : ¬ ((ts.filter fun t => decide (t.k = kd) && decide (t.z = 1 + x1)).length : Int) = 0 := by omega
        simp [cl_tickets_1, x_app, a0, a1, a2, a3, a4, pz, hz, mulOk_l, hkd, l1, l2, no, wi, lc, hf', hf2]
    · by_cases hf : (ts.filter fun t => decide (t.k = kd) && decide (t.z = 1 + x1)).length = 0
      · refine ⟨ts ++ [⟨kd, 1 + x1, x3⟩], some (.val (.int (1 + 5 * (k : Int)))), some (.val (.str kd)), some (.val (.int (x3))), some (.own (.list ((ts.filter fun t => decide (t.k = kd) && decide (t.z = 1 + x1)).map tkD))), ?_, add _ (by omega) (by omega) hf, fun t ht => ?_, by rw [List.length_append]; exact Nat.le_refl _⟩
        · have hf' : ((ts.filter fun t => decide (t.k = kd) && decide (t.z = 1 + x1)).length : Int) = 0 := by omega
          simp only [cl_tickets_1]
          simp [x_app, a0, a1, a2, a3, a4, pz, hz, mulOk_l, hkd, l1, l2, no, wi, lc, hf', c0, c1, tkD]
        · rcases List.mem_append.mp ht with h | h
          · exact .inl h
          · rw [List.mem_singleton.mp h]; exact .inr hkz
      · refine ⟨ts, some (.val (.int (1 + 5 * (k : Int)))), some (.val (.str kd)), some (.val (.int (x3))), some (.own (.list ((ts.filter fun t => decide (t.k = kd) && decide (t.z = 1 + x1)).map tkD))), ?_, hn, fun t ht => .inl ht, Nat.le_succ _⟩
        have hf2 : ¬ ∀ a : Tk, a ∈ ts → a.k = kd → ¬ a.z = 1 + x1 := fun q => hf (List.length_eq_zero_iff.mpr (List.filter_eq_nil_iff.mpr fun a ha => by
          have := q a ha
          simpa using this))
        have hf' : ¬ ((ts.filter fun t => decide (t.k = kd) && decide (t.z = 1 + x1)).length : Int) = 0 := by omega
        simp [cl_tickets_1, x_app, a0, a1, a2, a3, a4, pz, hz, mulOk_l, hkd, l1, l2, no, wi, lc, hf', hf2, c0, c1]
theorem tickets_loop (s0 s1 s2 s3 s5 : Option SV) (zs : List Str) (os : List Int) (n : Nat) (hz : 0 < zs.length) (hn : n ≤ 200)
    (hd : ∀ k, k < n → ∃ x0 x1 x2 x3 x4 : Int, os[1 + 5 * k]? = some x0 ∧ os[1 + 5 * k + 1]? = some x1 ∧ os[1 + 5 * k + 2]? = some x2 ∧ os[1 + 5 * k + 3]? = some x3 ∧ os[1 + 5 * k + 4]? = some x4 ∧ 0 ≤ x0 ∧ (0 ≤ x1 ∧ x1 < 6) ∧ (0 ≤ x3 ∧ x3 < 30) ∧ (0 ≤ x4 ∧ x4 < 1000000)) :
    ∃ (ts : List Tk) (z8 z9 z10 z11 z12 : Option SV), forS (τName 8) cl_tickets_1 ((List.range n).map fun (k : Nat) => .int (k : Int)) [s0, s1, s2, s3, some (.val (.list (zs.map .str))), s5, some (.val (.list (os.map .int))), some (.own (.list [])), none, none, none, none, none, none] = .nx [s0, s1, s2, s3, some (.val (.list (zs.map .str))), s5, some (.val (.list (os.map .int))), some (.own (.list (ts.map tkD))), z8, z9, z10, z11, z12, none] ∧ TNest ts ∧ (∀ t ∈ ts, t.k ∈ zs) ∧ ts.length ≤ n := by
  refine for_rng n (fun k ρ => ∃ (ts : List Tk) (z8 z9 z10 z11 z12 : Option SV), ρ = [s0, s1, s2, s3, some (.val (.list (zs.map .str))), s5, some (.val (.list (os.map .int))), some (.own (.list (ts.map tkD))), z8, z9, z10, z11, z12, none] ∧ TNest ts ∧ (∀ t ∈ ts, t.k ∈ zs) ∧ ts.length ≤ k)
    (fun r => ∃ (ts : List Tk) (z8 z9 z10 z11 z12 : Option SV), r = .nx [s0, s1, s2, s3, some (.val (.list (zs.map .str))), s5, some (.val (.list (os.map .int))), some (.own (.list (ts.map tkD))), z8, z9, z10, z11, z12, none] ∧ TNest ts ∧ (∀ t ∈ ts, t.k ∈ zs) ∧ ts.length ≤ n) ⟨[], none, none, none, none, none, rfl, tnest_nil, fun w h => (by cases h), Nat.zero_le _⟩ ?_ ?_
  · intro k ρ hk hI
    have step : ∀ (ts : List Tk) (z8 z9 z10 z11 z12 : Option SV), TNest ts → (∀ t ∈ ts, t.k ∈ zs) → ts.length ≤ k → Aft (cl_tickets_1 [s0, s1, s2, s3, some (.val (.list (zs.map .str))), s5, some (.val (.list (os.map .int))), some (.own (.list (ts.map tkD))), some (.val (.int (k : Int))), z9, z10, z11, z12, none]) (fun ρ => ∃ (ts : List Tk) (z8 z9 z10 z11 z12 : Option SV), ρ = [s0, s1, s2, s3, some (.val (.list (zs.map .str))), s5, some (.val (.list (os.map .int))), some (.own (.list (ts.map tkD))), z8, z9, z10, z11, z12, none] ∧ TNest ts ∧ (∀ t ∈ ts, t.k ∈ zs) ∧ ts.length ≤ k + 1)
        (fun r => ∃ (ts : List Tk) (z8 z9 z10 z11 z12 : Option SV), r = .nx [s0, s1, s2, s3, some (.val (.list (zs.map .str))), s5, some (.val (.list (os.map .int))), some (.own (.list (ts.map tkD))), z8, z9, z10, z11, z12, none] ∧ TNest ts ∧ (∀ t ∈ ts, t.k ∈ zs) ∧ ts.length ≤ n) := fun ts z8 z9 z10 z11 z12 h1 h2 h3 => by
      obtain ⟨x0, x1, x2, x3, x4, e0, e1, e2, e3, e4, g0, g1, g3, g4⟩ := hd k hk
      obtain ⟨ts', y9, y10, y11, y12, t, n1, n2, n3⟩ := tickets_turn s0 s1 s2 s3 s5 (some (.val (.int (k : Int)))) z9 z10 z11 z12 none zs os ts k x0 x1 x2 x3 x4 rfl rfl e0 e1 e2 e3 e4 g0 g1 g3 g4 hz h1 (by omega)
      rw [t, aft_nx]
      exact ⟨ts', _, _, _, _, _, rfl, n1, fun t ht => (n2 t ht).elim (h2 t) id, by omega⟩
    exact hI.elim fun ts h => h.elim fun z8 h => h.elim fun z9 h => h.elim fun z10 h => h.elim fun z11 h => h.elim fun z12 h => by
      rw [h.1]
      exact step ts z8 z9 z10 z11 z12 h.2.1 h.2.2.1 h.2.2.2
  · intro ρ h
    exact h.elim fun ts h => h.elim fun z8 h => h.elim fun z9 h => h.elim fun z10 h => h.elim fun z11 h => h.elim fun z12 h => ⟨ts, z8, z9, z10, z11, z12, by rw [h.1], h.2⟩
end DL

namespace DL
open PySem PySem.Spec PyProof.Rows L2
theorem tickets_ok (c : Int) (xs : List (Str × PyData)) (hx : ∀ x ∈ xs, oIx x.2 (.int 0) = .ok (.str x.1)) (lx : xs.length ≤ 1000) (most : Nat) (hm : most ≤ 100) :
    ∃ ts : List Tk, g_tickets [.int c, .tuple (xs.map (·.2)), .int (most : Int)] = .ok (.tuple (ts.map tkD)) ∧ TNest ts ∧ (∀ t ∈ ts, t.k = "single" ∨ t.k ∈ xs.map (·.1)) ∧ ts.length ≤ most := by
  obtain ⟨h, eh, dh⟩ := draws_ok c [(most : Int) + 1] (by intro m hm'; simp at hm'; omega) (by simp)
  obtain ⟨n0, hn0, p0, p0'⟩ := dh.get (i := 0) rfl
  obtain ⟨n, rfl⟩ : ∃ n : Nat, n0 = (n : Int) := ⟨n0.toNat, by omega⟩
  have a0 : atI (h.map PyData.int) 0 = some (.int (n : Int)) := by rw [show (0 : Int) = ((0 : Nat) : Int) from rfl, at_nat, map_at, hn0]; rfl
  have hb : Szs [13, 6, 5, 30, 1000000] := by intro m hm'; simp at hm'; omega
  have hz2 : Szs ([(most : Int) + 1] ++ repB [13, 6, 5, 30, 1000000] n) := Szs.app (by intro m hm'; simp at hm'; omega) (repB_szs hb n)
  obtain ⟨os, eo, d⟩ := draws_ok c _ hz2 (by rw [List.length_append, repB_len]; simp; omega)
  have at_ : ∀ (k i : Nat) (m : Int), k < n → i < 5 → [(13 : Int), 6, 5, 30, 1000000][i]? = some m → ∃ x, os[1 + 5 * k + i]? = some x ∧ 0 ≤ x ∧ x < m := fun k i m hk hi hm' => by
    have q := repB_at [13, 6, 5, 30, 1000000] (i := i) (by simpa using hi) n k hk
    refine d.get (i := 1 + 5 * k + i) ?_
    rw [List.getElem?_append_right (by simp; omega)]
    rw [hm'] at q
    rw [← q]
    congr 1
    simp
    omega
  obtain ⟨ts, z8, z9, z10, z11, z12, el, w1, w2, w3⟩ := tickets_loop (some (.val (.int c))) (some (.val (.tuple (xs.map (·.2))))) (some (.val (.int (most : Int)))) (some (.val (.list (h.map .int)))) none ("single" :: xs.map (·.1)) os n (by simp) (by omega) (fun k hk => by
    obtain ⟨x0, e0, g0, _⟩ := at_ k 0 _ hk (by decide) rfl
    obtain ⟨x1, e1, g1⟩ := at_ k 1 _ hk (by decide) rfl
    obtain ⟨x2, e2, _⟩ := at_ k 2 _ hk (by decide) rfl
    obtain ⟨x3, e3, g3⟩ := at_ k 3 _ hk (by decide) rfl
    obtain ⟨x4, e4, g4⟩ := at_ k 4 _ hk (by decide) rfl
    exact ⟨x0, x1, x2, x3, x4, e0, e1, e2, e3, e4, g0, g1, g3, g4⟩)
  refine ⟨ts, ?_, w1, fun t ht => (List.mem_cons.mp (w2 t ht)), by omega⟩
  have lc : lcL (τName 5) tY ce_tickets_1 (xs.map (·.2)) [some (.val (.int c)), some (.val (.tuple (xs.map (·.2)))), some (.val (.int (most : Int))), some (.val (.list (h.map .int))), none, none, none, none, none, none, none, none, none, none] = .ok (xs.map fun x => .str x.1) := by
    have q := lcL_map (τ := τName 5) (tt := tY) (te := ce_tickets_1) (ρ := [some (.val (.int c)), some (.val (.tuple (xs.map (·.2)))), some (.val (.int (most : Int))), some (.val (.list (h.map .int))), none, none, none, none, none, none, none, none, none, none]) (fun x : Str × PyData => x.2) (fun x => .str x.1) (fun _ => true) (fun x => [some (.val (.int c)), some (.val (.tuple (xs.map (·.2)))), some (.val (.int (most : Int))), some (.val (.list (h.map .int))), none, some (.val x.2), none, none, none, none, none, none, none, none]) xs fun x hx' => ⟨rfl, rfl, fun _ => by simp [ce_tickets_1, hx x hx']⟩
    rw [q, List.filter_eq_self.mpr fun _ _ => rfl]
  have mr := mul_rep [13, 6, 5, 30, 1000000] n (by simp; omega) (by omega)
  have l1 : xs.length ≤ mx := by show _ ≤ 16777216; omega
  have l2 : 1 + xs.length ≤ mx := by show _ ≤ 16777216; omega
  have ll : 1 + (repB [13, 6, 5, 30, 1000000] n).length ≤ mx := by rw [repB_len]; show _ ≤ 16777216; simp; omega
  have no : noOwn [some (.val (.int c)), some (.val (.tuple (xs.map (·.2)))), some (.val (.int (most : Int))), some (.val (.list (h.map .int))), none, none, none, none, none, none, none, none, none, none] [5] = true := rfl
  have wi : wipeE [some (.val (.int c)), some (.val (.tuple (xs.map (·.2)))), some (.val (.int (most : Int))), some (.val (.list (h.map .int))), none, none, none, none, none, none, none, none, none, none] [5] = [some (.val (.int c)), some (.val (.tuple (xs.map (·.2)))), some (.val (.int (most : Int))), some (.val (.list (h.map .int))), none, none, none, none, none, none, none, none, none, none] := rfl
  have em : (xs.map (·.1)).map PyData.str = xs.map fun x => PyData.str x.1 := by rw [List.map_map]; rfl
  simp only [List.map_cons, em] at el
  simp at eh eo mr el
  simp [g_tickets, runF, c_tickets, eh, a0, l1, l2, ll, no, wi, lc, mr, eo, rng_nat (show n ≤ 1000000000 by omega), el]
end DL

/-! DM9: prices, offers. -/
namespace DL
open PySem PySem.Spec PyProof.Rows L2
def cl_price_1 : En → SRes :=
  (sIf (tAndD (tst (b2 oEq (b2 oIx (dVar 3) (dC (.int 0))) (dVar 1))) (tst (b2 oEq (b2 oIx (dVar 3) (dC (.int 1))) (dVar 2))))
  (sRet (b2 oIx (dVar 3) (dC (.int 2))))
  sNil)
def c_price : En → SRes :=
  (sSeq (sFor (iOf oAny (dVar 0)) (τName 3) cl_price_1)
  (sRet (dC .none)))
def g_price : List PyData → Rs PyData := runF 4 3 c_price
def findT (ts : List Tk) (kd : Str) (z : Int) : Option Tk := ts.find? fun t => decide (t.k = kd) && decide (t.z = z)
def priceD (ts : List Tk) (kd : Str) (z : Int) : PyData := match findT ts kd z with
  | some t => .int t.p
  | none => .none
theorem price_ok (ts : List Tk) (kd : Str) (z : Int) : g_price [.tuple (ts.map tkD), .str kd, .int z] = .ok (priceD ts kd z) := by
  have f := for_ret (i := 3) (b := cl_price_1) (F := fun y => [some (.val (.tuple (ts.map tkD))), some (.val (.str kd)), some (.val (.int z)), y]) (fun _ _ => rfl) tkD (fun t => decide (t.k = kd) && decide (t.z = z)) (fun t => .int t.p) ts none (fun t _ => by
    by_cases h1 : t.k = kd <;> by_cases h2 : t.z = z <;> simp [cl_price_1, h1, h2])
  unfold priceD findT
  rcases f with ⟨t, h1, h2⟩ | ⟨h1, z1, h2⟩
  · rw [h1]
    simp [g_price, runF, c_price, h2]
  · rw [h1]
    simp [g_price, runF, c_price, h2]
def ce_offers_of_1 : En → Rs PyData :=
  (mkT (aCons (dVar 3) (aCons (dVar 4) aNil)))
def ct_offers_of_1 : En → Rs Bool :=
  (tst (b2 oEq (dVar 2) (dVar 1)))
def c_offers_of : En → SRes :=
  (sRet (b1 oTuple (b1 oSortP (lcD [2, 3, 4] (iOf oAny (dVar 0)) (τTup [2, 3, 4]) ct_offers_of_1 ce_offers_of_1))))
def g_offers_of : List PyData → Rs PyData := runF 5 2 c_offers_of
/-- a kind's offers, by ring -/
def offM (ts : List Tk) (kd : Str) : List (Int × Int) := ((ts.filter fun t => decide (t.k = kd)).map fun t => (t.z, t.p)).mergeSort leP
theorem offers_of_ok (ts : List Tk) (kd : Str) (hl : ts.length ≤ 10000) : g_offers_of [.tuple (ts.map tkD), .str kd] = .ok (.tuple ((offM ts kd).map prD)) := by
  have q := lcL_map (τ := τTup [2, 3, 4]) (tt := ct_offers_of_1) (te := ce_offers_of_1) (ρ := [some (.val (.tuple (ts.map tkD))), some (.val (.str kd)), none, none, none]) tkD (fun t => .tuple [.int t.z, .int t.p]) (fun t => decide (t.k = kd)) (fun t => [some (.val (.tuple (ts.map tkD))), some (.val (.str kd)), some (.val (.str t.k)), some (.val (.int t.z)), some (.val (.int t.p))]) ts fun t _ => ⟨rfl, by simp [ct_offers_of_1], fun _ => by simp [ce_offers_of_1]⟩
  have l1 : ts.length ≤ mx := by show _ ≤ 16777216; omega
  have no : noOwn [some (.val (.tuple (ts.map tkD))), some (.val (.str kd)), none, none, none] [2, 3, 4] = true := rfl
  have wi : wipeE [some (.val (.tuple (ts.map tkD))), some (.val (.str kd)), none, none, none] [2, 3, 4] = [some (.val (.tuple (ts.map tkD))), some (.val (.str kd)), none, none, none] := rfl
  have so : oSortP (.list ((ts.filter fun t => decide (t.k = kd)).map fun t => .tuple [.int t.z, .int t.p])) = .ok (.list ((offM ts kd).map prD)) := by
    have e : ((ts.filter fun t => decide (t.k = kd)).map fun t => PyData.tuple [.int t.z, .int t.p]) = ((ts.filter fun t => decide (t.k = kd)).map fun t => (t.z, t.p)).map prD := by rw [List.map_map]; rfl
    rw [e]
    simp only [oSortP, pairsOf_map]
    rfl
  simp [g_offers_of, runF, c_offers_of, l1, no, wi, q, so]
end DL

namespace DL
open PySem PySem.Spec PyProof.Rows L2
def cl_offers_1 : En → SRes :=
  (sIf (tst (b2 oIsNot (dCall g_price (aCons (dVar 0) (aCons (dVar 1) (aCons (dVar 3) aNil)))) (dC .none)))
  (sApp 2 (mkT (aCons (dVar 3) (aCons (dCall g_price (aCons (dVar 0) (aCons (dVar 1) (aCons (dVar 3) aNil)))) aNil))))
  sNil)
def c_offers : En → SRes :=
  (sSeq (sSetO 2 (mkL aNil))
  (sSeq (sFor (iRange2 (dC (.int 1)) (dC (.int 7))) (τName 3) cl_offers_1)
  (sRet (b1 oTuple (bVar 2)))))
def g_offers : List PyData → Rs PyData := runF 4 2 c_offers
def offR (ts : List Tk) (kd : Str) (zs : List Int) : List (Int × Int) := zs.filterMap fun z => (findT ts kd z).map fun t => (z, t.p)
theorem offers_turn (ts : List Tk) (kd : Str) (ps : List (Int × Int)) (z : Int) (hl : ps.length ≤ 1000) :
    cl_offers_1 [some (.val (.tuple (ts.map tkD))), some (.val (.str kd)), some (.own (.list (ps.map prD))), some (.val (.int z))] = .nx [some (.val (.tuple (ts.map tkD))), some (.val (.str kd)), some (.own (.list ((ps ++ offR ts kd [z]).map prD))), some (.val (.int z))] := by
  have l1 : ps.length < mx := by show _ < 16777216; omega
  have pk := price_ok ts kd z
  unfold priceD at pk
  cases e : findT ts kd z with
  | none =>
    rw [e] at pk
    simp [cl_offers_1, pk, offR, e]
  | some t =>
    rw [e] at pk
    simp [cl_offers_1, x_app, pk, offR, e, l1, prD]
theorem offR_len (ts : List Tk) (kd : Str) (zs : List Int) : (offR ts kd zs).length ≤ zs.length := List.length_filterMap_le _ _
theorem offR_cons (ts : List Tk) (kd : Str) (z : Int) (zs : List Int) : offR ts kd (z :: zs) = offR ts kd [z] ++ offR ts kd zs := by
  unfold offR
  rw [show z :: zs = [z] ++ zs from rfl, List.filterMap_append]
theorem offers_loop (ts : List Tk) (kd : Str) : ∀ (zs : List Int) (ps : List (Int × Int)) (y : Option SV), ps.length + zs.length ≤ 1000 → ∃ y', forS (τName 3) cl_offers_1 (zs.map .int) [some (.val (.tuple (ts.map tkD))), some (.val (.str kd)), some (.own (.list (ps.map prD))), y] = .nx [some (.val (.tuple (ts.map tkD))), some (.val (.str kd)), some (.own (.list ((ps ++ offR ts kd zs).map prD))), y']
  | [], ps, y, _ => ⟨y, by rw [show offR ts kd [] = [] from rfl, List.append_nil]; rfl⟩
  | z :: zs, ps, y, h => by
    have h' : ps.length + (zs.length + 1) ≤ 1000 := h
    have l := offR_len ts kd [z]
    obtain ⟨y', e⟩ := offers_loop ts kd zs (ps ++ offR ts kd [z]) (some (.val (.int z))) (by rw [List.length_append]; simp at l; omega)
    refine ⟨y', ?_⟩
    rw [List.map_cons]
    unfold forS
    show (match cl_offers_1 [some (.val (.tuple (ts.map tkD))), some (.val (.str kd)), some (.own (.list (ps.map prD))), some (.val (.int z))] with
      | .nx ρ' => forS (τName 3) cl_offers_1 (zs.map .int) ρ'
      | .ct ρ' => forS (τName 3) cl_offers_1 (zs.map .int) ρ'
      | .brk ρ' => .nx ρ'
      | r => r) = _
    rw [offers_turn ts kd ps z (by omega), offR_cons ts kd z zs, ← List.append_assoc]
    exact e
theorem rng17 : rngD 1 7 = .ok ([1, 2, 3, 4, 5, 6].map .int) := by kernel_rfl
theorem offers_ok (ts : List Tk) (kd : Str) : g_offers [.tuple (ts.map tkD), .str kd] = .ok (.tuple ((offR ts kd [1, 2, 3, 4, 5, 6]).map prD)) := by
  obtain ⟨y, e⟩ := offers_loop ts kd [1, 2, 3, 4, 5, 6] [] none (by decide)
  have r := rng17
  simp at e r
  simp [g_offers, runF, c_offers, r, e]
end DL

namespace DL
open PySem PySem.Spec PyProof.Rows L2
theorem findT_iff {ts : List Tk} (h : TNest ts) {kd : Str} {z : Int} {t : Tk} : findT ts kd z = some t ↔ t ∈ ts ∧ t.k = kd ∧ t.z = z := by
  constructor
  · intro e
    have m := List.mem_of_find?_eq_some e
    have p := List.find?_some e
    simp at p
    exact ⟨m, p.1, p.2⟩
  · rintro ⟨m, h1, h2⟩
    cases e : findT ts kd z with
    | none =>
      have := List.find?_eq_none.mp e t m
      simp [h1, h2] at this
    | some u =>
      have m2 := List.mem_of_find?_eq_some e
      have p := List.find?_some e
      simp at p
      by_cases q : t = u
      · rw [q]
      · exfalso
        have := h.2
        have key : ∀ a ∈ ts, ∀ b ∈ ts, a ≠ b → ¬ (a.k = b.k ∧ a.z = b.z) := by
          intro a ha b hb hab
          rcases List.pairwise_iff_getElem.mp this with hp
          obtain ⟨i, hi, rfl⟩ := List.mem_iff_getElem.mp ha
          obtain ⟨j, hj, rfl⟩ := List.mem_iff_getElem.mp hb
          rcases Nat.lt_trichotomy i j with hl | hl | hl
          · exact hp i j hi hj hl
          · subst hl; exact absurd rfl hab
          · intro z
            exact hp j i hj hi hl ⟨z.1.symm, z.2.symm⟩
        exact key t m u m2 q ⟨by rw [h1, p.1], by rw [h2, p.2]⟩
end DL

namespace DL
open PySem PySem.Spec PyProof.Rows L2
theorem offR_mem {ts : List Tk} (h : TNest ts) {kd : Str} {zs : List Int} {p : Int × Int} : p ∈ offR ts kd zs ↔ p.1 ∈ zs ∧ ∃ t ∈ ts, t.k = kd ∧ t.z = p.1 ∧ t.p = p.2 := by
  unfold offR
  rw [List.mem_filterMap]
  constructor
  · rintro ⟨z, hz, e⟩
    obtain ⟨t, ht, rfl⟩ := Option.map_eq_some_iff.mp e
    obtain ⟨m, h1, h2⟩ := (findT_iff h).mp ht
    exact ⟨hz, t, m, h1, h2, rfl⟩
  · rintro ⟨hz, t, m, h1, h2, h3⟩
    exact ⟨p.1, hz, by rw [(findT_iff h).mpr ⟨m, h1, h2⟩]; simp [h3]⟩
theorem offR_pair (ts : List Tk) (kd : Str) : ∀ {zs : List Int}, zs.Pairwise (· < ·) → (offR ts kd zs).Pairwise (fun a b => a.1 < b.1)
  | [], _ => .nil
  | z :: zs, h => by
    obtain ⟨h1, h2⟩ := List.pairwise_cons.mp h
    have ih := offR_pair ts kd h2
    rw [offR_cons]
    rw [List.pairwise_append]
    refine ⟨?_, ih, fun a ha b hb => ?_⟩
    · unfold offR
      rw [List.filterMap_cons]
      split <;> simp
    · have ea : a.1 = z := by
        unfold offR at ha
        obtain ⟨y, hy, e⟩ := List.mem_filterMap.mp ha
        rw [List.mem_singleton] at hy
        obtain ⟨t, _, rfl⟩ := Option.map_eq_some_iff.mp e
        exact hy
      unfold offR at hb
      obtain ⟨y, hy, e⟩ := List.mem_filterMap.mp hb
      obtain ⟨t, _, rfl⟩ := Option.map_eq_some_iff.mp e
      rw [ea]
      exact h1 y hy
theorem off_eq {ts : List Tk} (h : TNest ts) (kd : Str) : offM ts kd = offR ts kd [1, 2, 3, 4, 5, 6] := by
  have hp := offR_pair ts kd (zs := [1, 2, 3, 4, 5, 6]) (by decide)
  unfold offM
  refine List.Perm.eq_of_pairwise (le := fun a b => leP a b = true) (fun a b _ _ h1 h2 => ?_) (List.pairwise_mergeSort (fun a b c h1 h2 => ?_) (fun a b => ?_) _) (hp.imp fun {a b} hab => leP_iff.mpr (.inl hab)) ((List.mergeSort_perm _ _).trans ?_)
  · rw [leP_iff] at h1 h2
    exact Prod.ext (by omega) (by omega)
  · rw [leP_iff] at h1 h2 ⊢
    omega
  · rw [Bool.or_eq_true, leP_iff, leP_iff]
    omega
  · have n2 : (offR ts kd [1, 2, 3, 4, 5, 6]).Nodup := hp.imp fun {a b} hab e => by rw [e] at hab; exact Int.lt_irrefl _ hab
    have n1 : ((ts.filter fun t => decide (t.k = kd)).map fun t => (t.z, t.p)).Nodup := by
      show List.Pairwise _ _
      rw [List.pairwise_map]
      refine List.Pairwise.imp_of_mem (fun {a b} ha hb hab e => ?_) (h.2.filter _)
      have ka := (List.mem_filter.mp ha).2
      have kb := (List.mem_filter.mp hb).2
      simp at ka kb
      exact hab ⟨by rw [ka, kb], congrArg Prod.fst e⟩
    refine (List.perm_ext_iff_of_nodup n1 n2).mpr fun p => ?_
    rw [offR_mem h, List.mem_map]
    constructor
    · rintro ⟨t, ht, rfl⟩
      obtain ⟨m, hk⟩ := List.mem_filter.mp ht
      simp at hk
      obtain ⟨z1, z2, _⟩ := h.1 t m
      refine ⟨?_, t, m, hk, rfl, rfl⟩
      have : t.z = 1 ∨ t.z = 2 ∨ t.z = 3 ∨ t.z = 4 ∨ t.z = 5 ∨ t.z = 6 := by omega
      simpa using this
    · rintro ⟨_, t, m, h1, h2, h3⟩
      exact ⟨t, List.mem_filter.mpr ⟨m, by simp [h1]⟩, Prod.ext h2 h3⟩
end DL

namespace S
open PySem PySem.Spec PyProof.Rows L2 DL
def l_price_of_1 : En → SRes :=
  (sIf (tAndD (tst (b2 oEq (b2 oIx (dVar 3) (dC (.int 0))) (dVar 1))) (tst (b2 oEq (b2 oIx (dVar 3) (dC (.int 1))) (dVar 2))))
  (sRet (b2 oIx (dVar 3) (dC (.int 2))))
  sNil)
def b_price_of : En → SRes :=
  (sSeq (sFor (iOf oAny (dVar 0)) (τName 3) l_price_of_1)
  (sRet (dC .none)))
def g_price_of : List PyData → Rs PyData := runF 4 3 b_price_of
def f_price_of (p_tickets : (List (Str × Int × Int))) (p_kind : Str) (p_ring : Int) : Rs (Option Int) :=
  ((forC (fun (s1 : Unit) (x3 : (Str × Int × Int)) => ((if ((decide (x3.1 = p_kind)) && (decide (x3.2.1 = p_ring))) then (.ok (.ret (some x3.2.2)))
  else (.ok (.nx ()))) : Rs (Ct (Unit) (Option Int)))) p_tickets ()).bind fun t => t.nxt (fun (s1 : Unit) =>
  (.ok none)) (fun v => .ok v))
theorem h_price_of (p_tickets : (List (Str × Int × Int))) (p_kind : Str) (p_ring : Int) : Q (eO PyData.int) (f_price_of p_tickets p_kind p_ring) (S.g_price_of [((eT (eP3 PyData.str PyData.int PyData.int)) p_tickets), (PyData.str p_kind), (PyData.int p_ring)]) :=
  r_fun rfl (show _ = [(some (.val ((eT (eP3 PyData.str PyData.int PyData.int)) p_tickets))), (some (.val (PyData.str p_kind))), (some (.val (PyData.int p_ring))), none] from rfl) (show (mF (eO PyData.int)).H ((forC (fun (s1 : Unit) (x3 : (Str × Int × Int)) => ((if ((decide (x3.1 = p_kind)) && (decide (x3.2.1 = p_ring))) then (.ok (.ret (some x3.2.2)))
  else (.ok (.nx ()))) : Rs (Ct (Unit) (Option Int)))) p_tickets ()).bind fun t => t.nxt (fun (s1 : Unit) =>
  (.ok none)) (fun v => .ok v)) _ from (r_seq (r_forC (fun (s1 : Unit) ρ => ∃ (_ : Unit) (z2 : Option SV), ρ = [(some (.val ((eT (eP3 PyData.str PyData.int PyData.int)) p_tickets))), (some (.val (PyData.str p_kind))), (some (.val (PyData.int p_ring))), z2]) (eO PyData.int) (s0 := ()) (p_iOf (pv ((eT (eP3 PyData.str PyData.int PyData.int)) p_tickets)) (any_T (eP3 PyData.str PyData.int PyData.int) _)) ⟨(), _, rfl⟩
  (fun s1 x3 ρ hr => by
  obtain ⟨_, z2, rfl⟩ := hr
  exact ⟨_, rfl, (r_if (p_andD (p_tst (p_b2 (p_b2 (pv ((eP3 PyData.str PyData.int PyData.int) x3)) (pc (.int 0)) (ix3_0 PyData.str PyData.int PyData.int _)) (pv (PyData.str p_kind)) (eq_ss _ _))) (p_tst (p_b2 (p_b2 (pv ((eP3 PyData.str PyData.int PyData.int) x3)) (pc (.int 1)) (ix3_1 PyData.str PyData.int PyData.int _)) (pv (PyData.int p_ring)) (eq_ii _ _))))
  (r_retL (p_b2 (pv ((eP3 PyData.str PyData.int PyData.int) x3)) (pc (.int 2)) (ix3_2 PyData.str PyData.int PyData.int _)))
  (r_nil (r_endL (s := ()) ⟨(), _, rfl⟩)))⟩)
  (fun s1 ρ hr => by
  obtain ⟨_, z2, rfl⟩ := hr
  exact (r_retF (pc .none))) r_rF)))
def f_offers_of (p_tickets : (List (Str × Int × Int))) (p_kind : Str) : Rs (List (Int × Int)) :=
  (((lcP p_tickets (fun x1 => (decide (x1.1 = p_kind))) fun x1 => (x1.2.1, x1.2.2)).bind fun a2 => .ok (a2.mergeSort leP)).bind fun a3 => .ok a3)
theorem h_offers_of (p_tickets : (List (Str × Int × Int))) (p_kind : Str) : Q (eT (eP2 PyData.int PyData.int)) (f_offers_of p_tickets p_kind) (DL.g_offers_of [((eT (eP3 PyData.str PyData.int PyData.int)) p_tickets), (PyData.str p_kind)]) :=
  r_fun rfl (show _ = [(some (.val ((eT (eP3 PyData.str PyData.int PyData.int)) p_tickets))), (some (.val (PyData.str p_kind))), none, none, none] from rfl) (show (mF (eT (eP2 PyData.int PyData.int))).H (((lcP p_tickets (fun x1 => (decide (x1.1 = p_kind))) fun x1 => (x1.2.1, x1.2.2)).bind fun a2 => .ok (a2.mergeSort leP)).bind fun a3 => .ok a3) _ from (r_retFM (q_b1M (q_b1M (q_lcP (eP2 PyData.int PyData.int) (eP3 PyData.str PyData.int PyData.int) (p_iOf (pv ((eT (eP3 PyData.str PyData.int PyData.int)) p_tickets)) (any_T (eP3 PyData.str PyData.int PyData.int) _)) rfl (show wipeE _ _ = [(some (.val ((eT (eP3 PyData.str PyData.int PyData.int)) p_tickets))), (some (.val (PyData.str p_kind))), none, none, none] from rfl) (fun x1 => ⟨_, rfl, (p_tst (p_b2 (pv (PyData.str x1.1)) (pv (PyData.str p_kind)) (eq_ss _ _))), (p_mkT (p_cons (pv (PyData.int x1.2.1)) (p_cons (pv (PyData.int x1.2.2)) (p_nil tupK_ok))))⟩)) fun a2 => (qp (q_sortP _))) fun a3 => (qp (tuple_L (eP2 PyData.int PyData.int) _)))))
def e_without_ring_1 : En → Rs PyData :=
  (dVar 2)
def t_without_ring_1 : En → Rs Bool :=
  (tst (b2 oNe (b2 oIx (dVar 2) (dC (.int 0))) (dVar 1)))
def b_without_ring : En → SRes :=
  (sRet (b1 oTuple (lcD [2] (iOf oAny (dVar 0)) (τName 2) t_without_ring_1 e_without_ring_1)))
def g_without_ring : List PyData → Rs PyData := runF 3 2 b_without_ring
def f_without_ring (p_offers : (List (Int × Int))) (p_ring : Int) : Rs (List (Int × Int)) :=
  ((lcP p_offers (fun x1 => (!decide (x1.1 = p_ring))) fun x1 => x1).bind fun a2 => .ok a2)
theorem h_without_ring (p_offers : (List (Int × Int))) (p_ring : Int) : Q (eT (eP2 PyData.int PyData.int)) (f_without_ring p_offers p_ring) (S.g_without_ring [((eT (eP2 PyData.int PyData.int)) p_offers), (PyData.int p_ring)]) :=
  r_fun rfl (show _ = [(some (.val ((eT (eP2 PyData.int PyData.int)) p_offers))), (some (.val (PyData.int p_ring))), none] from rfl) (show (mF (eT (eP2 PyData.int PyData.int))).H ((lcP p_offers (fun x1 => (!decide (x1.1 = p_ring))) fun x1 => x1).bind fun a2 => .ok a2) _ from (r_retFM (q_b1M (q_lcP (eP2 PyData.int PyData.int) (eP2 PyData.int PyData.int) (p_iOf (pv ((eT (eP2 PyData.int PyData.int)) p_offers)) (any_T (eP2 PyData.int PyData.int) _)) rfl (show wipeE _ _ = [(some (.val ((eT (eP2 PyData.int PyData.int)) p_offers))), (some (.val (PyData.int p_ring))), none] from rfl) (fun x1 => ⟨_, rfl, (p_tst (p_b2 (p_b2 (pv ((eP2 PyData.int PyData.int) x1)) (pc (.int 0)) (ix2_0 PyData.int PyData.int _)) (pv (PyData.int p_ring)) (ne_ii _ _))), (pv ((eP2 PyData.int PyData.int) x1))⟩)) fun a2 => (qp (tuple_L (eP2 PyData.int PyData.int) _)))))
def l_offer_of_1 : En → SRes :=
  (sIf (tst (b2 oEq (dVar 2) (dVar 1)))
  (sRet (dVar 3))
  sNil)
def b_offer_of : En → SRes :=
  (sSeq (sFor (iOf oAny (dVar 0)) (τTup [2, 3]) l_offer_of_1)
  (sRet (dC .none)))
def g_offer_of : List PyData → Rs PyData := runF 4 2 b_offer_of
def f_offer_of (p_offers : (List (Int × Int))) (p_ring : Int) : Rs (Option Int) :=
  ((forC (fun (s1 : Unit) (x4 : (Int × Int)) => ((if (decide (x4.1 = p_ring)) then (.ok (.ret (some x4.2)))
  else (.ok (.nx ()))) : Rs (Ct (Unit) (Option Int)))) p_offers ()).bind fun t => t.nxt (fun (s1 : Unit) =>
  (.ok none)) (fun v => .ok v))
theorem h_offer_of (p_offers : (List (Int × Int))) (p_ring : Int) : Q (eO PyData.int) (f_offer_of p_offers p_ring) (S.g_offer_of [((eT (eP2 PyData.int PyData.int)) p_offers), (PyData.int p_ring)]) :=
  r_fun rfl (show _ = [(some (.val ((eT (eP2 PyData.int PyData.int)) p_offers))), (some (.val (PyData.int p_ring))), none, none] from rfl) (show (mF (eO PyData.int)).H ((forC (fun (s1 : Unit) (x4 : (Int × Int)) => ((if (decide (x4.1 = p_ring)) then (.ok (.ret (some x4.2)))
  else (.ok (.nx ()))) : Rs (Ct (Unit) (Option Int)))) p_offers ()).bind fun t => t.nxt (fun (s1 : Unit) =>
  (.ok none)) (fun v => .ok v)) _ from (r_seq (r_forC (fun (s1 : Unit) ρ => ∃ (_ : Unit) (z2 : Option SV) (z3 : Option SV), ρ = [(some (.val ((eT (eP2 PyData.int PyData.int)) p_offers))), (some (.val (PyData.int p_ring))), z2, z3]) (eO PyData.int) (s0 := ()) (p_iOf (pv ((eT (eP2 PyData.int PyData.int)) p_offers)) (any_T (eP2 PyData.int PyData.int) _)) ⟨(), _, _, rfl⟩
  (fun s1 x4 ρ hr => by
  obtain ⟨_, z2, z3, rfl⟩ := hr
  exact ⟨_, rfl, (r_if (p_tst (p_b2 (pv (PyData.int x4.1)) (pv (PyData.int p_ring)) (eq_ii _ _)))
  (r_retL (pv (PyData.int x4.2)))
  (r_nil (r_endL (s := ()) ⟨(), _, _, rfl⟩)))⟩)
  (fun s1 ρ hr => by
  obtain ⟨_, z2, z3, rfl⟩ := hr
  exact (r_retF (pc .none))) r_rF)))
def b_passes_only : En → SRes :=
  (sRet (mkT (aCons (b2 oIx (dVar 0) (dC (.int 0))) (aCons (mkT aNil) (aCons (b2 oIx (dVar 0) (dC (.int 2))) aNil)))))
def g_passes_only : List PyData → Rs PyData := runF 1 1 b_passes_only
def f_passes_only (p_market : ((List (Str × Int × Int)) × (List (Int × Int)) × (List (List (Int × Int))))) : Rs ((List (Str × Int × Int)) × (List (Int × Int)) × (List (List (Int × Int)))) :=
  (.ok (p_market.1, [], p_market.2.2))
theorem h_passes_only (p_market : ((List (Str × Int × Int)) × (List (Int × Int)) × (List (List (Int × Int))))) : Q (eP3 (eT (eP3 PyData.str PyData.int PyData.int)) (eT (eP2 PyData.int PyData.int)) (eT (eT (eP2 PyData.int PyData.int)))) (f_passes_only p_market) (S.g_passes_only [((eP3 (eT (eP3 PyData.str PyData.int PyData.int)) (eT (eP2 PyData.int PyData.int)) (eT (eT (eP2 PyData.int PyData.int)))) p_market)]) :=
  r_fun rfl (show _ = [(some (.val ((eP3 (eT (eP3 PyData.str PyData.int PyData.int)) (eT (eP2 PyData.int PyData.int)) (eT (eT (eP2 PyData.int PyData.int)))) p_market)))] from rfl) (show (mF (eP3 (eT (eP3 PyData.str PyData.int PyData.int)) (eT (eP2 PyData.int PyData.int)) (eT (eT (eP2 PyData.int PyData.int))))).H (.ok (p_market.1, [], p_market.2.2)) _ from (r_retF (p_mkT (p_cons (p_b2 (pv ((eP3 (eT (eP3 PyData.str PyData.int PyData.int)) (eT (eP2 PyData.int PyData.int)) (eT (eT (eP2 PyData.int PyData.int)))) p_market)) (pc (.int 0)) (ix3_0 (eT (eP3 PyData.str PyData.int PyData.int)) (eT (eP2 PyData.int PyData.int)) (eT (eT (eP2 PyData.int PyData.int))) _)) (p_cons (p_mkT (p_nil tupK_ok)) (p_cons (p_b2 (pv ((eP3 (eT (eP3 PyData.str PyData.int PyData.int)) (eT (eP2 PyData.int PyData.int)) (eT (eT (eP2 PyData.int PyData.int)))) p_market)) (pc (.int 2)) (ix3_2 (eT (eP3 PyData.str PyData.int PyData.int)) (eT (eP2 PyData.int PyData.int)) (eT (eT (eP2 PyData.int PyData.int))) _)) (p_nil tupK_ok)))))))
def f__law_shared (p_one : (Str × Int × Int)) (p_two : (Str × Int × Int)) : Rs Int :=
  (.ok (((min2 p_one.2.2 p_two.2.2) - (max2 p_one.2.1 p_two.2.1)) + 1))
theorem h__law_shared (p_one : (Str × Int × Int)) (p_two : (Str × Int × Int)) : Q PyData.int (f__law_shared p_one p_two) (DL.g_shared [((eP3 PyData.str PyData.int PyData.int) p_one), ((eP3 PyData.str PyData.int PyData.int) p_two)]) :=
  r_fun rfl (show _ = [(some (.val ((eP3 PyData.str PyData.int PyData.int) p_one))), (some (.val ((eP3 PyData.str PyData.int PyData.int) p_two)))] from rfl) (show (mF PyData.int).H (.ok (((min2 p_one.2.2 p_two.2.2) - (max2 p_one.2.1 p_two.2.1)) + 1)) _ from (r_retF (p_b2 (p_b2 (p_b2 (p_b2 (pv ((eP3 PyData.str PyData.int PyData.int) p_one)) (pc (.int 2)) (ix3_2 PyData.str PyData.int PyData.int _)) (p_b2 (pv ((eP3 PyData.str PyData.int PyData.int) p_two)) (pc (.int 2)) (ix3_2 PyData.str PyData.int PyData.int _)) (min2_ii _ _)) (p_b2 (p_b2 (pv ((eP3 PyData.str PyData.int PyData.int) p_one)) (pc (.int 1)) (ix3_1 PyData.str PyData.int PyData.int _)) (p_b2 (pv ((eP3 PyData.str PyData.int PyData.int) p_two)) (pc (.int 1)) (ix3_1 PyData.str PyData.int PyData.int _)) (max2_ii _ _)) (sub_ii _ _)) (pc (.int 1)) (add_ii _ _))))
def f__law_price (p_tickets : (List (Str × Int × Int))) (p_kind : Str) (p_zone : Int) : Rs (Option Int) :=
  ((forC (fun (s1 : Unit) (x3 : (Str × Int × Int)) => ((if ((decide (x3.1 = p_kind)) && (decide (x3.2.1 = p_zone))) then (.ok (.ret (some x3.2.2)))
  else (.ok (.nx ()))) : Rs (Ct (Unit) (Option Int)))) p_tickets ()).bind fun t => t.nxt (fun (s1 : Unit) =>
  (.ok none)) (fun v => .ok v))
theorem h__law_price (p_tickets : (List (Str × Int × Int))) (p_kind : Str) (p_zone : Int) : Q (eO PyData.int) (f__law_price p_tickets p_kind p_zone) (DL.g_price [((eT (eP3 PyData.str PyData.int PyData.int)) p_tickets), (PyData.str p_kind), (PyData.int p_zone)]) :=
  r_fun rfl (show _ = [(some (.val ((eT (eP3 PyData.str PyData.int PyData.int)) p_tickets))), (some (.val (PyData.str p_kind))), (some (.val (PyData.int p_zone))), none] from rfl) (show (mF (eO PyData.int)).H ((forC (fun (s1 : Unit) (x3 : (Str × Int × Int)) => ((if ((decide (x3.1 = p_kind)) && (decide (x3.2.1 = p_zone))) then (.ok (.ret (some x3.2.2)))
  else (.ok (.nx ()))) : Rs (Ct (Unit) (Option Int)))) p_tickets ()).bind fun t => t.nxt (fun (s1 : Unit) =>
  (.ok none)) (fun v => .ok v)) _ from (r_seq (r_forC (fun (s1 : Unit) ρ => ∃ (_ : Unit) (z2 : Option SV), ρ = [(some (.val ((eT (eP3 PyData.str PyData.int PyData.int)) p_tickets))), (some (.val (PyData.str p_kind))), (some (.val (PyData.int p_zone))), z2]) (eO PyData.int) (s0 := ()) (p_iOf (pv ((eT (eP3 PyData.str PyData.int PyData.int)) p_tickets)) (any_T (eP3 PyData.str PyData.int PyData.int) _)) ⟨(), _, rfl⟩
  (fun s1 x3 ρ hr => by
  obtain ⟨_, z2, rfl⟩ := hr
  exact ⟨_, rfl, (r_if (p_andD (p_tst (p_b2 (p_b2 (pv ((eP3 PyData.str PyData.int PyData.int) x3)) (pc (.int 0)) (ix3_0 PyData.str PyData.int PyData.int _)) (pv (PyData.str p_kind)) (eq_ss _ _))) (p_tst (p_b2 (p_b2 (pv ((eP3 PyData.str PyData.int PyData.int) x3)) (pc (.int 1)) (ix3_1 PyData.str PyData.int PyData.int _)) (pv (PyData.int p_zone)) (eq_ii _ _))))
  (r_retL (p_b2 (pv ((eP3 PyData.str PyData.int PyData.int) x3)) (pc (.int 2)) (ix3_2 PyData.str PyData.int PyData.int _)))
  (r_nil (r_endL (s := ()) ⟨(), _, rfl⟩)))⟩)
  (fun s1 ρ hr => by
  obtain ⟨_, z2, rfl⟩ := hr
  exact (r_retF (pc .none))) r_rF)))
def e_market_of_1 : En → Rs PyData :=
  (dCall DL.g_offers_of (aCons (b2 oIx (dVar 0) (dC (.int 3))) (aCons (b2 oIx (dVar 4) (dC (.int 0))) aNil)))
def b_market_of : En → SRes :=
  (sSeq (sSet 1 (b2 oIx (dVar 0) (dC (.int 2))))
  (sSeq (sSet 2 (dCall DL.g_offers_of (aCons (b2 oIx (dVar 0) (dC (.int 3))) (aCons (dC (.str "single")) aNil))))
  (sSeq (sSet 3 (b1 oTuple (lcD [4] (iOf oAny (dVar 1)) (τName 4) tY e_market_of_1)))
  (sRet (mkT (aCons (dVar 1) (aCons (dVar 2) (aCons (dVar 3) aNil))))))))
def g_market_of : List PyData → Rs PyData := runF 5 1 b_market_of
def f_market_of (p_tariff : ((List PyData) × (List PyData) × (List (Str × Int × Int)) × (List (Str × Int × Int)))) : Rs ((List (Str × Int × Int)) × (List (Int × Int)) × (List (List (Int × Int)))) :=
  ((S.f_offers_of p_tariff.2.2.2 "single").bind fun (singles_1 : (List (Int × Int))) =>
  (((lcR p_tariff.2.2.1 (fun x2 => (Rs.ok true)) fun x2 => (S.f_offers_of p_tariff.2.2.2 x2.1)).bind fun a3 => .ok a3).bind fun (passes_4 : (List (List (Int × Int)))) =>
  (.ok (p_tariff.2.2.1, singles_1, passes_4))))
theorem h_market_of (p_tariff : ((List PyData) × (List PyData) × (List (Str × Int × Int)) × (List (Str × Int × Int)))) : Q (eP3 (eT (eP3 PyData.str PyData.int PyData.int)) (eT (eP2 PyData.int PyData.int)) (eT (eT (eP2 PyData.int PyData.int)))) (f_market_of p_tariff) (S.g_market_of [((eP4 (eT id) (eT id) (eT (eP3 PyData.str PyData.int PyData.int)) (eT (eP3 PyData.str PyData.int PyData.int))) p_tariff)]) :=
  r_fun rfl (show _ = [(some (.val ((eP4 (eT id) (eT id) (eT (eP3 PyData.str PyData.int PyData.int)) (eT (eP3 PyData.str PyData.int PyData.int))) p_tariff))), none, none, none, none] from rfl) (show (mF (eP3 (eT (eP3 PyData.str PyData.int PyData.int)) (eT (eP2 PyData.int PyData.int)) (eT (eT (eP2 PyData.int PyData.int))))).H ((S.f_offers_of p_tariff.2.2.2 "single").bind fun (singles_1 : (List (Int × Int))) =>
  (((lcR p_tariff.2.2.1 (fun x2 => (Rs.ok true)) fun x2 => (S.f_offers_of p_tariff.2.2.2 x2.1)).bind fun a3 => .ok a3).bind fun (passes_4 : (List (List (Int × Int)))) =>
  (.ok (p_tariff.2.2.1, singles_1, passes_4)))) _ from (r_seq (r_setP (p_b2 (pv ((eP4 (eT id) (eT id) (eT (eP3 PyData.str PyData.int PyData.int)) (eT (eP3 PyData.str PyData.int PyData.int))) p_tariff)) (pc (.int 2)) (ix4_2 (eT id) (eT id) (eT (eP3 PyData.str PyData.int PyData.int)) (eT (eP3 PyData.str PyData.int PyData.int)) _)) (r_seq (r_setM trivial (q_call (q_callP (p_b2 (pv ((eP4 (eT id) (eT id) (eT (eP3 PyData.str PyData.int PyData.int)) (eT (eP3 PyData.str PyData.int PyData.int))) p_tariff)) (pc (.int 3)) (ix4_3 (eT id) (eT id) (eT (eP3 PyData.str PyData.int PyData.int)) (eT (eP3 PyData.str PyData.int PyData.int)) _)) (q_callP (pc (.str "single")) (q_callN (S.h_offers_of p_tariff.2.2.2 "single"))))) fun singles_1 =>
  (r_seq (r_setM trivial (q_b1M (q_lcR (eT (eP2 PyData.int PyData.int)) (eP3 PyData.str PyData.int PyData.int) (p_iOf (pv ((eT (eP3 PyData.str PyData.int PyData.int)) p_tariff.2.2.1)) (any_T (eP3 PyData.str PyData.int PyData.int) _)) rfl (show wipeE _ _ = [(some (.val ((eP4 (eT id) (eT id) (eT (eP3 PyData.str PyData.int PyData.int)) (eT (eP3 PyData.str PyData.int PyData.int))) p_tariff))), (some (.val ((eT (eP3 PyData.str PyData.int PyData.int)) p_tariff.2.2.1))), (some (.val ((eT (eP2 PyData.int PyData.int)) singles_1))), none, none] from rfl) (fun x2 => ⟨_, rfl, (qp (e := id) rfl), (q_call (q_callP (p_b2 (pv ((eP4 (eT id) (eT id) (eT (eP3 PyData.str PyData.int PyData.int)) (eT (eP3 PyData.str PyData.int PyData.int))) p_tariff)) (pc (.int 3)) (ix4_3 (eT id) (eT id) (eT (eP3 PyData.str PyData.int PyData.int)) (eT (eP3 PyData.str PyData.int PyData.int)) _)) (q_callP (p_b2 (pv ((eP3 PyData.str PyData.int PyData.int) x2)) (pc (.int 0)) (ix3_0 PyData.str PyData.int PyData.int _)) (q_callN (S.h_offers_of p_tariff.2.2.2 x2.1)))))⟩)) fun a3 => (qp (tuple_L (eT (eP2 PyData.int PyData.int)) _))) fun passes_4 =>
  (r_retF (p_mkT (p_cons (pv ((eT (eP3 PyData.str PyData.int PyData.int)) p_tariff.2.2.1)) (p_cons (pv ((eT (eP2 PyData.int PyData.int)) singles_1)) (p_cons (pv ((eT (eT (eP2 PyData.int PyData.int))) passes_4)) (p_nil tupK_ok)))))))))))))
def f__law_within (p_inner : (Str × Int × Int)) (p_outer : (Str × Int × Int)) : Rs Bool :=
  ((Rs.ok ((p_inner.2.2 - p_inner.2.1) + 1)).bind fun (size_1 : Int) =>
  (((S.f__law_shared p_inner p_outer).bind fun a2 => (.ok (decide (a2 = size_1)))).bind fun c3 => (if c3 then (Rs.ok (decide (size_1 < ((p_outer.2.2 - p_outer.2.1) + 1)))) else .ok false)))
theorem h__law_within (p_inner : (Str × Int × Int)) (p_outer : (Str × Int × Int)) : Q PyData.bool (f__law_within p_inner p_outer) (DL.g_within [((eP3 PyData.str PyData.int PyData.int) p_inner), ((eP3 PyData.str PyData.int PyData.int) p_outer)]) :=
  r_fun rfl (show _ = [(some (.val ((eP3 PyData.str PyData.int PyData.int) p_inner))), (some (.val ((eP3 PyData.str PyData.int PyData.int) p_outer))), none] from rfl) (show (mF PyData.bool).H ((Rs.ok ((p_inner.2.2 - p_inner.2.1) + 1)).bind fun (size_1 : Int) =>
  (((S.f__law_shared p_inner p_outer).bind fun a2 => (.ok (decide (a2 = size_1)))).bind fun c3 => (if c3 then (Rs.ok (decide (size_1 < ((p_outer.2.2 - p_outer.2.1) + 1)))) else .ok false))) _ from (r_seq (r_setM trivial (qp (p_b2 (p_b2 (p_b2 (pv ((eP3 PyData.str PyData.int PyData.int) p_inner)) (pc (.int 2)) (ix3_2 PyData.str PyData.int PyData.int _)) (p_b2 (pv ((eP3 PyData.str PyData.int PyData.int) p_inner)) (pc (.int 1)) (ix3_1 PyData.str PyData.int PyData.int _)) (sub_ii _ _)) (pc (.int 1)) (add_ii _ _))) fun size_1 =>
  (r_retFM (q_vAnd (q_b2MP (q_call (q_callP (pv ((eP3 PyData.str PyData.int PyData.int) p_inner)) (q_callP (pv ((eP3 PyData.str PyData.int PyData.int) p_outer)) (q_callN (S.h__law_shared p_inner p_outer))))) (pv (PyData.int size_1)) fun a2 => (qp (eq_ii _ _))) (qp (p_b2 (p_b2 (p_b2 (p_b2 (pv ((eP3 PyData.str PyData.int PyData.int) p_outer)) (pc (.int 2)) (ix3_2 PyData.str PyData.int PyData.int _)) (p_b2 (pv ((eP3 PyData.str PyData.int PyData.int) p_outer)) (pc (.int 1)) (ix3_1 PyData.str PyData.int PyData.int _)) (sub_ii _ _)) (pc (.int 1)) (add_ii _ _)) (pv (PyData.int size_1)) (gt_ii _ _))))))))
def f__law_offers (p_tickets : (List (Str × Int × Int))) (p_kind : Str) : Rs (List (Int × Int)) :=
  ((forB (fun (s1 : (List (Int × Int))) (x3 : Int) => (let k6 := fun (s5 : (List (Int × Int))) => ((.ok s5) : Rs ((List (Int × Int))))
  (((S.f__law_price p_tickets p_kind x3).bind fun a4 => (.ok (a4.isSome))).bind fun c12 => if c12 then ((((S.f__law_price p_tickets p_kind x3).bind getO).bind fun a9 => (.ok (x3, a9))).bind fun a11 => (appR s1 a11).bind fun (found_10 : (List (Int × Int))) =>
  (k6 found_10))
  else (k6 s1)))) [1, 2, 3, 4, 5, 6] []).bind fun (s1 : (List (Int × Int))) =>
  (.ok s1))
theorem h__law_offers (p_tickets : (List (Str × Int × Int))) (p_kind : Str) : Q (eT (eP2 PyData.int PyData.int)) (f__law_offers p_tickets p_kind) (DL.g_offers [((eT (eP3 PyData.str PyData.int PyData.int)) p_tickets), (PyData.str p_kind)]) :=
  r_fun rfl (show _ = [(some (.val ((eT (eP3 PyData.str PyData.int PyData.int)) p_tickets))), (some (.val (PyData.str p_kind))), none, none] from rfl) (show (mF (eT (eP2 PyData.int PyData.int))).H ((forB (fun (s1 : (List (Int × Int))) (x3 : Int) => (let k6 := fun (s5 : (List (Int × Int))) => ((.ok s5) : Rs ((List (Int × Int))))
  (((S.f__law_price p_tickets p_kind x3).bind fun a4 => (.ok (a4.isSome))).bind fun c12 => if c12 then ((((S.f__law_price p_tickets p_kind x3).bind getO).bind fun a9 => (.ok (x3, a9))).bind fun a11 => (appR s1 a11).bind fun (found_10 : (List (Int × Int))) =>
  (k6 found_10))
  else (k6 s1)))) [1, 2, 3, 4, 5, 6] []).bind fun (s1 : (List (Int × Int))) =>
  (.ok s1)) _ from (r_seq (r_setOP (p_mkL (p_nil lstK_ok)) (r_seq (r_forB (fun (s1 : (List (Int × Int))) ρ => ∃ (_ : Unit) (z2 : Option SV), ρ = [(some (.val ((eT (eP3 PyData.str PyData.int PyData.int)) p_tickets))), (some (.val (PyData.str p_kind))), (some (.own ((eL (eP2 PyData.int PyData.int)) s1))), z2]) (bd := _) (s0 := []) (p_range2 (pc (.int 1)) (pc (.int 7)) (by kernel_rfl)) ⟨(), _, rfl⟩
  (fun s1 x3 ρ hr => by
  obtain ⟨_, z2, rfl⟩ := hr
  exact ⟨_, rfl, (r_join (fun (s5 : (List (Int × Int))) ρ => ∃ (_ : Unit), ρ = [(some (.val ((eT (eP3 PyData.str PyData.int PyData.int)) p_tickets))), (some (.val (PyData.str p_kind))), (some (.own ((eL (eP2 PyData.int PyData.int)) s5))), (some (.val (PyData.int x3)))]) (k := fun s5 => (.ok s5)) (fun s5 ρ hr => by
  obtain ⟨_, rfl⟩ := hr
  exact (r_endB (s := s5) ⟨(), _, rfl⟩)) fun K8 hk7 =>
  (r_ifM trivial (q_tst (q_b2MP (q_call (q_callP (pv ((eT (eP3 PyData.str PyData.int PyData.int)) p_tickets)) (q_callP (pv (PyData.str p_kind)) (q_callP (pv (PyData.int x3)) (q_callN (S.h__law_price p_tickets p_kind x3)))))) (pc .none) fun a4 => (qp (isnotN_O (fun _ => rfl) _))))
  (r_appM (xs := s1) trivial rfl (q_mkT (e := (eP2 PyData.int PyData.int)) (q_callP (pv (PyData.int x3)) (q_callM (q_getOM PyData.int (q_call (q_callP (pv ((eT (eP3 PyData.str PyData.int PyData.int)) p_tickets)) (q_callP (pv (PyData.str p_kind)) (q_callP (pv (PyData.int x3)) (q_callN (S.h__law_price p_tickets p_kind x3))))))) fun a9 => (q_callN (qp tupK_ok))))) fun found_10 =>
  (hk7 found_10 _ ⟨(), rfl⟩))
  (r_nil (hk7 s1 _ ⟨(), rfl⟩))))⟩)
  (fun s1 ρ hr => by
  obtain ⟨_, z2, rfl⟩ := hr
  exact (r_retF (p_b1 (bv ((eL (eP2 PyData.int PyData.int)) s1)) (tuple_L (eP2 PyData.int PyData.int) _)))))))))
def b_pass_price : En → SRes :=
  (sSeq (sIf (tOrD (tst (b2 oLt (dVar 1) (dC (.int 0)))) (tOrD (tst (b2 oGe (dVar 1) (b1 oLen (b2 oIx (dVar 0) (dC (.int 0)))))) (tst (b2 oIs (dCall S.g_offer_of (aCons (b2 oIx (b2 oIx (dVar 0) (dC (.int 2))) (dVar 1)) (aCons (dVar 2) aNil))) (dC .none)))))
  (sRaise "NotTold" ["row", "word"] (aCons (dC (.int 0)) (aCons (dC (.str "pass")) aNil)))
  sNil)
  (sRet (dCall S.g_offer_of (aCons (b2 oIx (b2 oIx (dVar 0) (dC (.int 2))) (dVar 1)) (aCons (dVar 2) aNil)))))
def g_pass_price : List PyData → Rs PyData := runF 3 3 b_pass_price
def f_pass_price (p_market : ((List (Str × Int × Int)) × (List (Int × Int)) × (List (List (Int × Int))))) (p_window : Int) (p_ring : Int) : Rs (Option Int) :=
  ((if (decide (p_window < 0)) then .ok true else (if (decide ((p_market.1.length : Int) ≤ p_window)) then .ok true else (((ixR p_market.2.2 p_window).bind fun a1 => (S.f_offer_of a1 p_ring)).bind fun a2 => (.ok (a2.isNone))))).bind fun c4 => if c4 then (.ex (exnOf "NotTold" ["row", "word"] [(PyData.int 0), (PyData.str "pass")]))
  else ((ixR p_market.2.2 p_window).bind fun a3 => (S.f_offer_of a3 p_ring)))
theorem h_pass_price (p_market : ((List (Str × Int × Int)) × (List (Int × Int)) × (List (List (Int × Int))))) (p_window : Int) (p_ring : Int) : Q (eO PyData.int) (f_pass_price p_market p_window p_ring) (S.g_pass_price [((eP3 (eT (eP3 PyData.str PyData.int PyData.int)) (eT (eP2 PyData.int PyData.int)) (eT (eT (eP2 PyData.int PyData.int)))) p_market), (PyData.int p_window), (PyData.int p_ring)]) :=
  r_fun rfl (show _ = [(some (.val ((eP3 (eT (eP3 PyData.str PyData.int PyData.int)) (eT (eP2 PyData.int PyData.int)) (eT (eT (eP2 PyData.int PyData.int)))) p_market))), (some (.val (PyData.int p_window))), (some (.val (PyData.int p_ring)))] from rfl) (show (mF (eO PyData.int)).H ((if (decide (p_window < 0)) then .ok true else (if (decide ((p_market.1.length : Int) ≤ p_window)) then .ok true else (((ixR p_market.2.2 p_window).bind fun a1 => (S.f_offer_of a1 p_ring)).bind fun a2 => (.ok (a2.isNone))))).bind fun c4 => if c4 then (.ex (exnOf "NotTold" ["row", "word"] [(PyData.int 0), (PyData.str "pass")]))
  else ((ixR p_market.2.2 p_window).bind fun a3 => (S.f_offer_of a3 p_ring))) _ from (r_seq (r_ifM trivial (q_orDP (p_tst (p_b2 (pv (PyData.int p_window)) (pc (.int 0)) (lt_ii _ _))) (q_orDP (p_tst (p_b2 (pv (PyData.int p_window)) (p_b1 (p_b2 (pv ((eP3 (eT (eP3 PyData.str PyData.int PyData.int)) (eT (eP2 PyData.int PyData.int)) (eT (eT (eP2 PyData.int PyData.int)))) p_market)) (pc (.int 0)) (ix3_0 (eT (eP3 PyData.str PyData.int PyData.int)) (eT (eP2 PyData.int PyData.int)) (eT (eT (eP2 PyData.int PyData.int))) _)) (len_T (eP3 PyData.str PyData.int PyData.int) _)) (ge_ii _ _))) (q_tst (q_b2MP (q_call (q_callM (q_b2PP (p_b2 (pv ((eP3 (eT (eP3 PyData.str PyData.int PyData.int)) (eT (eP2 PyData.int PyData.int)) (eT (eT (eP2 PyData.int PyData.int)))) p_market)) (pc (.int 2)) (ix3_2 (eT (eP3 PyData.str PyData.int PyData.int)) (eT (eP2 PyData.int PyData.int)) (eT (eT (eP2 PyData.int PyData.int))) _)) (pv (PyData.int p_window)) (q_ixT (eT (eP2 PyData.int PyData.int)) _ _)) fun a1 => (q_callP (pv (PyData.int p_ring)) (q_callN (S.h_offer_of a1 p_ring))))) (pc .none) fun a2 => (qp (isN_O (fun _ => rfl) _))))))
  (r_raise trivial (p_aCons (pc (.int 0)) (p_aCons (pc (.str "pass")) p_aNil)))
  (r_nil (r_retFM (q_call (q_callM (q_b2PP (p_b2 (pv ((eP3 (eT (eP3 PyData.str PyData.int PyData.int)) (eT (eP2 PyData.int PyData.int)) (eT (eT (eP2 PyData.int PyData.int)))) p_market)) (pc (.int 2)) (ix3_2 (eT (eP3 PyData.str PyData.int PyData.int)) (eT (eP2 PyData.int PyData.int)) (eT (eT (eP2 PyData.int PyData.int))) _)) (pv (PyData.int p_window)) (q_ixT (eT (eP2 PyData.int PyData.int)) _ _)) fun a3 => (q_callP (pv (PyData.int p_ring)) (q_callN (S.h_offer_of a3 p_ring))))))))))
def b_single_price : En → SRes :=
  (sSeq (sIf (tst (b2 oIs (dCall S.g_offer_of (aCons (b2 oIx (dVar 0) (dC (.int 1))) (aCons (dVar 1) aNil))) (dC .none)))
  (sRaise "NotTold" ["row", "word"] (aCons (dC (.int 0)) (aCons (dC (.str "single")) aNil)))
  sNil)
  (sRet (dCall S.g_offer_of (aCons (b2 oIx (dVar 0) (dC (.int 1))) (aCons (dVar 1) aNil)))))
def g_single_price : List PyData → Rs PyData := runF 2 2 b_single_price
def f_single_price (p_market : ((List (Str × Int × Int)) × (List (Int × Int)) × (List (List (Int × Int))))) (p_ring : Int) : Rs (Option Int) :=
  (((S.f_offer_of p_market.2.1 p_ring).bind fun a1 => (.ok (a1.isNone))).bind fun c2 => if c2 then (.ex (exnOf "NotTold" ["row", "word"] [(PyData.int 0), (PyData.str "single")]))
  else (S.f_offer_of p_market.2.1 p_ring))
theorem h_single_price (p_market : ((List (Str × Int × Int)) × (List (Int × Int)) × (List (List (Int × Int))))) (p_ring : Int) : Q (eO PyData.int) (f_single_price p_market p_ring) (S.g_single_price [((eP3 (eT (eP3 PyData.str PyData.int PyData.int)) (eT (eP2 PyData.int PyData.int)) (eT (eT (eP2 PyData.int PyData.int)))) p_market), (PyData.int p_ring)]) :=
  r_fun rfl (show _ = [(some (.val ((eP3 (eT (eP3 PyData.str PyData.int PyData.int)) (eT (eP2 PyData.int PyData.int)) (eT (eT (eP2 PyData.int PyData.int)))) p_market))), (some (.val (PyData.int p_ring)))] from rfl) (show (mF (eO PyData.int)).H (((S.f_offer_of p_market.2.1 p_ring).bind fun a1 => (.ok (a1.isNone))).bind fun c2 => if c2 then (.ex (exnOf "NotTold" ["row", "word"] [(PyData.int 0), (PyData.str "single")]))
  else (S.f_offer_of p_market.2.1 p_ring)) _ from (r_seq (r_ifM trivial (q_tst (q_b2MP (q_call (q_callP (p_b2 (pv ((eP3 (eT (eP3 PyData.str PyData.int PyData.int)) (eT (eP2 PyData.int PyData.int)) (eT (eT (eP2 PyData.int PyData.int)))) p_market)) (pc (.int 1)) (ix3_1 (eT (eP3 PyData.str PyData.int PyData.int)) (eT (eP2 PyData.int PyData.int)) (eT (eT (eP2 PyData.int PyData.int))) _)) (q_callP (pv (PyData.int p_ring)) (q_callN (S.h_offer_of p_market.2.1 p_ring))))) (pc .none) fun a1 => (qp (isN_O (fun _ => rfl) _))))
  (r_raise trivial (p_aCons (pc (.int 0)) (p_aCons (pc (.str "single")) p_aNil)))
  (r_nil (r_retFM (q_call (q_callP (p_b2 (pv ((eP3 (eT (eP3 PyData.str PyData.int PyData.int)) (eT (eP2 PyData.int PyData.int)) (eT (eT (eP2 PyData.int PyData.int)))) p_market)) (pc (.int 1)) (ix3_1 (eT (eP3 PyData.str PyData.int PyData.int)) (eT (eP2 PyData.int PyData.int)) (eT (eT (eP2 PyData.int PyData.int))) _)) (q_callP (pv (PyData.int p_ring)) (q_callN (S.h_offer_of p_market.2.1 p_ring))))))))))
def f__law_clash (p_one : (Str × Int × Int)) (p_two : (Str × Int × Int)) : Rs Bool :=
  (((S.f__law_shared p_one p_two).bind fun a1 => (.ok (decide (a1 ≤ 0)))).bind fun c4 => if c4 then (.ok false)
  else (if (decide (p_one.1 = p_two.1)) then .ok true else (((S.f__law_within p_one p_two).bind fun c2 => (if c2 then .ok true else (S.f__law_within p_two p_one))).bind fun a3 => .ok (!a3))))
theorem h__law_clash (p_one : (Str × Int × Int)) (p_two : (Str × Int × Int)) : Q PyData.bool (f__law_clash p_one p_two) (DL.g_clash [((eP3 PyData.str PyData.int PyData.int) p_one), ((eP3 PyData.str PyData.int PyData.int) p_two)]) :=
  r_fun rfl (show _ = [(some (.val ((eP3 PyData.str PyData.int PyData.int) p_one))), (some (.val ((eP3 PyData.str PyData.int PyData.int) p_two)))] from rfl) (show (mF PyData.bool).H (((S.f__law_shared p_one p_two).bind fun a1 => (.ok (decide (a1 ≤ 0)))).bind fun c4 => if c4 then (.ok false)
  else (if (decide (p_one.1 = p_two.1)) then .ok true else (((S.f__law_within p_one p_two).bind fun c2 => (if c2 then .ok true else (S.f__law_within p_two p_one))).bind fun a3 => .ok (!a3)))) _ from (r_seq (r_ifM trivial (q_tst (q_b2MP (q_call (q_callP (pv ((eP3 PyData.str PyData.int PyData.int) p_one)) (q_callP (pv ((eP3 PyData.str PyData.int PyData.int) p_two)) (q_callN (S.h__law_shared p_one p_two))))) (pc (.int 0)) fun a1 => (qp (le_ii _ _))))
  (r_retF (pc (.bool false)))
  (r_nil (r_retFM (q_vOrP (p_b2 (p_b2 (pv ((eP3 PyData.str PyData.int PyData.int) p_one)) (pc (.int 0)) (ix3_0 PyData.str PyData.int PyData.int _)) (p_b2 (pv ((eP3 PyData.str PyData.int PyData.int) p_two)) (pc (.int 0)) (ix3_0 PyData.str PyData.int PyData.int _)) (eq_ss _ _)) (q_b1M (q_vOr (q_call (q_callP (pv ((eP3 PyData.str PyData.int PyData.int) p_one)) (q_callP (pv ((eP3 PyData.str PyData.int PyData.int) p_two)) (q_callN (S.h__law_within p_one p_two))))) (q_call (q_callP (pv ((eP3 PyData.str PyData.int PyData.int) p_two)) (q_callP (pv ((eP3 PyData.str PyData.int PyData.int) p_one)) (q_callN (S.h__law_within p_two p_one)))))) fun a3 => (qp (not_b _)))))))))
def b_strike_pass : En → SRes :=
  (sSeq (sDrop (dCall S.g_pass_price (aCons (dVar 0) (aCons (dVar 1) (aCons (dVar 2) aNil)))))
  (sSeq (sAsg (dVar 0) (τTup [3, 4, 5]))
  (sSeq (sSet 6 (dCall S.g_without_ring (aCons (b2 oIx (dVar 5) (dVar 1)) (aCons (dVar 2) aNil))))
  (sRet (mkT (aCons (dVar 3) (aCons (dVar 4) (aCons (b2 oAdd (b2 oAdd (dCut (dVar 5) pNo (pSo (dVar 1))) (mkT (aCons (dVar 6) aNil))) (dCut (dVar 5) (pSo (b2 oAdd (dVar 1) (dC (.int 1)))) pNo)) aNil))))))))
def g_strike_pass : List PyData → Rs PyData := runF 7 3 b_strike_pass
def f_strike_pass (p_market : ((List (Str × Int × Int)) × (List (Int × Int)) × (List (List (Int × Int))))) (p_window : Int) (p_ring : Int) : Rs ((List (Str × Int × Int)) × (List (Int × Int)) × (List (List (Int × Int)))) :=
  ((S.f_pass_price p_market p_window p_ring).bind fun _ =>
  (((ixR p_market.2.2 p_window).bind fun a1 => (S.f_without_ring a1 p_ring)).bind fun (kept_2 : (List (Int × Int))) =>
  (((catR (cutD p_market.2.2 none (some p_window)) [kept_2]).bind fun a3 => (catR a3 (cutD p_market.2.2 (some (p_window + 1)) none))).bind fun a4 => (.ok (p_market.1, p_market.2.1, a4)))))
theorem h_strike_pass (p_market : ((List (Str × Int × Int)) × (List (Int × Int)) × (List (List (Int × Int))))) (p_window : Int) (p_ring : Int) : Q (eP3 (eT (eP3 PyData.str PyData.int PyData.int)) (eT (eP2 PyData.int PyData.int)) (eT (eT (eP2 PyData.int PyData.int)))) (f_strike_pass p_market p_window p_ring) (S.g_strike_pass [((eP3 (eT (eP3 PyData.str PyData.int PyData.int)) (eT (eP2 PyData.int PyData.int)) (eT (eT (eP2 PyData.int PyData.int)))) p_market), (PyData.int p_window), (PyData.int p_ring)]) :=
  r_fun rfl (show _ = [(some (.val ((eP3 (eT (eP3 PyData.str PyData.int PyData.int)) (eT (eP2 PyData.int PyData.int)) (eT (eT (eP2 PyData.int PyData.int)))) p_market))), (some (.val (PyData.int p_window))), (some (.val (PyData.int p_ring))), none, none, none, none] from rfl) (show (mF (eP3 (eT (eP3 PyData.str PyData.int PyData.int)) (eT (eP2 PyData.int PyData.int)) (eT (eT (eP2 PyData.int PyData.int))))).H ((S.f_pass_price p_market p_window p_ring).bind fun _ =>
  (((ixR p_market.2.2 p_window).bind fun a1 => (S.f_without_ring a1 p_ring)).bind fun (kept_2 : (List (Int × Int))) =>
  (((catR (cutD p_market.2.2 none (some p_window)) [kept_2]).bind fun a3 => (catR a3 (cutD p_market.2.2 (some (p_window + 1)) none))).bind fun a4 => (.ok (p_market.1, p_market.2.1, a4))))) _ from (r_seq (r_dropM trivial (q_call (q_callP (pv ((eP3 (eT (eP3 PyData.str PyData.int PyData.int)) (eT (eP2 PyData.int PyData.int)) (eT (eT (eP2 PyData.int PyData.int)))) p_market)) (q_callP (pv (PyData.int p_window)) (q_callP (pv (PyData.int p_ring)) (q_callN (S.h_pass_price p_market p_window p_ring))))))
  (r_seq (r_asgP (pv ((eP3 (eT (eP3 PyData.str PyData.int PyData.int)) (eT (eP2 PyData.int PyData.int)) (eT (eT (eP2 PyData.int PyData.int)))) p_market)) rfl (r_seq (r_setM trivial (q_call (q_callM (q_b2PP (pv ((eT (eT (eP2 PyData.int PyData.int))) p_market.2.2)) (pv (PyData.int p_window)) (q_ixT (eT (eP2 PyData.int PyData.int)) _ _)) fun a1 => (q_callP (pv (PyData.int p_ring)) (q_callN (S.h_without_ring a1 p_ring))))) fun kept_2 =>
  (r_retFM (q_mkT (e := (eP3 (eT (eP3 PyData.str PyData.int PyData.int)) (eT (eP2 PyData.int PyData.int)) (eT (eT (eP2 PyData.int PyData.int))))) (q_callP (pv ((eT (eP3 PyData.str PyData.int PyData.int)) p_market.1)) (q_callP (pv ((eT (eP2 PyData.int PyData.int)) p_market.2.1)) (q_callM (q_b2MP (q_b2PP (p_cut (pv ((eT (eT (eP2 PyData.int PyData.int))) p_market.2.2)) p_pNo (p_pSo (pv (PyData.int p_window))) (cut_T (eT (eP2 PyData.int PyData.int)) _ _ _)) (p_mkT (p_cons (pv ((eT (eP2 PyData.int PyData.int)) kept_2)) (p_nil tupK_ok))) (q_catT (eT (eP2 PyData.int PyData.int)) _ _)) (p_cut (pv ((eT (eT (eP2 PyData.int PyData.int))) p_market.2.2)) (p_pSo (p_b2 (pv (PyData.int p_window)) (pc (.int 1)) (add_ii _ _))) p_pNo (cut_T (eT (eP2 PyData.int PyData.int)) _ _ _)) fun a3 => (q_catT (eT (eP2 PyData.int PyData.int)) _ _)) fun a4 => (q_callN (qp tupK_ok))))))))))))))
def b_strike_single : En → SRes :=
  (sSeq (sDrop (dCall S.g_single_price (aCons (dVar 0) (aCons (dVar 1) aNil))))
  (sRet (mkT (aCons (b2 oIx (dVar 0) (dC (.int 0))) (aCons (dCall S.g_without_ring (aCons (b2 oIx (dVar 0) (dC (.int 1))) (aCons (dVar 1) aNil))) (aCons (b2 oIx (dVar 0) (dC (.int 2))) aNil))))))
def g_strike_single : List PyData → Rs PyData := runF 2 2 b_strike_single
def f_strike_single (p_market : ((List (Str × Int × Int)) × (List (Int × Int)) × (List (List (Int × Int))))) (p_ring : Int) : Rs ((List (Str × Int × Int)) × (List (Int × Int)) × (List (List (Int × Int)))) :=
  ((S.f_single_price p_market p_ring).bind fun _ =>
  ((S.f_without_ring p_market.2.1 p_ring).bind fun a1 => (.ok (p_market.1, a1, p_market.2.2))))
theorem h_strike_single (p_market : ((List (Str × Int × Int)) × (List (Int × Int)) × (List (List (Int × Int))))) (p_ring : Int) : Q (eP3 (eT (eP3 PyData.str PyData.int PyData.int)) (eT (eP2 PyData.int PyData.int)) (eT (eT (eP2 PyData.int PyData.int)))) (f_strike_single p_market p_ring) (S.g_strike_single [((eP3 (eT (eP3 PyData.str PyData.int PyData.int)) (eT (eP2 PyData.int PyData.int)) (eT (eT (eP2 PyData.int PyData.int)))) p_market), (PyData.int p_ring)]) :=
  r_fun rfl (show _ = [(some (.val ((eP3 (eT (eP3 PyData.str PyData.int PyData.int)) (eT (eP2 PyData.int PyData.int)) (eT (eT (eP2 PyData.int PyData.int)))) p_market))), (some (.val (PyData.int p_ring)))] from rfl) (show (mF (eP3 (eT (eP3 PyData.str PyData.int PyData.int)) (eT (eP2 PyData.int PyData.int)) (eT (eT (eP2 PyData.int PyData.int))))).H ((S.f_single_price p_market p_ring).bind fun _ =>
  ((S.f_without_ring p_market.2.1 p_ring).bind fun a1 => (.ok (p_market.1, a1, p_market.2.2)))) _ from (r_seq (r_dropM trivial (q_call (q_callP (pv ((eP3 (eT (eP3 PyData.str PyData.int PyData.int)) (eT (eP2 PyData.int PyData.int)) (eT (eT (eP2 PyData.int PyData.int)))) p_market)) (q_callP (pv (PyData.int p_ring)) (q_callN (S.h_single_price p_market p_ring)))))
  (r_retFM (q_mkT (e := (eP3 (eT (eP3 PyData.str PyData.int PyData.int)) (eT (eP2 PyData.int PyData.int)) (eT (eT (eP2 PyData.int PyData.int))))) (q_callP (p_b2 (pv ((eP3 (eT (eP3 PyData.str PyData.int PyData.int)) (eT (eP2 PyData.int PyData.int)) (eT (eT (eP2 PyData.int PyData.int)))) p_market)) (pc (.int 0)) (ix3_0 (eT (eP3 PyData.str PyData.int PyData.int)) (eT (eP2 PyData.int PyData.int)) (eT (eT (eP2 PyData.int PyData.int))) _)) (q_callM (q_call (q_callP (p_b2 (pv ((eP3 (eT (eP3 PyData.str PyData.int PyData.int)) (eT (eP2 PyData.int PyData.int)) (eT (eT (eP2 PyData.int PyData.int)))) p_market)) (pc (.int 1)) (ix3_1 (eT (eP3 PyData.str PyData.int PyData.int)) (eT (eP2 PyData.int PyData.int)) (eT (eT (eP2 PyData.int PyData.int))) _)) (q_callP (pv (PyData.int p_ring)) (q_callN (S.h_without_ring p_market.2.1 p_ring))))) fun a1 => (q_callP (p_b2 (pv ((eP3 (eT (eP3 PyData.str PyData.int PyData.int)) (eT (eP2 PyData.int PyData.int)) (eT (eT (eP2 PyData.int PyData.int)))) p_market)) (pc (.int 2)) (ix3_2 (eT (eP3 PyData.str PyData.int PyData.int)) (eT (eP2 PyData.int PyData.int)) (eT (eT (eP2 PyData.int PyData.int))) _)) (q_callN (qp tupK_ok))))))))))
end S

/-! SD: typed readings by the denotation alone; what the drawn inputs are. -/
namespace S
open PySem PySem.Spec PyProof.Rows L2 DL
abbrev Wn := Str × Int × Int
abbrev eW : Wn → PyData := eP3 PyData.str PyData.int PyData.int
theorem EqE.inj {α : Type} {e : α → PyData} {n : Nat} (h : EqE e n) : ∀ a b, e a = e b → a = b := fun a b q => (h.eqv a b).mp (by rw [q]; exact (h.eqv b b).mpr rfl)
theorem eqW : EqE eW 1 := eqP3 eqS eqI eqI
noncomputable def f__law_draws (c : Int) (ns : List Int) : Rs (List Int) := dcdR (eL PyData.int) (g_draws [.int c, eL PyData.int ns])
theorem h__law_draws (c : Int) (ns : List Int) : Q (eL PyData.int) (f__law_draws c ns) (g_draws [.int c, eL PyData.int ns]) := q_dcd _ _
theorem f_draws_ok (c : Int) (ns : List Int) (hs : Szs ns) (hl : ns.length ≤ 100000) : ∃ os, f__law_draws c ns = .ok os ∧ Dr os ns := by
  obtain ⟨os, e, d⟩ := draws_ok c ns hs hl
  refine ⟨os, ?_, d⟩
  unfold f__law_draws
  rw [show eL PyData.int ns = .list (ns.map .int) from rfl, e]
  exact dcd_ok (EqE.inj (eqL eqI))
noncomputable def f__law_names (c many : Int) : Rs (List Str) := dcdR (eL PyData.str) (g_names [.int c, .int many])
theorem h__law_names (c many : Int) : Q (eL PyData.str) (f__law_names c many) (g_names [.int c, .int many]) := q_dcd _ _
theorem f_names_ok (c : Int) (many : Nat) (hm : many ≤ 200) : ∃ zs, f__law_names c (many : Int) = .ok zs ∧ zs.length = many ∧ ∀ z ∈ zs, name1 z := by
  obtain ⟨zs, e, d⟩ := names_ok c many hm
  refine ⟨zs, ?_, d⟩
  unfold f__law_names
  rw [e]
  exact dcd_ok (EqE.inj (eqL eqS))
noncomputable def f__law_windows (c c2 most : Int) : Rs (List Wn) := dcdR (eT eW) (g_windows [.int c, .int c2, .int most])
theorem h__law_windows (c c2 most : Int) : Q (eT eW) (f__law_windows c c2 most) (g_windows [.int c, .int c2, .int most]) := q_dcd _ _
def toW (w : Wn) : Win := ⟨w.1, w.2.1, w.2.2⟩
def ofW (w : Win) : Wn := (w.k, w.b, w.e)
def WnOk (ws : List Wn) : Prop := WNest (ws.map toW)
theorem f_windows_ok (c c2 : Int) (most : Nat) (hm : most ≤ 40) : ∃ ws zs, f__law_windows c c2 (most : Int) = .ok ws ∧ WnOk ws ∧ ws.length ≤ 2 * most ∧ kindsIn zs (ws.map toW) ∧ ∀ z ∈ zs, name1 z := by
  obtain ⟨ws, zs, e, d, l, k, n⟩ := windows_ok c c2 most hm
  have q : (ws.map ofW).map toW = ws := by rw [List.map_map]; exact List.map_id ws
  refine ⟨ws.map ofW, zs, ?_, by unfold WnOk; rw [q]; exact d, by rw [List.length_map]; exact l, by rw [q]; exact k, n⟩
  unfold f__law_windows
  have e2 : PyData.tuple (ws.map win) = eT eW (ws.map ofW) := by unfold eT; rw [List.map_map]; rfl
  rw [e, e2]
  exact dcd_ok (EqE.inj (eqT eqW))
noncomputable def f__law_tickets (c : Int) (ws : List Wn) (most : Int) : Rs (List Wn) := dcdR (eT eW) (g_tickets [.int c, eT eW ws, .int most])
theorem h__law_tickets (c : Int) (ws : List Wn) (most : Int) : Q (eT eW) (f__law_tickets c ws most) (g_tickets [.int c, eT eW ws, .int most]) := q_dcd _ _
def toK (w : Wn) : Tk := ⟨w.1, w.2.1, w.2.2⟩
def ofK (w : Tk) : Wn := (w.k, w.z, w.p)
def TkOkL (ts : List Wn) : Prop := TNest (ts.map toK)
theorem f_tickets_ok (c : Int) (ws : List Wn) (lx : ws.length ≤ 1000) (most : Nat) (hm : most ≤ 100) : ∃ ts, f__law_tickets c ws (most : Int) = .ok ts ∧ TkOkL ts ∧ (∀ t ∈ ts, t.1 = "single" ∨ t.1 ∈ ws.map (·.1)) ∧ ts.length ≤ most := by
  obtain ⟨ts, e, d, k, l⟩ := tickets_ok c (ws.map fun w => (w.1, eW w)) (fun x hx => by
    obtain ⟨w, _, rfl⟩ := List.mem_map.mp hx
    exact ix3_0 _ _ _ w) (by rw [List.length_map]; exact lx) most hm
  have q : (ts.map ofK).map toK = ts := by rw [List.map_map]; exact List.map_id ts
  refine ⟨ts.map ofK, ?_, by unfold TkOkL; rw [q]; exact d, fun t ht => ?_, by rw [List.length_map]; exact l⟩
  · unfold f__law_tickets
    have e1 : eT eW ws = .tuple ((ws.map fun w => (w.1, eW w)).map (·.2)) := by unfold eT; rw [List.map_map]; rfl
    have e2 : PyData.tuple (ts.map tkD) = eT eW (ts.map ofK) := by unfold eT; rw [List.map_map]; rfl
    rw [e1, e, e2]
    exact dcd_ok (EqE.inj (eqT eqW))
  · obtain ⟨u, hu, rfl⟩ := List.mem_map.mp ht
    rcases k u hu with h | h
    · exact .inl h
    · rw [List.map_map] at h
      exact .inr h
/-! ### same -/
def f__law_same (d e : PyData) : Rs Bool := (g_same 6 [d, e]).bind asB
theorem h__law_same (d e : PyData) : Q PyData.bool (f__law_same d e) (g_same 6 [d, e]) := q_asB (q_id _)
theorem f_same_ok {d : PyData} (h : okD 6 d = true) : f__law_same d d = .ok true := by
  unfold f__law_same
  rw [same_ok 6 d h]
  rfl
theorem okD_int (n : Nat) (i : Int) : okD (n + 1) (.int i) = true := rfl
theorem okD_str (n : Nat) (i : Str) : okD (n + 1) (.str i) = true := rfl
theorem okD_bool (n : Nat) (i : Bool) : okD (n + 1) (.bool i) = true := rfl
theorem okD_none (n : Nat) : okD (n + 1) .none = true := rfl
theorem okD_tup {n : Nat} {ds : List PyData} (h : ∀ d ∈ ds, okD n d = true) (hl : ds.length ≤ 1000000) : okD (n + 1) (.tuple ds) = true := by
  unfold okD
  rw [Bool.and_eq_true, List.all_eq_true, decide_eq_true_eq]
  exact ⟨h, hl⟩
theorem okD_T {α : Type} {e : α → PyData} {n : Nat} {xs : List α} (h : ∀ x ∈ xs, okD n (e x) = true) (hl : xs.length ≤ 1000000) : okD (n + 1) (eT e xs) = true := okD_tup (fun d hd => by
  obtain ⟨x, hx, rfl⟩ := List.mem_map.mp hd
  exact h x hx) (by rw [List.length_map]; exact hl)
theorem okD_P2 {α β : Type} {ea : α → PyData} {eb : β → PyData} {n : Nat} {p : α × β} (h1 : okD n (ea p.1) = true) (h2 : okD n (eb p.2) = true) : okD (n + 1) (eP2 ea eb p) = true := okD_tup (fun d hd => by
  simp at hd
  rcases hd with rfl | rfl <;> assumption) (by simp)
theorem okD_P3 {α β γ : Type} {ea : α → PyData} {eb : β → PyData} {ec : γ → PyData} {n : Nat} {p : α × β × γ} (h1 : okD n (ea p.1) = true) (h2 : okD n (eb p.2.1) = true) (h3 : okD n (ec p.2.2) = true) : okD (n + 1) (eP3 ea eb ec p) = true := okD_tup (fun d hd => by
  simp at hd
  rcases hd with rfl | rfl | rfl <;> assumption) (by simp)
theorem okD_O {α : Type} {e : α → PyData} {n : Nat} {o : Option α} (h : ∀ a, okD (n + 1) (e a) = true) : okD (n + 1) (eO e o) = true := by
  cases o
  · rfl
  · exact h _
/-! ### what is any data, as typed data -/
noncomputable def asR {α : Type} (e : α → PyData) (d : PyData) : Rs α := dcdR e (.ok d)
theorem asR_ok {α : Type} {e : α → PyData} {n : Nat} (h : EqE e n) (v : α) : asR e (e v) = .ok v := dcd_ok (EqE.inj h)
theorem q_asR {α : Type} (e : α → PyData) {r : Rs PyData} {x : Rs PyData} (h : Q id r x) : Q e (r.bind (asR e)) x := by
  cases r with
  | ok d =>
    have := q_dcd e (.ok d)
    rw [show x = .ok d from h.out]
    exact this
  | ex z => exact ⟨h.out⟩
  | bad => exact qbad
/-! ### made in a loop, used behind it -/
def oSlot {α : Type} (e : α → PyData) (z : Option SV) (o : Option α) : Option SV := match o with
  | none => z
  | some v => some (.val (e v))
theorem r_opt {R α : Type} {m : Md R} {K : En → SRes} {e : α → PyData} {z : Option SV} {o : Option α} {k : α → Rs R} (ρo : Option SV → En) (hk : ∀ v, m.H (k v) (K (ρo (some (.val (e v)))))) : m.H ((getO o).bind k) (K (ρo (oSlot e z o))) := by
  cases o with
  | none => exact ⟨m.bad _⟩
  | some v => exact hk v
end S

/-! SM0: reckoning with typed readings. -/
namespace S
open PySem PySem.Spec PyProof.Rows L2 DL
section
variable {α β γ σ V : Type}
@[simp] theorem bif_eq (c : Bool) (a b : α) : (bif c then a else b) = if c then a else b := by cases c <;> rfl
theorem bind_assoc (r : Rs α) (f : α → Rs β) (g : β → Rs γ) : (r.bind f).bind g = r.bind fun a => (f a).bind g := by cases r <;> rfl
@[simp] theorem bind_ret (r : Rs α) : (r.bind fun a => .ok a) = r := by cases r <;> rfl
/-! loops -/
@[simp] theorem forB_nil (b : σ → α → Rs σ) (s : σ) : forB b [] s = .ok s := rfl
theorem forB_cons (b : σ → α → Rs σ) (x : α) (xs : List α) (s : σ) : forB b (x :: xs) s = (b s x).bind fun s => forB b xs s := rfl
@[simp] theorem forC_nil (b : σ → α → Rs (Ct σ V)) (s : σ) : forC b [] s = .ok (.nx s) := rfl
theorem forC_cons (b : σ → α → Rs (Ct σ V)) (x : α) (xs : List α) (s : σ) : forC b (x :: xs) s = (b s x).bind fun t => match t with
    | .nx s => forC b xs s
    | .brk s => .ok (.nx s)
    | .ret v => .ok (.ret v) := rfl
theorem forC_nx {b : σ → α → Rs (Ct σ V)} {x : α} {xs : List α} {s s' : σ} (h : b s x = .ok (.nx s')) : forC b (x :: xs) s = forC b xs s' := by rw [forC_cons, h]; rfl
theorem forC_ret {b : σ → α → Rs (Ct σ V)} {x : α} {xs : List α} {s : σ} {v : V} (h : b s x = .ok (.ret v)) : forC b (x :: xs) s = .ok (.ret v) := by rw [forC_cons, h]; rfl
theorem forC_brk {b : σ → α → Rs (Ct σ V)} {x : α} {xs : List α} {s s' : σ} (h : b s x = .ok (.brk s')) : forC b (x :: xs) s = .ok (.nx s') := by rw [forC_cons, h]; rfl
/-- all turns go on -/
theorem forC_all {b : Unit → α → Rs (Ct Unit V)} {xs : List α} (h : ∀ x ∈ xs, b () x = .ok (.nx ())) : forC b xs () = .ok (.nx ()) := by
  induction xs with
  | nil => rfl
  | cons x xs ih => rw [forC_nx (h x List.mem_cons_self), ih fun y hy => h y (List.mem_cons_of_mem _ hy)]
/-- turns by an invariant over what is left -/
theorem forB_inv {b : σ → α → Rs σ} (P : List α → σ → Prop) (hs : ∀ x xs s, P (x :: xs) s → ∃ s', b s x = .ok s' ∧ P xs s') : ∀ (xs : List α) (s : σ), P xs s → ∃ s', forB b xs s = .ok s' ∧ P [] s'
  | [], s, h => ⟨s, rfl, h⟩
  | x :: xs, s, h => by
    obtain ⟨s1, e, h1⟩ := hs x xs s h
    obtain ⟨s2, e2, h2⟩ := forB_inv P hs xs s1 h1
    exact ⟨s2, by rw [forB_cons, e]; exact e2, h2⟩
theorem forC_inv {b : σ → α → Rs (Ct σ V)} (P : List α → σ → Prop) (hs : ∀ x xs s, P (x :: xs) s → ∃ s', b s x = .ok (.nx s') ∧ P xs s') : ∀ (xs : List α) (s : σ), P xs s → ∃ s', forC b xs s = .ok (.nx s') ∧ P [] s'
  | [], s, h => ⟨s, rfl, h⟩
  | x :: xs, s, h => by
    obtain ⟨s1, e, h1⟩ := hs x xs s h
    obtain ⟨s2, e2, h2⟩ := forC_inv P hs xs s1 h1
    exact ⟨s2, by rw [forC_nx e]; exact e2, h2⟩
theorem range_split (n k : Nat) (h : k < n) : (List.range n).drop k = k :: (List.range n).drop (k + 1) := by
  rw [List.drop_eq_getElem_cons (by rw [List.length_range]; exact h), List.getElem_range]
/-- a range's turns -/
theorem forB_rng {b : σ → Int → Rs σ} {n : Nat} (P : Nat → σ → Prop) (hs : ∀ k, k < n → ∀ s, P k s → ∃ s', b s (k : Int) = .ok s' ∧ P (k + 1) s') {s : σ} (h0 : P 0 s) : ∃ s', forB b ((List.range n).map fun (k : Nat) => (k : Int)) s = .ok s' ∧ P n s' := by
  have key : ∀ (m k : Nat) (s : σ), n - k = m → k ≤ n → P k s → ∃ s', forB b (((List.range n).drop k).map fun (k : Nat) => (k : Int)) s = .ok s' ∧ P n s' := by
    intro m
    induction m with
    | zero =>
      intro k s h1 h2 h
      have : k = n := by omega
      subst this
      rw [List.drop_of_length_le (by rw [List.length_range]; exact Nat.le_refl _)]
      exact ⟨s, rfl, h⟩
    | succ m ih =>
      intro k s h1 h2 h
      obtain ⟨s1, e1, p1⟩ := hs k (by omega) s h
      obtain ⟨s2, e2, p2⟩ := ih (k + 1) s1 (by omega) (by omega) p1
      refine ⟨s2, ?_, p2⟩
      rw [range_split n k (by omega), List.map_cons, forB_cons, e1]
      exact e2
  have := key n 0 s (by omega) (Nat.zero_le _) h0
  rwa [List.drop_zero] at this
theorem forC_rng {b : σ → Int → Rs (Ct σ V)} {n : Nat} (P : Nat → σ → Prop) (hs : ∀ k, k < n → ∀ s, P k s → ∃ s', b s (k : Int) = .ok (.nx s') ∧ P (k + 1) s') {s : σ} (h0 : P 0 s) : ∃ s', forC b ((List.range n).map fun (k : Nat) => (k : Int)) s = .ok (.nx s') ∧ P n s' := by
  have key : ∀ (m k : Nat) (s : σ), n - k = m → k ≤ n → P k s → ∃ s', forC b (((List.range n).drop k).map fun (k : Nat) => (k : Int)) s = .ok (.nx s') ∧ P n s' := by
    intro m
    induction m with
    | zero =>
      intro k s h1 h2 h
      have : k = n := by omega
      subst this
      rw [List.drop_of_length_le (by rw [List.length_range]; exact Nat.le_refl _)]
      exact ⟨s, rfl, h⟩
    | succ m ih =>
      intro k s h1 h2 h
      obtain ⟨s1, e1, p1⟩ := hs k (by omega) s h
      obtain ⟨s2, e2, p2⟩ := ih (k + 1) s1 (by omega) (by omega) p1
      refine ⟨s2, ?_, p2⟩
      rw [range_split n k (by omega), List.map_cons, forC_nx e1]
      exact e2
  have := key n 0 s (by omega) (Nat.zero_le _) h0
  rwa [List.drop_zero] at this
/-- the list by place -/
theorem forB_at {b : σ → α → Rs σ} {xs : List α} (P : Nat → σ → Prop) (hs : ∀ k x, xs[k]? = some x → ∀ s, P k s → ∃ s', b s x = .ok s' ∧ P (k + 1) s') {s : σ} (h0 : P 0 s) : ∃ s', forB b xs s = .ok s' ∧ P xs.length s' := by
  have key : ∀ (ys : List α) (k : Nat) (s : σ), xs.drop k = ys → k ≤ xs.length → P k s → ∃ s', forB b ys s = .ok s' ∧ P xs.length s' := by
    intro ys
    induction ys with
    | nil =>
      intro k s e h1 h
      have := List.drop_eq_nil_iff.mp e
      have : k = xs.length := by omega
      subst this
      exact ⟨s, rfl, h⟩
    | cons y ys ih =>
      intro k s e h1 h
      have hk : xs[k]? = some y := by
        have := congrArg (·[0]?) e
        simpa using this
      obtain ⟨s1, e1, p1⟩ := hs k y hk s h
      have e2 : xs.drop (k + 1) = ys := by
        have := congrArg List.tail e
        rwa [List.tail_drop] at this
      have hlt : k < xs.length := (List.getElem?_eq_some_iff.mp hk).1
      obtain ⟨s2, e3, p2⟩ := ih (k + 1) s1 e2 hlt p1
      exact ⟨s2, by rw [forB_cons, e1]; exact e3, p2⟩
  exact key xs 0 s List.drop_zero (Nat.zero_le _) h0
/-- the first that is looked for -/
theorem forC_find {b : Unit → α → Rs (Ct Unit V)} {p : α → Bool} {f : α → V} {xs : List α} (h : ∀ x ∈ xs, b () x = if p x then .ok (.ret (f x)) else .ok (.nx ())) : forC b xs () = match xs.find? p with
    | some x => .ok (.ret (f x))
    | none => .ok (.nx ()) := by
  induction xs with
  | nil => rfl
  | cons x xs ih =>
    have hx := h x List.mem_cons_self
    have ih := ih fun y hy => h y (List.mem_cons_of_mem _ hy)
    cases e : p x with
    | true =>
      rw [e] at hx
      rw [forC_ret hx, List.find?_cons, e]
    | false =>
      rw [e] at hx
      rw [forC_nx hx, List.find?_cons, e]
      exact ih
/-- the same, given on -/
theorem forC_find' {R : Type} {b : Unit → α → Rs (Ct Unit V)} {p : α → Bool} {f : α → V} {xs : List α} {k : Unit → Rs R} {kr : V → Rs R} (h : ∀ x ∈ xs, b () x = if p x then .ok (.ret (f x)) else .ok (.nx ())) : ((forC b xs ()).bind fun t => t.nxt k kr) = match xs.find? p with
    | some x => kr (f x)
    | none => k () := by
  rw [forC_find h]
  cases xs.find? p <;> rfl
theorem map_range {n : Nat} {P : Int → Prop} (h : ∀ k : Nat, k < n → P (k : Int)) : ∀ x ∈ (List.range n).map (fun (k : Nat) => (k : Int)), P x := fun x hx => by
  obtain ⟨k, hk, rfl⟩ := List.mem_map.mp hx
  exact h k (List.mem_range.mp hk)
end
section
variable {α : Type}
theorem cutD_take (xs : List α) {i : Int} (h : 0 ≤ i) : cutD xs none (some i) = xs.take i.toNat := by
  obtain ⟨n, rfl⟩ : ∃ n : Nat, i = (n : Int) := ⟨i.toNat, by omega⟩
  unfold DL.cutD
  rw [HT.sIx_none, HT.sIx_nat, List.drop_zero, Nat.sub_zero, Int.toNat_natCast]
  rcases Nat.le_total n xs.length with h | h
  · rw [Nat.min_eq_left h]
  · rw [Nat.min_eq_right h, List.take_length, List.take_of_length_le h]
theorem cutD_drop (xs : List α) {i : Int} (h : 0 ≤ i) : cutD xs (some i) none = xs.drop i.toNat := by
  obtain ⟨n, rfl⟩ : ∃ n : Nat, i = (n : Int) := ⟨i.toNat, by omega⟩
  unfold DL.cutD
  rw [HT.sIx_none, HT.sIx_nat, Int.toNat_natCast]
  rcases Nat.le_total n xs.length with h | h
  · rw [Nat.min_eq_left h, List.take_of_length_le (by rw [List.length_drop]; exact Nat.le_refl _)]
  · rw [Nat.min_eq_right h, List.drop_length, List.drop_of_length_le h, List.take_nil]
theorem ixR_lt {xs : List α} {i : Int} (h0 : 0 ≤ i) (h : i < (xs.length : Int)) : ∃ x, ixR xs i = .ok x ∧ xs[i.toNat]? = some x := by
  have hi : i.toNat < xs.length := by omega
  exact ⟨xs[i.toNat], ixR_int h0 (List.getElem?_eq_getElem hi), List.getElem?_eq_getElem hi⟩
theorem catR_le {xs ys : List α} (h : xs.length + ys.length ≤ 1000000) : catR xs ys = .ok (xs ++ ys) := catR_ok (Nat.le_trans h (by decide))
theorem lcP_le {β : Type} {xs : List β} {p : β → Bool} {f : β → α} (h : xs.length ≤ 1000000) : lcP xs p f = .ok ((xs.filter p).map f) := lcP_ok (Nat.le_trans h (by decide))
theorem lcP_all {β : Type} {xs : List β} {f : β → α} (h : xs.length ≤ 1000000) : lcP xs (fun _ => true) f = .ok (xs.map f) := by rw [lcP_le h, List.filter_eq_self.mpr fun _ _ => rfl]
theorem appR_le {xs : List α} {x : α} (h : xs.length ≤ 1000000) : appR xs x = .ok (xs ++ [x]) := appR_ok (Nat.lt_of_le_of_lt h (by decide))
theorem lcR_le {β : Type} {xs : List β} {p : β → Rs Bool} {f : β → Rs α} (h : xs.length ≤ 1000000) : lcR xs p f = lcG p f xs := lcR_ok (Nat.le_trans h (by decide))
end
@[simp] theorem ixR_0 {α : Type} (x : α) (xs : List α) : ixR (x :: xs) 0 = .ok x := by unfold ixR; rw [at0]
@[simp] theorem ixR_1 {α : Type} (x y : α) (xs : List α) : ixR (x :: y :: xs) 1 = .ok y := by unfold ixR; rw [at1]
@[simp] theorem ixR_2 {α : Type} (x y z : α) (xs : List α) : ixR (x :: y :: z :: xs) 2 = .ok z := by unfold ixR; rw [at2]
theorem ixR_k {α : Type} {xs : List α} {k : Nat} (h : k < xs.length) : ixR xs (k : Int) = .ok xs[k] := ixR_nat (List.getElem?_eq_getElem h)
theorem Dr.ix {os ns : List Int} (d : Dr os ns) {i : Int} {k : Nat} {n : Int} (hi : i = (k : Int)) (h : ns[k]? = some n) : ∃ x, ixR os i = .ok x ∧ 0 ≤ x ∧ x < n := by
  subst hi
  obtain ⟨x, h1, h2, h3⟩ := d.get h
  exact ⟨x, ixR_nat h1, h2, h3⟩
theorem Dr2 {os : List Int} {a b : Int} (d : Dr os [a, b]) : ∃ x y, os = [x, y] ∧ (0 ≤ x ∧ x < a) ∧ (0 ≤ y ∧ y < b) := by
  match os, d with
  | [x, y], .cons h1 h2 (.cons h3 h4 .nil) => exact ⟨x, y, rfl, ⟨h1, h2⟩, ⟨h3, h4⟩⟩
theorem Dr1 {os : List Int} {a : Int} (d : Dr os [a]) : ∃ x, os = [x] ∧ (0 ≤ x ∧ x < a) := by
  match os, d with
  | [x], .cons h1 h2 .nil => exact ⟨x, rfl, ⟨h1, h2⟩⟩
theorem repR_n {α : Type} {xs : List α} {k : Nat} (h : xs.length * k ≤ 1000000) (hk : k ≤ 1000000) : repR xs (k : Int) = .ok (List.replicate k xs).flatten := by
  rw [repR_ok (by omega) (by omega) (by rw [Int.toNat_natCast]; exact Nat.le_trans h (by decide)), Int.toNat_natCast]
/-! ### the law's first defs -/
theorem Dr3 {os : List Int} {a b c : Int} (d : Dr os [a, b, c]) : ∃ x y z, os = [x, y, z] ∧ (0 ≤ x ∧ x < a) ∧ (0 ≤ y ∧ y < b) ∧ (0 ≤ z ∧ z < c) := by
  match os, d with
  | [x, y, z], .cons h1 h2 (.cons h3 h4 (.cons h5 h6 .nil)) => exact ⟨x, y, z, rfl, ⟨h1, h2⟩, ⟨h3, h4⟩, ⟨h5, h6⟩⟩
/-! ### what is given -/
section
variable {α β γ σ V : Type}
/-- r ends well, with what P holds of -/
def Gv (r : Rs α) (P : α → Prop) : Prop := ∃ v, r = .ok v ∧ P v
theorem gv_ok {v : α} {P : α → Prop} (h : P v) : Gv (.ok v) P := ⟨v, rfl, h⟩
theorem gv_eq {r : Rs α} {v : α} {P : α → Prop} (e : r = .ok v) (h : P v) : Gv r P := ⟨v, e, h⟩
theorem Gv.imp {r : Rs α} {P P' : α → Prop} (h : Gv r P) (i : ∀ v, P v → P' v) : Gv r P' := let ⟨v, e, p⟩ := h; ⟨v, e, i v p⟩
theorem gv_bind {r : Rs α} {k : α → Rs β} {P : α → Prop} {P' : β → Prop} (h : Gv r P) (hk : ∀ v, P v → Gv (k v) P') : Gv (r.bind k) P' := by
  obtain ⟨v, rfl, p⟩ := h
  exact hk v p
theorem gv_bindE {r : Rs α} {v : α} {k : α → Rs β} {P' : β → Prop} (e : r = .ok v) (hk : Gv (k v) P') : Gv (r.bind k) P' := by
  subst e
  exact hk
theorem gv_if {c : Prop} [Decidable c] {a b : Rs α} {P : α → Prop} (h1 : c → Gv a P) (h2 : ¬ c → Gv b P) : Gv (if c then a else b) P := by
  by_cases h : c
  · rw [if_pos h]; exact h1 h
  · rw [if_neg h]; exact h2 h
theorem gv_ifd {c : Prop} [Decidable c] {a b : Rs α} {P : α → Prop} (h1 : c → Gv a P) (h2 : ¬ c → Gv b P) : Gv (if decide c = true then a else b) P := by
  by_cases h : c
  · rw [if_pos (decide_eq_true h)]; exact h1 h
  · rw [if_neg (by simpa using h)]; exact h2 h
/-- a fork: what comes behind asks I of what is handed on -/
theorem gv_letK {σ R : Type} {k : σ → Rs R} {F : (σ → Rs R) → Rs R} {P : R → Prop} (I : σ → Prop) (hk : ∀ z, I z → Gv (k z) P) (hF : ∀ k' : σ → Rs R, (∀ z, I z → Gv (k' z) P) → Gv (F k') P) : Gv (letK k F) P := hF k hk
theorem gv_forB {b : σ → α → Rs σ} {xs : List α} {s : σ} {k : σ → Rs β} {P' : β → Prop} (P : Nat → σ → Prop) (h0 : P 0 s) (hs : ∀ j x, xs[j]? = some x → ∀ s, P j s → Gv (b s x) (P (j + 1))) (hk : ∀ s, P xs.length s → Gv (k s) P') : Gv ((forB b xs s).bind k) P' := by
  obtain ⟨s', e, p⟩ := forB_at (b := b) (xs := xs) P hs h0
  exact gv_bindE e (hk s' p)
theorem gv_rngB {b : σ → Int → Rs σ} {n : Nat} {s : σ} {k : σ → Rs β} {P' : β → Prop} (P : Nat → σ → Prop) (hn : n ≤ 1000000) (h0 : P 0 s) (hs : ∀ j, j < n → ∀ s, P j s → Gv (b s (j : Int)) (P (j + 1))) (hk : ∀ s, P n s → Gv (k s) P') : Gv ((rngR 0 (n : Int)).bind fun xs => (forB b xs s).bind k) P' := by
  rw [rngR_nat (by omega), bind_ok]
  obtain ⟨s', e, p⟩ := forB_rng (b := b) (n := n) P hs h0
  exact gv_bindE e (hk s' p)
theorem gv_rngC {b : σ → Int → Rs (Ct σ V)} {n : Nat} {s : σ} {k : σ → Rs β} {kr : V → Rs β} {P' : β → Prop} (P : Nat → σ → Prop) (hn : n ≤ 1000000) (h0 : P 0 s) (hs : ∀ j, j < n → ∀ s, P j s → Gv (b s (j : Int)) fun t => ∃ s', t = .nx s' ∧ P (j + 1) s') (hk : ∀ s, P n s → Gv (k s) P') : Gv ((rngR 0 (n : Int)).bind fun xs => (forC b xs s).bind fun t => t.nxt k kr) P' := by
  rw [rngR_nat (by omega), bind_ok]
  obtain ⟨s', e, p⟩ := forC_rng (b := b) (n := n) P (fun j hj s h => by
    obtain ⟨t, e, s', rfl, p⟩ := hs j hj s h
    exact ⟨s', e, p⟩) h0
  refine gv_bindE e ?_
  exact hk s' p
theorem gv_dr {os ns : List Int} (d : Dr os ns) {i : Int} (k : Nat) {n : Int} (hi : i = (k : Int)) (h : ns[k]? = some n) : Gv (ixR os i) fun x => 0 ≤ x ∧ x < n := by
  obtain ⟨x, e, p⟩ := S.Dr.ix d hi h
  exact ⟨x, e, p⟩
theorem gv_ix {xs : List α} {i : Int} (h0 : 0 ≤ i) (h : i < (xs.length : Int)) : Gv (ixR xs i) fun x => xs[i.toNat]? = some x := ixR_lt h0 h
theorem gv_app {xs : List α} {x : α} {P : List α → Prop} (hl : xs.length ≤ 1000000) (h : P (xs ++ [x])) : Gv (appR xs x) P := ⟨_, appR_le hl, h⟩
theorem gv_is {r : Rs α} {v : α} (h : Gv r fun w => w = v) : r = .ok v := by
  obtain ⟨w, e, rfl⟩ := h
  exact e
theorem take_at {xs : List α} {k : Nat} {x : α} (h : xs[k]? = some x) : xs.take (k + 1) = xs.take k ++ [x] := by
  rw [List.take_add_one, h]
  rfl
/-- a comprehension whose elements are given -/
theorem gv_lcG {p : β → Rs Bool} {f : β → Rs α} {P : α → Prop} : ∀ {xs : List β}, (∀ x ∈ xs, p x = .ok true ∧ Gv (f x) P) → Gv (lcG p f xs) fun ys => ys.length = xs.length ∧ ∀ y ∈ ys, P y
  | [], _ => gv_ok ⟨rfl, fun y h => by cases h⟩
  | x :: xs, h => by
    obtain ⟨h1, y, e, py⟩ := h x List.mem_cons_self
    obtain ⟨ys, e2, l, q⟩ := gv_lcG fun z hz => h z (List.mem_cons_of_mem _ hz)
    refine ⟨y :: ys, ?_, by rw [List.length_cons, List.length_cons, l], fun z hz => ?_⟩
    · unfold lcG
      rw [h1]
      dsimp only
      rw [e]
      dsimp only
      rw [e2]
      rfl
    · rcases List.mem_cons.mp hz with rfl | hz
      · exact py
      · exact q z hz
theorem gv_lcR {p : β → Rs Bool} {f : β → Rs α} {P : α → Prop} {xs : List β} (hl : xs.length ≤ 1000000) (h : ∀ x ∈ xs, p x = .ok true ∧ Gv (f x) P) : Gv (lcR xs p f) fun ys => ys.length = xs.length ∧ ∀ y ∈ ys, P y := by
  rw [lcR_le hl]
  exact gv_lcG h
theorem setR_ok {xs : List α} {i : Int} {x : α} (h0 : 0 ≤ i) (h : i < (xs.length : Int)) : setR xs i x = .ok (xs.set i.toNat x) := by
  unfold setR ixN
  rw [if_pos h0, if_pos h]
end
end S

namespace S
open PySem PySem.Spec PyProof.Rows L2 DL
noncomputable section
def l_line_of_1 : En → SRes :=
  (sIf (tst (b2 oEq (b2 oIx (dVar 2) (dC (.int 0))) (dVar 1)))
  (sRet (dVar 2))
  sNil)
def b_line_of : En → SRes :=
  (sSeq (sFor (iOf oAny (b2 oIx (dVar 0) (dC (.int 1)))) (τName 2) l_line_of_1)
  (sRet (dC .none)))
def g_line_of : List PyData → Rs PyData := runF 3 2 b_line_of
def f_line_of (p_city : PyData) (p_name : Str) : Rs (Option (Str × Str × (List Str))) :=
  (((oIx p_city (.int (1 : Int))).bind (asR (eT (eP3 PyData.str PyData.str (eT PyData.str))))).bind fun a4 => (forC (fun (s1 : Unit) (x3 : (Str × Str × (List Str))) => ((if (decide (x3.1 = p_name)) then (.ok (.ret (some x3)))
  else (.ok (.nx ()))) : Rs (Ct (Unit) (Option (Str × Str × (List Str)))))) a4 ()).bind fun t => t.nxt (fun (s1 : Unit) =>
  (.ok none)) (fun v => .ok v))
theorem h_line_of (p_city : PyData) (p_name : Str) : Q (eO (eP3 PyData.str PyData.str (eT PyData.str))) (f_line_of p_city p_name) (S.g_line_of [p_city, (PyData.str p_name)]) :=
  r_fun rfl (show _ = [(some (.val p_city)), (some (.val (PyData.str p_name))), none] from rfl) (show (mF (eO (eP3 PyData.str PyData.str (eT PyData.str)))).H (((oIx p_city (.int (1 : Int))).bind (asR (eT (eP3 PyData.str PyData.str (eT PyData.str))))).bind fun a4 => (forC (fun (s1 : Unit) (x3 : (Str × Str × (List Str))) => ((if (decide (x3.1 = p_name)) then (.ok (.ret (some x3)))
  else (.ok (.nx ()))) : Rs (Ct (Unit) (Option (Str × Str × (List Str)))))) a4 ()).bind fun t => t.nxt (fun (s1 : Unit) =>
  (.ok none)) (fun v => .ok v)) _ from (r_seq (r_forCM (fun (s1 : Unit) ρ => ∃ (_ : Unit) (z2 : Option PyData), ρ = [(some (.val p_city)), (some (.val (PyData.str p_name))), (nv z2)]) (eO (eP3 PyData.str PyData.str (eT PyData.str))) (s0 := ()) trivial (q_iOfB (q_asR (eT (eP3 PyData.str PyData.str (eT PyData.str))) (q_b2PP (pv p_city) (pc (.int 1)) (q_id _))) fun _ => (any_T (eP3 PyData.str PyData.str (eT PyData.str)) _)) ⟨(), none, rfl⟩
  (fun s1 x3 ρ hr => by
  obtain ⟨_, z2, rfl⟩ := hr
  exact ⟨_, rfl, (r_if (p_tst (p_b2 (p_b2 (pv ((eP3 PyData.str PyData.str (eT PyData.str)) x3)) (pc (.int 0)) (ix3_0 PyData.str PyData.str (eT PyData.str) _)) (pv (PyData.str p_name)) (eq_ss _ _)))
  (r_retL (pv ((eP3 PyData.str PyData.str (eT PyData.str)) x3)))
  (r_nil (r_endL (s := ()) ⟨(), (some ((eP3 PyData.str PyData.str (eT PyData.str)) x3)), rfl⟩)))⟩)
  (fun s1 ρ hr => by
  obtain ⟨_, z2, rfl⟩ := hr
  exact (r_retF (pc .none))) r_rF)))
def l__law_draws_v2_1 : En → SRes :=
  (sSeq (sApp 4 (b2 oMod (b1 oInt (dVar 3)) (dVar 5)))
  (sSet 3 (b2 oDiv (dVar 3) (dVar 5))))
def l__law_draws_v2_2 : En → SRes :=
  (sSeq (sSet 6 (b2 oMod (b1 oInt (b2 oAdd (b2 oAdd (b2 oMul (dVar 6) (dC (.int 48271))) (b2 oMul (dC (.int 7919)) (dVar 7))) (dC (.int 12345)))) (dC (.int 2147483647))))
  (sSeq (sSet 8 (b2 oMod (b1 oInt (b2 oAdd (b2 oAdd (b2 oMul (b2 oDiv (dVar 6) (dC (.int 3))) (dC (.int 69621))) (b2 oMul (dC (.int 101)) (dVar 7))) (dC (.int 17)))) (dC (.int 2147483629))))
  (sApp 4 (b2 oMod (b1 oInt (dVar 8)) (b2 oIx (dVar 2) (dVar 7))))))
def b__law_draws_v2 : En → SRes :=
  (sSeq (sSet 3 (dC (.int 0)))
  (sSeq (sIf (tst (b2 oLt (dVar 1) (b1 oLen (dVar 0))))
  (sSet 3 (b1 oInt (b2 oIx (dVar 0) (dVar 1))))
  sNil)
  (sSeq (sSetO 4 (mkL aNil))
  (sSeq (sIf (tst (b2 oGe (dVar 3) (b2 oPow (dC (.int 10)) (dC (.int 18)))))
  (sSeq (sFor (iOf oAny (dVar 2)) (τName 5) l__law_draws_v2_1)
  (sFrz 4 (sRet (dVar 4))))
  sNil)
  (sSeq (sSet 6 (b2 oMod (b1 oInt (b2 oAdd (dVar 3) (b2 oMul (dC (.int 104729)) (dVar 1)))) (dC (.int 2147483647))))
  (sSeq (sFor (iRange1 (b1 oLen (dVar 2))) (τName 7) l__law_draws_v2_2)
  (sFrz 4 (sRet (dVar 4)))))))))
def g__law_draws_v2 : List PyData → Rs PyData := runF 9 3 b__law_draws_v2
def f__law_draws_v2 (p_script : (List Int)) (p_k : Int) (p_sizes : (List Int)) : Rs (List Int) :=
  (letK (fun (s1 : Int) => ((if (decide (1000000000000000000 ≤ s1)) then ((forB (fun (s8 : Int × (List Int)) (x13 : Int) => ((modR s8.1 x13).bind fun a16 => (appR s8.2 a16).bind fun (draws_14 : (List Int)) =>
  ((divR s8.1 x13).bind fun (cell_15 : Int) =>
  (.ok (cell_15, draws_14))))) p_sizes (s1, [])).bind fun (s8 : Int × (List Int)) =>
  (.ok s8.2))
  else ((Rs.ok ((s1 + ((104729 : Int) * p_k)) % (2147483647 : Int))).bind fun (mixed_17 : Int) =>
  ((rngR 0 (p_sizes.length : Int)).bind fun a28 => (forB (fun (s18 : (List Int) × Int) (x22 : Int) => ((Rs.ok ((((s18.2 * (48271 : Int)) + ((7919 : Int) * x22)) + (12345 : Int)) % (2147483647 : Int))).bind fun (mixed_23 : Int) =>
  ((Rs.ok (((((mixed_23 / (3 : Int)) * (69621 : Int)) + ((101 : Int) * x22)) + (17 : Int)) % (2147483629 : Int))).bind fun (other_24 : Int) =>
  (((ixR p_sizes x22).bind fun a25 => (modR other_24 a25)).bind fun a27 => (appR s18.1 a27).bind fun (draws_26 : (List Int)) =>
  (.ok (draws_26, mixed_23)))))) a28 ([], mixed_17)).bind fun (s18 : (List Int) × Int) =>
  (.ok s18.1)))) : Rs (List Int))) fun k7 =>
  (if (decide (p_k < (p_script.length : Int))) then (((ixR p_script p_k).bind fun a31 => .ok a31).bind fun (cell_32 : Int) =>
  (k7 cell_32))
  else (k7 (0 : Int))))
theorem h__law_draws_v2 (p_script : (List Int)) (p_k : Int) (p_sizes : (List Int)) : Q (eL PyData.int) (f__law_draws_v2 p_script p_k p_sizes) (S.g__law_draws_v2 [(scr p_script), (PyData.int p_k), ((eL PyData.int) p_sizes)]) :=
  r_fun rfl (show _ = [(some (.val (scr p_script))), (some (.val (PyData.int p_k))), (some (.val ((eL PyData.int) p_sizes))), none, none, none, none, none, none] from rfl) (show (mF (eL PyData.int)).H (letK (fun (s1 : Int) => ((if (decide (1000000000000000000 ≤ s1)) then ((forB (fun (s8 : Int × (List Int)) (x13 : Int) => ((modR s8.1 x13).bind fun a16 => (appR s8.2 a16).bind fun (draws_14 : (List Int)) =>
  ((divR s8.1 x13).bind fun (cell_15 : Int) =>
  (.ok (cell_15, draws_14))))) p_sizes (s1, [])).bind fun (s8 : Int × (List Int)) =>
  (.ok s8.2))
  else ((Rs.ok ((s1 + ((104729 : Int) * p_k)) % (2147483647 : Int))).bind fun (mixed_17 : Int) =>
  ((rngR 0 (p_sizes.length : Int)).bind fun a28 => (forB (fun (s18 : (List Int) × Int) (x22 : Int) => ((Rs.ok ((((s18.2 * (48271 : Int)) + ((7919 : Int) * x22)) + (12345 : Int)) % (2147483647 : Int))).bind fun (mixed_23 : Int) =>
  ((Rs.ok (((((mixed_23 / (3 : Int)) * (69621 : Int)) + ((101 : Int) * x22)) + (17 : Int)) % (2147483629 : Int))).bind fun (other_24 : Int) =>
  (((ixR p_sizes x22).bind fun a25 => (modR other_24 a25)).bind fun a27 => (appR s18.1 a27).bind fun (draws_26 : (List Int)) =>
  (.ok (draws_26, mixed_23)))))) a28 ([], mixed_17)).bind fun (s18 : (List Int) × Int) =>
  (.ok s18.1)))) : Rs (List Int))) fun k7 =>
  (if (decide (p_k < (p_script.length : Int))) then (((ixR p_script p_k).bind fun a31 => .ok a31).bind fun (cell_32 : Int) =>
  (k7 cell_32))
  else (k7 (0 : Int)))) _ from (r_seq (r_setP (pc (.int 0)) (r_seq (r_joinK (fun (s1 : Int) ρ => ∃ (_ : Unit) (z2 : Option SV) (z3 : Option PyData) (z4 : Option PyData) (z5 : Option PyData) (z6 : Option PyData), ρ = [(some (.val (scr p_script))), (some (.val (PyData.int p_k))), (some (.val ((eL PyData.int) p_sizes))), (some (.val (PyData.int s1))), z2, (nv z3), (nv z4), (nv z5), (nv z6)]) (fun s1 ρ hr => by
  obtain ⟨_, z2, z3, z4, z5, z6, rfl⟩ := hr
  exact (r_seq (r_setOP (p_mkL (v := ((eL PyData.int) [])) (p_nil lstK_ok)) (r_seq (r_if (p_tst (p_b2 (pv (PyData.int s1)) (p_b2 (pc (.int 10)) (pc (.int 18)) (pw_10_18)) (ge_ii _ _)))
  (r_seq (r_forB (fun (s8 : Int × (List Int)) ρ => ∃ (_ : Unit) (z9 : Option PyData) (z10 : Option PyData) (z11 : Option PyData) (z12 : Option PyData), ρ = [(some (.val (scr p_script))), (some (.val (PyData.int p_k))), (some (.val ((eL PyData.int) p_sizes))), (some (.val (PyData.int s8.1))), (some (.own ((eL PyData.int) s8.2))), (nv z9), (nv z10), (nv z11), (nv z12)]) (bd := _) (s0 := (s1, [])) (p_iOf (pv ((eL PyData.int) p_sizes)) (any_L PyData.int _)) ⟨(), z3, z4, z5, z6, rfl⟩
  (fun s8 x13 ρ hr => by
  obtain ⟨_, z9, z10, z11, z12, rfl⟩ := hr
  exact ⟨_, rfl, (r_seq (r_appM (xs := s8.2) trivial rfl (q_b2PP (p_b1 (pv (PyData.int s8.1)) (int_i _)) (pv (PyData.int x13)) (q_mod _ _)) fun draws_14 =>
  (r_setM trivial (q_b2PP (pv (PyData.int s8.1)) (pv (PyData.int x13)) (q_div _ _)) fun cell_15 =>
  (r_endB (s := (cell_15, draws_14)) ⟨(), (some (PyData.int x13)), z10, z11, z12, rfl⟩))))⟩)
  (fun s8 ρ hr => by
  obtain ⟨_, z9, z10, z11, z12, rfl⟩ := hr
  exact (r_frz (r_retF (pv ((eL PyData.int) s8.2)))))))
  (r_nil (r_seq (r_setM trivial (qp (p_b2 (p_b1 (p_b2 (pv (PyData.int s1)) (p_b2 (pc (.int 104729)) (pv (PyData.int p_k)) (mul_cl _ _)) (add_ii _ _)) (int_i _)) (pc (.int 2147483647)) (mod_c _ _))) fun mixed_17 =>
  (r_seq (r_forBM (fun (s18 : (List Int) × Int) ρ => ∃ (_ : Unit) (z19 : Option PyData) (z20 : Option PyData) (z21 : Option PyData), ρ = [(some (.val (scr p_script))), (some (.val (PyData.int p_k))), (some (.val ((eL PyData.int) p_sizes))), (some (.val (PyData.int s1))), (some (.own ((eL PyData.int) s18.1))), (nv z19), (some (.val (PyData.int s18.2))), (nv z20), (nv z21)]) (s0 := ([], mixed_17)) trivial (q_range1 (p_b1 (pv ((eL PyData.int) p_sizes)) (len_L PyData.int _))) ⟨(), z3, z5, z6, rfl⟩
  (fun s18 x22 ρ hr => by
  obtain ⟨_, z19, z20, z21, rfl⟩ := hr
  exact ⟨_, rfl, (r_seq (r_setM trivial (qp (p_b2 (p_b1 (p_b2 (p_b2 (p_b2 (pv (PyData.int s18.2)) (pc (.int 48271)) (mul_cr _ _)) (p_b2 (pc (.int 7919)) (pv (PyData.int x22)) (mul_cl _ _)) (add_ii _ _)) (pc (.int 12345)) (add_ii _ _)) (int_i _)) (pc (.int 2147483647)) (mod_c _ _))) fun mixed_23 =>
  (r_seq (r_setM trivial (qp (p_b2 (p_b1 (p_b2 (p_b2 (p_b2 (p_b2 (pv (PyData.int mixed_23)) (pc (.int 3)) (div_c _ _)) (pc (.int 69621)) (mul_cr _ _)) (p_b2 (pc (.int 101)) (pv (PyData.int x22)) (mul_cl _ _)) (add_ii _ _)) (pc (.int 17)) (add_ii _ _)) (int_i _)) (pc (.int 2147483629)) (mod_c _ _))) fun other_24 =>
  (r_appM (xs := s18.1) trivial rfl (q_b2PM (p_b1 (pv (PyData.int other_24)) (int_i _)) (q_b2PP (pv ((eL PyData.int) p_sizes)) (pv (PyData.int x22)) (q_ixL PyData.int _ _)) fun a25 => (q_mod _ _)) fun draws_26 =>
  (r_endB (s := (draws_26, mixed_23)) ⟨(), z19, (some (PyData.int x22)), (some (PyData.int other_24)), rfl⟩))))))⟩)
  (fun s18 ρ hr => by
  obtain ⟨_, z19, z20, z21, rfl⟩ := hr
  exact (r_frz (r_retF (pv ((eL PyData.int) s18.1))))))))))))))) fun K30 hk29 =>
  (r_if (p_tst (p_b2 (pv (PyData.int p_k)) (p_b1 (pv (scr p_script)) (len_Scr _)) (lt_ii _ _)))
  (r_setM trivial (q_b1M (q_b2PP (pv (scr p_script)) (pv (PyData.int p_k)) (q_ixScr _ _)) fun a31 => (qp (int_i _))) fun cell_32 =>
  (hk29 cell_32 _ ⟨(), _, none, none, none, none, rfl⟩))
  (r_nil (hk29 (0 : Int) _ ⟨(), _, none, none, none, none, rfl⟩))))))))
def b__law_word : En → SRes :=
  (sSeq (sSet 3 (dC (.str "qwertzuiopasdfghjklyxcvbnm")))
  (sSeq (sSet 4 (mkL (aCons (dC (.str "")) (aCons (dC (.str "b")) (aCons (dC (.str "x7")) (aCons (dC (.str "m")) (aCons (dC (.str "zz")) (aCons (dC (.str "k0k")) aNil))))))))
  (sRet (b2 oAdd (b2 oAdd (b2 oIx (dVar 3) (b2 oMod (b1 oInt (dVar 0)) (dC (.int 26)))) (b1 oStr (dVar 1))) (b2 oIx (dVar 4) (b2 oMod (b1 oInt (dVar 2)) (dC (.int 6))))))))
def g__law_word : List PyData → Rs PyData := runF 5 3 b__law_word
def f__law_word (p_first : Int) (p_number : Int) (p_tail : Int) : Rs Str :=
  ((Rs.ok [("" : Str), ("b" : Str), ("x7" : Str), ("m" : Str), ("zz" : Str), ("k0k" : Str)]).bind fun (tails_1 : (List Str)) =>
  (((ixS ("qwertzuiopasdfghjklyxcvbnm" : Str) (p_first % (26 : Int))).bind fun a2 => (strR p_number).bind fun a3 => (catS a2 a3)).bind fun a4 => (ixR tails_1 (p_tail % (6 : Int))).bind fun a5 => (catS a4 a5)))
theorem h__law_word (p_first : Int) (p_number : Int) (p_tail : Int) : Q PyData.str (f__law_word p_first p_number p_tail) (S.g__law_word [(PyData.int p_first), (PyData.int p_number), (PyData.int p_tail)]) :=
  r_fun rfl (show _ = [(some (.val (PyData.int p_first))), (some (.val (PyData.int p_number))), (some (.val (PyData.int p_tail))), none, none] from rfl) (show (mF PyData.str).H ((Rs.ok [("" : Str), ("b" : Str), ("x7" : Str), ("m" : Str), ("zz" : Str), ("k0k" : Str)]).bind fun (tails_1 : (List Str)) =>
  (((ixS ("qwertzuiopasdfghjklyxcvbnm" : Str) (p_first % (26 : Int))).bind fun a2 => (strR p_number).bind fun a3 => (catS a2 a3)).bind fun a4 => (ixR tails_1 (p_tail % (6 : Int))).bind fun a5 => (catS a4 a5))) _ from (r_seq (r_setP (pc (.str "qwertzuiopasdfghjklyxcvbnm")) (r_seq (r_setM trivial (qp (p_mkL (v := ((eL PyData.str) [("" : Str), ("b" : Str), ("x7" : Str), ("m" : Str), ("zz" : Str), ("k0k" : Str)])) (p_cons (pc (.str "")) (p_cons (pc (.str "b")) (p_cons (pc (.str "x7")) (p_cons (pc (.str "m")) (p_cons (pc (.str "zz")) (p_cons (pc (.str "k0k")) (p_nil lstK_ok))))))))) fun tails_1 =>
  (r_retFM (q_b2MM (q_b2MM (q_b2PP (pv (PyData.str ("qwertzuiopasdfghjklyxcvbnm" : Str))) (p_b2 (p_b1 (pv (PyData.int p_first)) (int_i _)) (pc (.int 26)) (mod_c _ _)) (q_ixS _ _)) (q_b1P (pv (PyData.int p_number)) (q_str _)) fun a2 a3 => (q_catS _ _)) (q_b2PP (pv ((eL PyData.str) tails_1)) (p_b2 (p_b1 (pv (PyData.int p_tail)) (int_i _)) (pc (.int 6)) (mod_c _ _)) (q_ixL PyData.str _ _)) fun a4 a5 => (q_catS _ _))))))))
def b__law_is_number : En → SRes :=
  (sRet (vAnd (b1 oIsInt (dVar 0)) (b1 oNot (b1 oIsBool (dVar 0)))))
def g__law_is_number : List PyData → Rs PyData := runF 1 1 b__law_is_number
def f__law_is_number (p_told : Int) : Rs Bool :=
  (.ok (true && (!false)))
theorem h__law_is_number (p_told : Int) : Q PyData.bool (f__law_is_number p_told) (S.g__law_is_number [(PyData.int p_told)]) :=
  r_fun rfl (show _ = [(some (.val (PyData.int p_told)))] from rfl) (show (mF PyData.bool).H (.ok (true && (!false))) _ from (r_retF (p_vAnd (p_b1 (pv (PyData.int p_told)) rfl) (p_b1 (p_b1 (pv (PyData.int p_told)) rfl) (not_b _)))))
def l__law_visits_1 : En → SRes :=
  (sIf (tst (b2 oEq (b2 oIx (dVar 3) (dC (.int 0))) (b2 oIx (dVar 1) (dC (.int 0)))))
  (sSet 2 (b1 oList (b2 oIx (dVar 3) (dC (.int 2)))))
  sNil)
def e__law_visits_1 : En → Rs PyData :=
  (mkT (aCons (b2 oIx (dVar 2) (dVar 4)) (aCons (b2 oAdd (b2 oIx (dVar 1) (dC (.int 2))) (b2 oMul (b2 oIx (dVar 1) (dC (.int 3))) (dVar 4))) aNil)))
def b__law_visits : En → SRes :=
  (sSeq (sSet 2 (mkL aNil))
  (sSeq (sFor (iOf oAny (b2 oIx (dVar 0) (dC (.int 1)))) (τName 3) l__law_visits_1)
  (sSeq (sIf (tst (b2 oEq (b2 oIx (dVar 1) (dC (.int 1))) (dC (.str "home"))))
  (sSet 2 (b1 oRevB (dVar 2)))
  sNil)
  (sRet (b1 oTuple (lcD [4] (iRange1 (b1 oLen (dVar 2))) (τName 4) tY e__law_visits_1))))))
def g__law_visits : List PyData → Rs PyData := runF 5 2 b__law_visits
def f__law_visits (p_city : PyData) (p_run : (Str × Str × Int × Int)) : Rs (List (Str × Int)) :=
  (((oIx p_city (.int (1 : Int))).bind (asR (eT (eP3 PyData.str PyData.str (eT PyData.str))))).bind fun a15 => (forB (fun (s1 : (List Str)) (x4 : (Str × Str × (List Str))) => ((Rs.ok (bif (decide (x4.1 = p_run.1)) then x4.2.2 else s1)).bind fun (s5 : (List Str)) =>
  (.ok s5))) a15 []).bind fun (s1 : (List Str)) =>
  ((Rs.ok (bif (decide (p_run.2.1 = ("home" : Str))) then s1.reverse else s1)).bind fun (s7 : (List Str)) =>
  (((rngR 0 (s7.length : Int)).bind fun a13 => (lcR a13 (fun x9 => (Rs.ok true)) fun x9 => ((ixR s7 x9).bind fun a11 => (((mulR p_run.2.2.2 x9).bind fun a10 => (.ok (p_run.2.2.1 + a10))).bind fun a12 => (.ok (a11, a12)))))).bind fun a14 => .ok a14)))
theorem h__law_visits (p_city : PyData) (p_run : (Str × Str × Int × Int)) : Q (eT (eP2 PyData.str PyData.int)) (f__law_visits p_city p_run) (S.g__law_visits [p_city, ((eP4 PyData.str PyData.str PyData.int PyData.int) p_run)]) :=
  r_fun rfl (show _ = [(some (.val p_city)), (some (.val ((eP4 PyData.str PyData.str PyData.int PyData.int) p_run))), none, none, none] from rfl) (show (mF (eT (eP2 PyData.str PyData.int))).H (((oIx p_city (.int (1 : Int))).bind (asR (eT (eP3 PyData.str PyData.str (eT PyData.str))))).bind fun a15 => (forB (fun (s1 : (List Str)) (x4 : (Str × Str × (List Str))) => ((Rs.ok (bif (decide (x4.1 = p_run.1)) then x4.2.2 else s1)).bind fun (s5 : (List Str)) =>
  (.ok s5))) a15 []).bind fun (s1 : (List Str)) =>
  ((Rs.ok (bif (decide (p_run.2.1 = ("home" : Str))) then s1.reverse else s1)).bind fun (s7 : (List Str)) =>
  (((rngR 0 (s7.length : Int)).bind fun a13 => (lcR a13 (fun x9 => (Rs.ok true)) fun x9 => ((ixR s7 x9).bind fun a11 => (((mulR p_run.2.2.2 x9).bind fun a10 => (.ok (p_run.2.2.1 + a10))).bind fun a12 => (.ok (a11, a12)))))).bind fun a14 => .ok a14))) _ from (r_seq (r_setP (p_mkL (v := ((eL PyData.str) [])) (p_nil lstK_ok)) (r_seq (r_forBM (fun (s1 : (List Str)) ρ => ∃ (_ : Unit) (z2 : Option PyData) (z3 : Option PyData), ρ = [(some (.val p_city)), (some (.val ((eP4 PyData.str PyData.str PyData.int PyData.int) p_run))), (some (.val ((eL PyData.str) s1))), (nv z2), (nv z3)]) (s0 := []) trivial (q_iOfB (q_asR (eT (eP3 PyData.str PyData.str (eT PyData.str))) (q_b2PP (pv p_city) (pc (.int 1)) (q_id _))) fun _ => (any_T (eP3 PyData.str PyData.str (eT PyData.str)) _)) ⟨(), none, none, rfl⟩
  (fun s1 x4 ρ hr => by
  obtain ⟨_, z2, z3, rfl⟩ := hr
  exact ⟨_, rfl, (r_ifS (σ := (List Str)) (fun c6 s5 => [(some (.val p_city)), (some (.val ((eP4 PyData.str PyData.str PyData.int PyData.int) p_run))), (some (.val ((eL PyData.str) s5))), (some (.val ((eP3 PyData.str PyData.str (eT PyData.str)) x4))), (nv z3)]) (v1 := x4.2.2) (v2 := s1) (p_tst (p_b2 (p_b2 (pv ((eP3 PyData.str PyData.str (eT PyData.str)) x4)) (pc (.int 0)) (ix3_0 PyData.str PyData.str (eT PyData.str) _)) (p_b2 (pv ((eP4 PyData.str PyData.str PyData.int PyData.int) p_run)) (pc (.int 0)) (ix4_0 PyData.str PyData.str PyData.int PyData.int _)) (eq_ss _ _)))
  (r_setP (p_b1 (p_b2 (pv ((eP3 PyData.str PyData.str (eT PyData.str)) x4)) (pc (.int 2)) (ix3_2 PyData.str PyData.str (eT PyData.str) _)) (list_T PyData.str _)) (r_endN rfl))
  (r_nil (r_endN rfl)) fun s5 =>
  (r_endB (s := s5) ⟨(), (some ((eP3 PyData.str PyData.str (eT PyData.str)) x4)), z3, rfl⟩))⟩)
  (fun s1 ρ hr => by
  obtain ⟨_, z2, z3, rfl⟩ := hr
  exact (r_seq (r_ifS (σ := (List Str)) (fun c8 s7 => [(some (.val p_city)), (some (.val ((eP4 PyData.str PyData.str PyData.int PyData.int) p_run))), (some (.val ((eL PyData.str) s7))), (nv z2), (nv z3)]) (v1 := s1.reverse) (v2 := s1) (p_tst (p_b2 (p_b2 (pv ((eP4 PyData.str PyData.str PyData.int PyData.int) p_run)) (pc (.int 1)) (ix4_1 PyData.str PyData.str PyData.int PyData.int _)) (pc (.str "home")) (eq_ss _ _)))
  (r_setP (p_b1 (pv ((eL PyData.str) s1)) (revB_L PyData.str _)) (r_endN rfl))
  (r_nil (r_endN rfl)) fun s7 =>
  (r_retFM (q_b1M (q_lcMM (eP2 PyData.str PyData.int) PyData.int (q_range1 (p_b1 (pv ((eL PyData.str) s7)) (len_L PyData.str _))) (no_cons (no_nv (w := z3) rfl) no_nil) (show wipeE _ _ = [(some (.val p_city)), (some (.val ((eP4 PyData.str PyData.str PyData.int PyData.int) p_run))), (some (.val ((eL PyData.str) s7))), (nv z2), none] from rfl) (fun x9 => ⟨_, rfl, (qp (e := id) rfl), (q_mkT (e := (eP2 PyData.str PyData.int)) (q_callM (q_b2PP (pv ((eL PyData.str) s7)) (pv (PyData.int x9)) (q_ixL PyData.str _ _)) fun a11 => (q_callM (q_b2PM (p_b2 (pv ((eP4 PyData.str PyData.str PyData.int PyData.int) p_run)) (pc (.int 2)) (ix4_2 PyData.str PyData.str PyData.int PyData.int _)) (q_b2PP (p_b2 (pv ((eP4 PyData.str PyData.str PyData.int PyData.int) p_run)) (pc (.int 3)) (ix4_3 PyData.str PyData.str PyData.int PyData.int _)) (pv (PyData.int x9)) (q_mul _ _)) fun a10 => (qp (add_ii _ _))) fun a12 => (q_callN (qp tupK_ok)))))⟩)) fun a14 => (qp (tuple_L (eP2 PyData.str PyData.int) _))))))))))))
def l__law_added_v2_1 : En → SRes :=
  (sApp 2 (mkT (aCons (b2 oIx (b2 oIx (dVar 0) (dVar 3)) (dC (.int 0))) (aCons (b2 oIx (b2 oIx (dVar 0) (dVar 3)) (dC (.int 1))) (aCons (b2 oAdd (b2 oIx (b2 oIx (dVar 0) (dVar 3)) (dC (.int 2))) (b2 oIx (dVar 1) (dVar 3))) (aCons (b2 oIx (b2 oIx (dVar 0) (dVar 3)) (dC (.int 3))) aNil))))))
def b__law_added_v2 : En → SRes :=
  (sSeq (sSetO 2 (mkL aNil))
  (sSeq (sFor (iRange1 (b1 oLen (dVar 0))) (τName 3) l__law_added_v2_1)
  (sRet (b1 oTuple (bVar 2)))))
def g__law_added_v2 : List PyData → Rs PyData := runF 4 2 b__law_added_v2
def f__law_added_v2 (p_runs : (List (Str × Str × Int × Int))) (p_delays : (List Int)) : Rs (List (Str × Str × Int × Int)) :=
  ((rngR 0 (p_runs.length : Int)).bind fun a16 => (forB (fun (s1 : (List (Str × Str × Int × Int))) (x3 : Int) => ((((ixR p_runs x3).bind fun a4 => (.ok a4.1)).bind fun a10 => (((ixR p_runs x3).bind fun a5 => (.ok a5.2.1)).bind fun a11 => ((((ixR p_runs x3).bind fun a6 => (.ok a6.2.2.1)).bind fun a7 => (ixR p_delays x3).bind fun a8 => (.ok (a7 + a8))).bind fun a12 => (((ixR p_runs x3).bind fun a9 => (.ok a9.2.2.2)).bind fun a13 => (.ok (a10, a11, a12, a13)))))).bind fun a15 => (appR s1 a15).bind fun (late_14 : (List (Str × Str × Int × Int))) =>
  (.ok late_14))) a16 []).bind fun (s1 : (List (Str × Str × Int × Int))) =>
  (.ok s1))
theorem h__law_added_v2 (p_runs : (List (Str × Str × Int × Int))) (p_delays : (List Int)) : Q (eT (eP4 PyData.str PyData.str PyData.int PyData.int)) (f__law_added_v2 p_runs p_delays) (S.g__law_added_v2 [((eT (eP4 PyData.str PyData.str PyData.int PyData.int)) p_runs), ((eL PyData.int) p_delays)]) :=
  r_fun rfl (show _ = [(some (.val ((eT (eP4 PyData.str PyData.str PyData.int PyData.int)) p_runs))), (some (.val ((eL PyData.int) p_delays))), none, none] from rfl) (show (mF (eT (eP4 PyData.str PyData.str PyData.int PyData.int))).H ((rngR 0 (p_runs.length : Int)).bind fun a16 => (forB (fun (s1 : (List (Str × Str × Int × Int))) (x3 : Int) => ((((ixR p_runs x3).bind fun a4 => (.ok a4.1)).bind fun a10 => (((ixR p_runs x3).bind fun a5 => (.ok a5.2.1)).bind fun a11 => ((((ixR p_runs x3).bind fun a6 => (.ok a6.2.2.1)).bind fun a7 => (ixR p_delays x3).bind fun a8 => (.ok (a7 + a8))).bind fun a12 => (((ixR p_runs x3).bind fun a9 => (.ok a9.2.2.2)).bind fun a13 => (.ok (a10, a11, a12, a13)))))).bind fun a15 => (appR s1 a15).bind fun (late_14 : (List (Str × Str × Int × Int))) =>
  (.ok late_14))) a16 []).bind fun (s1 : (List (Str × Str × Int × Int))) =>
  (.ok s1)) _ from (r_seq (r_setOP (p_mkL (v := ((eL (eP4 PyData.str PyData.str PyData.int PyData.int)) [])) (p_nil lstK_ok)) (r_seq (r_forBM (fun (s1 : (List (Str × Str × Int × Int))) ρ => ∃ (_ : Unit) (z2 : Option PyData), ρ = [(some (.val ((eT (eP4 PyData.str PyData.str PyData.int PyData.int)) p_runs))), (some (.val ((eL PyData.int) p_delays))), (some (.own ((eL (eP4 PyData.str PyData.str PyData.int PyData.int)) s1))), (nv z2)]) (s0 := []) trivial (q_range1 (p_b1 (pv ((eT (eP4 PyData.str PyData.str PyData.int PyData.int)) p_runs)) (len_T (eP4 PyData.str PyData.str PyData.int PyData.int) _))) ⟨(), none, rfl⟩
  (fun s1 x3 ρ hr => by
  obtain ⟨_, z2, rfl⟩ := hr
  exact ⟨_, rfl, (r_appM (xs := s1) trivial rfl (q_mkT (e := (eP4 PyData.str PyData.str PyData.int PyData.int)) (q_callM (q_b2MP (q_b2PP (pv ((eT (eP4 PyData.str PyData.str PyData.int PyData.int)) p_runs)) (pv (PyData.int x3)) (q_ixT (eP4 PyData.str PyData.str PyData.int PyData.int) _ _)) (pc (.int 0)) fun a4 => (qp (ix4_0 PyData.str PyData.str PyData.int PyData.int _))) fun a10 => (q_callM (q_b2MP (q_b2PP (pv ((eT (eP4 PyData.str PyData.str PyData.int PyData.int)) p_runs)) (pv (PyData.int x3)) (q_ixT (eP4 PyData.str PyData.str PyData.int PyData.int) _ _)) (pc (.int 1)) fun a5 => (qp (ix4_1 PyData.str PyData.str PyData.int PyData.int _))) fun a11 => (q_callM (q_b2MM (q_b2MP (q_b2PP (pv ((eT (eP4 PyData.str PyData.str PyData.int PyData.int)) p_runs)) (pv (PyData.int x3)) (q_ixT (eP4 PyData.str PyData.str PyData.int PyData.int) _ _)) (pc (.int 2)) fun a6 => (qp (ix4_2 PyData.str PyData.str PyData.int PyData.int _))) (q_b2PP (pv ((eL PyData.int) p_delays)) (pv (PyData.int x3)) (q_ixL PyData.int _ _)) fun a7 a8 => (qp (add_ii _ _))) fun a12 => (q_callM (q_b2MP (q_b2PP (pv ((eT (eP4 PyData.str PyData.str PyData.int PyData.int)) p_runs)) (pv (PyData.int x3)) (q_ixT (eP4 PyData.str PyData.str PyData.int PyData.int) _ _)) (pc (.int 3)) fun a9 => (qp (ix4_3 PyData.str PyData.str PyData.int PyData.int _))) fun a13 => (q_callN (qp tupK_ok))))))) fun late_14 =>
  (r_endB (s := late_14) ⟨(), (some (PyData.int x3)), rfl⟩))⟩)
  (fun s1 ρ hr => by
  obtain ⟨_, z2, rfl⟩ := hr
  exact (r_retF (p_b1 (bv ((eL (eP4 PyData.str PyData.str PyData.int PyData.int)) s1)) (tuple_L (eP4 PyData.str PyData.str PyData.int PyData.int) _)))))))))
def e_visits_of_1 : En → Rs PyData :=
  (mkT (aCons (b2 oIx (dVar 6) (dVar 7)) (aCons (b2 oAdd (dVar 4) (b2 oMul (dVar 5) (dVar 7))) aNil)))
def b_visits_of : En → SRes :=
  (sSeq (sAsg (dVar 1) (τTup [2, 3, 4, 5]))
  (sSeq (sSet 6 (b2 oIx (dCall S.g_line_of (aCons (dVar 0) (aCons (dVar 2) aNil))) (dC (.int 2))))
  (sSeq (sIf (tst (b2 oEq (dVar 3) (dC (.str "home"))))
  (sSet 6 (b1 oRevB (dVar 6)))
  sNil)
  (sRet (b1 oTuple (lcD [7] (iRange1 (b1 oLen (dVar 6))) (τName 7) tY e_visits_of_1))))))
def g_visits_of : List PyData → Rs PyData := runF 8 2 b_visits_of
def f_visits_of (p_city : PyData) (p_run : (Str × Str × Int × Int)) : Rs (List (Str × Int)) :=
  ((((S.f_line_of p_city p_run.1).bind getO).bind fun a1 => (.ok a1.2.2)).bind fun (stops_2 : (List Str)) =>
  ((Rs.ok (bif (decide (p_run.2.1 = ("home" : Str))) then stops_2.reverse else stops_2)).bind fun (s3 : (List Str)) =>
  (((rngR 0 (s3.length : Int)).bind fun a9 => (lcR a9 (fun x5 => (Rs.ok true)) fun x5 => ((ixR s3 x5).bind fun a7 => (((mulR p_run.2.2.2 x5).bind fun a6 => (.ok (p_run.2.2.1 + a6))).bind fun a8 => (.ok (a7, a8)))))).bind fun a10 => .ok a10)))
theorem h_visits_of (p_city : PyData) (p_run : (Str × Str × Int × Int)) : Q (eT (eP2 PyData.str PyData.int)) (f_visits_of p_city p_run) (S.g_visits_of [p_city, ((eP4 PyData.str PyData.str PyData.int PyData.int) p_run)]) :=
  r_fun rfl (show _ = [(some (.val p_city)), (some (.val ((eP4 PyData.str PyData.str PyData.int PyData.int) p_run))), none, none, none, none, none, none] from rfl) (show (mF (eT (eP2 PyData.str PyData.int))).H ((((S.f_line_of p_city p_run.1).bind getO).bind fun a1 => (.ok a1.2.2)).bind fun (stops_2 : (List Str)) =>
  ((Rs.ok (bif (decide (p_run.2.1 = ("home" : Str))) then stops_2.reverse else stops_2)).bind fun (s3 : (List Str)) =>
  (((rngR 0 (s3.length : Int)).bind fun a9 => (lcR a9 (fun x5 => (Rs.ok true)) fun x5 => ((ixR s3 x5).bind fun a7 => (((mulR p_run.2.2.2 x5).bind fun a6 => (.ok (p_run.2.2.1 + a6))).bind fun a8 => (.ok (a7, a8)))))).bind fun a10 => .ok a10))) _ from (r_seq (r_asgP (pv ((eP4 PyData.str PyData.str PyData.int PyData.int) p_run)) rfl (r_seq (r_setM trivial (q_b2MP (q_getOM (eP3 PyData.str PyData.str (eT PyData.str)) (q_call (q_callP (pv p_city) (q_callP (pv (PyData.str p_run.1)) (q_callN (S.h_line_of p_city p_run.1)))))) (pc (.int 2)) fun a1 => (qp (ix3_2 PyData.str PyData.str (eT PyData.str) _))) fun stops_2 =>
  (r_seq (r_ifS (σ := (List Str)) (fun c4 s3 => [(some (.val p_city)), (some (.val ((eP4 PyData.str PyData.str PyData.int PyData.int) p_run))), (some (.val (PyData.str p_run.1))), (some (.val (PyData.str p_run.2.1))), (some (.val (PyData.int p_run.2.2.1))), (some (.val (PyData.int p_run.2.2.2))), (some (.val ((eT PyData.str) s3))), none]) (v1 := stops_2.reverse) (v2 := stops_2) (p_tst (p_b2 (pv (PyData.str p_run.2.1)) (pc (.str "home")) (eq_ss _ _)))
  (r_setP (p_b1 (pv ((eT PyData.str) stops_2)) (revB_T PyData.str _)) (r_endN rfl))
  (r_nil (r_endN rfl)) fun s3 =>
  (r_retFM (q_b1M (q_lcMM (eP2 PyData.str PyData.int) PyData.int (q_range1 (p_b1 (pv ((eT PyData.str) s3)) (len_T PyData.str _))) (no_cons (no_rfl rfl) no_nil) (show wipeE _ _ = [(some (.val p_city)), (some (.val ((eP4 PyData.str PyData.str PyData.int PyData.int) p_run))), (some (.val (PyData.str p_run.1))), (some (.val (PyData.str p_run.2.1))), (some (.val (PyData.int p_run.2.2.1))), (some (.val (PyData.int p_run.2.2.2))), (some (.val ((eT PyData.str) s3))), none] from rfl) (fun x5 => ⟨_, rfl, (qp (e := id) rfl), (q_mkT (e := (eP2 PyData.str PyData.int)) (q_callM (q_b2PP (pv ((eT PyData.str) s3)) (pv (PyData.int x5)) (q_ixT PyData.str _ _)) fun a7 => (q_callM (q_b2PM (pv (PyData.int p_run.2.2.1)) (q_b2PP (pv (PyData.int p_run.2.2.2)) (pv (PyData.int x5)) (q_mul _ _)) fun a6 => (qp (add_ii _ _))) fun a8 => (q_callN (qp tupK_ok)))))⟩)) fun a10 => (qp (tuple_L (eP2 PyData.str PyData.int) _)))))))))))
def l__law_city_1 : En → SRes :=
  (sSeq (sSet 8 (b2 oAdd (dC (.int 2)) (b2 oMul (dC (.int 3)) (dVar 7))))
  (sApp 6 (mkT (aCons (dCall S.g__law_word (aCons (b2 oIx (dVar 5) (dVar 8)) (aCons (dVar 7) (aCons (b2 oIx (dVar 5) (b2 oAdd (dVar 8) (dC (.int 1)))) aNil)))) (aCons (b2 oIx (mkL (aCons (dC (.int 1)) (aCons (dC (.int 1)) (aCons (dC (.int 2)) (aCons (dC (.int 2)) (aCons (dC (.int 3)) (aCons (dC (.int 4)) (aCons (dC (.int 5)) (aCons (dC (.int 6)) aNil))))))))) (b2 oIx (dVar 5) (b2 oAdd (dVar 8) (dC (.int 2))))) aNil)))))
def e__law_city_1 : En → Rs PyData :=
  (b2 oIx (dVar 11) (dC (.int 0)))
def l__law_city_3 : En → SRes :=
  (sIf (tst (b2 oGt (b1 oLen (bVar 10)) (dC (.int 0))))
  (sAppPop 12 10 (b2 oMod (b1 oInt (b2 oIx (dVar 5) (b2 oAdd (b2 oAdd (dVar 8) (dC (.int 3))) (dVar 13)))) (b1 oLen (bVar 10))))
  sNil)
def l__law_city_2 : En → SRes :=
  (sSeq (sSet 8 (b2 oAdd (b2 oAdd (dC (.int 2)) (b2 oMul (dC (.int 3)) (dVar 3))) (b2 oMul (dC (.int 9)) (dVar 7))))
  (sSeq (sSetO 10 (lcD [11] (iOf oAny (bVar 6)) (τName 11) tY e__law_city_1))
  (sSeq (sSetO 12 (mkL aNil))
  (sSeq (sFor (iRange1 (b2 oAdd (dC (.int 2)) (b2 oIx (dVar 5) (b2 oAdd (dVar 8) (dC (.int 2)))))) (τName 13) l__law_city_3)
  (sSeq (sSet 14 (dCall S.g__law_word (aCons (b2 oIx (dVar 5) (dVar 8)) (aCons (b2 oAdd (dC (.int 40)) (dVar 7)) (aCons (b2 oIx (dVar 5) (b2 oAdd (dVar 8) (dC (.int 1)))) aNil)))))
  (sSeq (sIf (tAndD (tst (b2 oEq (b2 oIx (dVar 5) (b2 oAdd (dVar 8) (dC (.int 8)))) (dC (.int 0)))) (tst (b2 oLt (dVar 7) (dC (.int 2)))))
  (sSet 14 (b2 oIx (b2 oIx (bVar 6) (dVar 7)) (dC (.int 0))))
  sNil)
  (sApp 9 (mkT (aCons (dVar 14) (aCons (dCall S.g__law_word (aCons (b2 oIx (dVar 5) (b2 oAdd (dVar 8) (dC (.int 1)))) (aCons (b2 oAdd (dC (.int 60)) (dVar 7)) (aCons (b2 oIx (dVar 5) (dVar 8)) aNil)))) (aCons (b1 oTuple (bVar 12)) aNil)))))))))))
def b__law_city : En → SRes :=
  (sSeq (sSet 2 (dCall S.g__law_draws_v2 (aCons (dVar 0) (aCons (dVar 1) (aCons (mkL (aCons (dC (.int 7)) (aCons (dC (.int 4)) aNil))) aNil)))))
  (sSeq (sSet 3 (b2 oAdd (dC (.int 2)) (b2 oIx (dVar 2) (dC (.int 0)))))
  (sSeq (sSet 4 (b2 oAdd (dC (.int 1)) (b2 oIx (dVar 2) (dC (.int 1)))))
  (sSeq (sSet 5 (dCall S.g__law_draws_v2 (aCons (dVar 0) (aCons (dVar 1) (aCons (b2 oAdd (b2 oAdd (mkL (aCons (dC (.int 7)) (aCons (dC (.int 4)) aNil))) (b2 oMul (mkL (aCons (dC (.int 26)) (aCons (dC (.int 6)) (aCons (dC (.int 8)) aNil)))) (dVar 3))) (b2 oMul (mkL (aCons (dC (.int 26)) (aCons (dC (.int 6)) (aCons (dC (.int 4)) (aCons (dC (.int 9)) (aCons (dC (.int 9)) (aCons (dC (.int 9)) (aCons (dC (.int 9)) (aCons (dC (.int 9)) (aCons (dC (.int 8)) aNil)))))))))) (dVar 4))) aNil)))))
  (sSeq (sSetO 6 (mkL aNil))
  (sSeq (sFor (iRange1 (dVar 3)) (τName 7) l__law_city_1)
  (sSeq (sSetO 9 (mkL aNil))
  (sSeq (sFor (iRange1 (dVar 4)) (τName 7) l__law_city_2)
  (sRet (mkT (aCons (b1 oTuple (bVar 6)) (aCons (b1 oTuple (bVar 9)) (aCons (mkT aNil) (aCons (mkT aNil) aNil))))))))))))))
def g__law_city : List PyData → Rs PyData := runF 15 2 b__law_city
def f__law_city (p_script : (List Int)) (p_k : Int) : Rs ((List (Str × Int)) × (List (Str × Str × (List Str))) × (List PyData) × (List PyData)) :=
  ((S.f__law_draws_v2 p_script p_k [(7 : Int), (4 : Int)]).bind fun (head_1 : (List Int)) =>
  (((ixR head_1 (0 : Int)).bind fun a2 => (.ok ((2 : Int) + a2))).bind fun (many_3 : Int) =>
  (((ixR head_1 (1 : Int)).bind fun a4 => (.ok ((1 : Int) + a4))).bind fun (count_5 : Int) =>
  (((((repR [(26 : Int), (6 : Int), (8 : Int)] many_3).bind fun a6 => (catR [(7 : Int), (4 : Int)] a6)).bind fun a7 => (repR [(26 : Int), (6 : Int), (4 : Int), (9 : Int), (9 : Int), (9 : Int), (9 : Int), (9 : Int), (8 : Int)] count_5).bind fun a8 => (catR a7 a8)).bind fun a9 => (S.f__law_draws_v2 p_script p_k a9)).bind fun (draws_10 : (List Int)) =>
  ((rngR 0 many_3).bind fun a79 => (forB (fun (s11 : (List (Str × Int))) (x20 : Int) => ((Rs.ok ((2 : Int) + ((3 : Int) * x20))).bind fun (at_21 : Int) =>
  ((((ixR draws_10 at_21).bind fun a22 => ((ixR draws_10 (at_21 + (1 : Int))).bind fun a23 => (S.f__law_word a22 x20 a23))).bind fun a25 => (((ixR draws_10 (at_21 + (2 : Int))).bind fun a24 => (ixR [(1 : Int), (1 : Int), (2 : Int), (2 : Int), (3 : Int), (4 : Int), (5 : Int), (6 : Int)] a24)).bind fun a26 => (.ok (a25, a26)))).bind fun a28 => (appR s11 a28).bind fun (stops_27 : (List (Str × Int))) =>
  (.ok stops_27)))) a79 []).bind fun (s11 : (List (Str × Int))) =>
  ((rngR 0 count_5).bind fun a78 => (forB (fun (s29 : (List (Str × Str × (List Str)))) (x37 : Int) => ((Rs.ok (((2 : Int) + ((3 : Int) * many_3)) + ((9 : Int) * x37))).bind fun (at_38 : Int) =>
  ((lcP s11 (fun x39 => true) fun x39 => x39.1).bind fun (left_40 : (List Str)) =>
  ((((ixR draws_10 (at_38 + (2 : Int))).bind fun a41 => (.ok ((2 : Int) + a41))).bind fun a42 => rngR 0 a42).bind fun a77 => (forB (fun (s43 : (List Str) × (List Str)) (x47 : Int) => (letK (fun (s48 : (List Str) × (List Str)) => ((.ok (s48.1, s48.2)) : Rs ((List Str) × (List Str)))) fun k51 =>
  (if (decide ((0 : Int) < (s43.1.length : Int))) then ((((ixR draws_10 ((at_38 + (3 : Int)) + x47)).bind fun a54 => .ok a54).bind fun a55 => (modR a55 (s43.1.length : Int))).bind fun a57 => ((appPopR s43.2 s43.1 a57).bind fun (p56 : (List Str) × (List Str)) =>
  (k51 (p56.2, p56.1))))
  else (k51 (s43.1, s43.2))))) a77 (left_40, [])).bind fun (s43 : (List Str) × (List Str)) =>
  (((ixR draws_10 at_38).bind fun a58 => ((ixR draws_10 (at_38 + (1 : Int))).bind fun a59 => (S.f__law_word a58 ((40 : Int) + x37) a59))).bind fun (name_60 : Str) =>
  (letK (fun (s63 : Str) => (((((ixR draws_10 (at_38 + (1 : Int))).bind fun a67 => ((ixR draws_10 at_38).bind fun a68 => (S.f__law_word a67 ((60 : Int) + x37) a68))).bind fun a69 => (.ok (s63, a69, s43.2))).bind fun a71 => (appR s29 a71).bind fun (lines_70 : (List (Str × Str × (List Str)))) =>
  (.ok lines_70)) : Rs ((List (Str × Str × (List Str)))))) fun k66 =>
  ((((ixR draws_10 (at_38 + (8 : Int))).bind fun a61 => (.ok (decide (a61 = (0 : Int))))).bind fun c62 => (if c62 then (Rs.ok (decide (x37 < (2 : Int)))) else .ok false)).bind fun c76 => if c76 then (((ixR s11 x37).bind fun a74 => (.ok a74.1)).bind fun (name_75 : Str) =>
  (k66 name_75))
  else (k66 name_60)))))))) a78 []).bind fun (s29 : (List (Str × Str × (List Str)))) =>
  (.ok (s11, s29, [], []))))))))
theorem h__law_city (p_script : (List Int)) (p_k : Int) : Q (eP4 (eT (eP2 PyData.str PyData.int)) (eT (eP3 PyData.str PyData.str (eT PyData.str))) (eT id) (eT id)) (f__law_city p_script p_k) (S.g__law_city [(scr p_script), (PyData.int p_k)]) :=
  r_fun rfl (show _ = [(some (.val (scr p_script))), (some (.val (PyData.int p_k))), none, none, none, none, none, none, none, none, none, none, none, none, none] from rfl) (show (mF (eP4 (eT (eP2 PyData.str PyData.int)) (eT (eP3 PyData.str PyData.str (eT PyData.str))) (eT id) (eT id))).H ((S.f__law_draws_v2 p_script p_k [(7 : Int), (4 : Int)]).bind fun (head_1 : (List Int)) =>
  (((ixR head_1 (0 : Int)).bind fun a2 => (.ok ((2 : Int) + a2))).bind fun (many_3 : Int) =>
  (((ixR head_1 (1 : Int)).bind fun a4 => (.ok ((1 : Int) + a4))).bind fun (count_5 : Int) =>
  (((((repR [(26 : Int), (6 : Int), (8 : Int)] many_3).bind fun a6 => (catR [(7 : Int), (4 : Int)] a6)).bind fun a7 => (repR [(26 : Int), (6 : Int), (4 : Int), (9 : Int), (9 : Int), (9 : Int), (9 : Int), (9 : Int), (8 : Int)] count_5).bind fun a8 => (catR a7 a8)).bind fun a9 => (S.f__law_draws_v2 p_script p_k a9)).bind fun (draws_10 : (List Int)) =>
  ((rngR 0 many_3).bind fun a79 => (forB (fun (s11 : (List (Str × Int))) (x20 : Int) => ((Rs.ok ((2 : Int) + ((3 : Int) * x20))).bind fun (at_21 : Int) =>
  ((((ixR draws_10 at_21).bind fun a22 => ((ixR draws_10 (at_21 + (1 : Int))).bind fun a23 => (S.f__law_word a22 x20 a23))).bind fun a25 => (((ixR draws_10 (at_21 + (2 : Int))).bind fun a24 => (ixR [(1 : Int), (1 : Int), (2 : Int), (2 : Int), (3 : Int), (4 : Int), (5 : Int), (6 : Int)] a24)).bind fun a26 => (.ok (a25, a26)))).bind fun a28 => (appR s11 a28).bind fun (stops_27 : (List (Str × Int))) =>
  (.ok stops_27)))) a79 []).bind fun (s11 : (List (Str × Int))) =>
  ((rngR 0 count_5).bind fun a78 => (forB (fun (s29 : (List (Str × Str × (List Str)))) (x37 : Int) => ((Rs.ok (((2 : Int) + ((3 : Int) * many_3)) + ((9 : Int) * x37))).bind fun (at_38 : Int) =>
  ((lcP s11 (fun x39 => true) fun x39 => x39.1).bind fun (left_40 : (List Str)) =>
  ((((ixR draws_10 (at_38 + (2 : Int))).bind fun a41 => (.ok ((2 : Int) + a41))).bind fun a42 => rngR 0 a42).bind fun a77 => (forB (fun (s43 : (List Str) × (List Str)) (x47 : Int) => (letK (fun (s48 : (List Str) × (List Str)) => ((.ok (s48.1, s48.2)) : Rs ((List Str) × (List Str)))) fun k51 =>
  (if (decide ((0 : Int) < (s43.1.length : Int))) then ((((ixR draws_10 ((at_38 + (3 : Int)) + x47)).bind fun a54 => .ok a54).bind fun a55 => (modR a55 (s43.1.length : Int))).bind fun a57 => ((appPopR s43.2 s43.1 a57).bind fun (p56 : (List Str) × (List Str)) =>
  (k51 (p56.2, p56.1))))
  else (k51 (s43.1, s43.2))))) a77 (left_40, [])).bind fun (s43 : (List Str) × (List Str)) =>
  (((ixR draws_10 at_38).bind fun a58 => ((ixR draws_10 (at_38 + (1 : Int))).bind fun a59 => (S.f__law_word a58 ((40 : Int) + x37) a59))).bind fun (name_60 : Str) =>
  (letK (fun (s63 : Str) => (((((ixR draws_10 (at_38 + (1 : Int))).bind fun a67 => ((ixR draws_10 at_38).bind fun a68 => (S.f__law_word a67 ((60 : Int) + x37) a68))).bind fun a69 => (.ok (s63, a69, s43.2))).bind fun a71 => (appR s29 a71).bind fun (lines_70 : (List (Str × Str × (List Str)))) =>
  (.ok lines_70)) : Rs ((List (Str × Str × (List Str)))))) fun k66 =>
  ((((ixR draws_10 (at_38 + (8 : Int))).bind fun a61 => (.ok (decide (a61 = (0 : Int))))).bind fun c62 => (if c62 then (Rs.ok (decide (x37 < (2 : Int)))) else .ok false)).bind fun c76 => if c76 then (((ixR s11 x37).bind fun a74 => (.ok a74.1)).bind fun (name_75 : Str) =>
  (k66 name_75))
  else (k66 name_60)))))))) a78 []).bind fun (s29 : (List (Str × Str × (List Str)))) =>
  (.ok (s11, s29, [], [])))))))) _ from (r_seq (r_setM trivial (q_call (q_callP (pv (scr p_script)) (q_callP (pv (PyData.int p_k)) (q_callP (p_mkL (v := ((eL PyData.int) [(7 : Int), (4 : Int)])) (p_cons (pc (.int 7)) (p_cons (pc (.int 4)) (p_nil lstK_ok)))) (q_callN (S.h__law_draws_v2 p_script p_k [(7 : Int), (4 : Int)])))))) fun head_1 =>
  (r_seq (r_setM trivial (q_b2PM (pc (.int 2)) (q_b2PP (pv ((eL PyData.int) head_1)) (pc (.int 0)) (q_ixL PyData.int _ _)) fun a2 => (qp (add_ii _ _))) fun many_3 =>
  (r_seq (r_setM trivial (q_b2PM (pc (.int 1)) (q_b2PP (pv ((eL PyData.int) head_1)) (pc (.int 1)) (q_ixL PyData.int _ _)) fun a4 => (qp (add_ii _ _))) fun count_5 =>
  (r_seq (r_setM trivial (q_call (q_callP (pv (scr p_script)) (q_callP (pv (PyData.int p_k)) (q_callM (q_b2MM (q_b2PM (p_mkL (v := ((eL PyData.int) [(7 : Int), (4 : Int)])) (p_cons (pc (.int 7)) (p_cons (pc (.int 4)) (p_nil lstK_ok)))) (q_b2PP (p_mkL (v := ((eL PyData.int) [(26 : Int), (6 : Int), (8 : Int)])) (p_cons (pc (.int 26)) (p_cons (pc (.int 6)) (p_cons (pc (.int 8)) (p_nil lstK_ok))))) (pv (PyData.int many_3)) (q_repL PyData.int _ _)) fun a6 => (q_catL PyData.int _ _)) (q_b2PP (p_mkL (v := ((eL PyData.int) [(26 : Int), (6 : Int), (4 : Int), (9 : Int), (9 : Int), (9 : Int), (9 : Int), (9 : Int), (8 : Int)])) (p_cons (pc (.int 26)) (p_cons (pc (.int 6)) (p_cons (pc (.int 4)) (p_cons (pc (.int 9)) (p_cons (pc (.int 9)) (p_cons (pc (.int 9)) (p_cons (pc (.int 9)) (p_cons (pc (.int 9)) (p_cons (pc (.int 8)) (p_nil lstK_ok))))))))))) (pv (PyData.int count_5)) (q_repL PyData.int _ _)) fun a7 a8 => (q_catL PyData.int _ _)) fun a9 => (q_callN (S.h__law_draws_v2 p_script p_k a9)))))) fun draws_10 =>
  (r_seq (r_setOP (p_mkL (v := ((eL (eP2 PyData.str PyData.int)) [])) (p_nil lstK_ok)) (r_seq (r_forBM (fun (s11 : (List (Str × Int))) ρ => ∃ (_ : Unit) (z12 : Option PyData) (z13 : Option PyData) (z14 : Option SV) (z15 : Option SV) (z16 : Option PyData) (z17 : Option SV) (z18 : Option PyData) (z19 : Option PyData), ρ = [(some (.val (scr p_script))), (some (.val (PyData.int p_k))), (some (.val ((eL PyData.int) head_1))), (some (.val (PyData.int many_3))), (some (.val (PyData.int count_5))), (some (.val ((eL PyData.int) draws_10))), (some (.own ((eL (eP2 PyData.str PyData.int)) s11))), (nv z12), (nv z13), z14, z15, (nv z16), z17, (nv z18), (nv z19)]) (s0 := []) trivial (q_range1 (pv (PyData.int many_3))) ⟨(), none, none, _, _, none, _, none, none, rfl⟩
  (fun s11 x20 ρ hr => by
  obtain ⟨_, z12, z13, z14, z15, z16, z17, z18, z19, rfl⟩ := hr
  exact ⟨_, rfl, (r_seq (r_setM trivial (qp (p_b2 (pc (.int 2)) (p_b2 (pc (.int 3)) (pv (PyData.int x20)) (mul_cl _ _)) (add_ii _ _))) fun at_21 =>
  (r_appM (xs := s11) trivial rfl (q_mkT (e := (eP2 PyData.str PyData.int)) (q_callM (q_call (q_callM (q_b2PP (pv ((eL PyData.int) draws_10)) (pv (PyData.int at_21)) (q_ixL PyData.int _ _)) fun a22 => (q_callP (pv (PyData.int x20)) (q_callM (q_b2PP (pv ((eL PyData.int) draws_10)) (p_b2 (pv (PyData.int at_21)) (pc (.int 1)) (add_ii _ _)) (q_ixL PyData.int _ _)) fun a23 => (q_callN (S.h__law_word a22 x20 a23)))))) fun a25 => (q_callM (q_b2PM (p_mkL (v := ((eL PyData.int) [(1 : Int), (1 : Int), (2 : Int), (2 : Int), (3 : Int), (4 : Int), (5 : Int), (6 : Int)])) (p_cons (pc (.int 1)) (p_cons (pc (.int 1)) (p_cons (pc (.int 2)) (p_cons (pc (.int 2)) (p_cons (pc (.int 3)) (p_cons (pc (.int 4)) (p_cons (pc (.int 5)) (p_cons (pc (.int 6)) (p_nil lstK_ok)))))))))) (q_b2PP (pv ((eL PyData.int) draws_10)) (p_b2 (pv (PyData.int at_21)) (pc (.int 2)) (add_ii _ _)) (q_ixL PyData.int _ _)) fun a24 => (q_ixL PyData.int _ _)) fun a26 => (q_callN (qp tupK_ok))))) fun stops_27 =>
  (r_endB (s := stops_27) ⟨(), (some (PyData.int x20)), (some (PyData.int at_21)), _, _, z16, _, z18, z19, rfl⟩))))⟩)
  (fun s11 ρ hr => by
  obtain ⟨_, z12, z13, z14, z15, z16, z17, z18, z19, rfl⟩ := hr
  exact (r_seq (r_setOP (p_mkL (v := ((eL (eP3 PyData.str PyData.str (eT PyData.str))) [])) (p_nil lstK_ok)) (r_seq (r_forBM (fun (s29 : (List (Str × Str × (List Str)))) ρ => ∃ (_ : Unit) (z30 : Option PyData) (z31 : Option PyData) (z32 : Option SV) (z33 : Option PyData) (z34 : Option SV) (z35 : Option PyData) (z36 : Option PyData), ρ = [(some (.val (scr p_script))), (some (.val (PyData.int p_k))), (some (.val ((eL PyData.int) head_1))), (some (.val (PyData.int many_3))), (some (.val (PyData.int count_5))), (some (.val ((eL PyData.int) draws_10))), (some (.own ((eL (eP2 PyData.str PyData.int)) s11))), (nv z30), (nv z31), (some (.own ((eL (eP3 PyData.str PyData.str (eT PyData.str))) s29))), z32, (nv z33), z34, (nv z35), (nv z36)]) (s0 := []) trivial (q_range1 (pv (PyData.int count_5))) ⟨(), z12, z13, _, z16, _, z18, z19, rfl⟩
  (fun s29 x37 ρ hr => by
  obtain ⟨_, z30, z31, z32, z33, z34, z35, z36, rfl⟩ := hr
  exact ⟨_, rfl, (r_seq (r_setM trivial (qp (p_b2 (p_b2 (pc (.int 2)) (p_b2 (pc (.int 3)) (pv (PyData.int many_3)) (mul_cl _ _)) (add_ii _ _)) (p_b2 (pc (.int 9)) (pv (PyData.int x37)) (mul_cl _ _)) (add_ii _ _))) fun at_38 =>
  (r_seq (r_setOM trivial (q_lcP PyData.str (eP2 PyData.str PyData.int) (p_iOf (bv ((eL (eP2 PyData.str PyData.int)) s11)) (any_L (eP2 PyData.str PyData.int) _)) (no_cons (no_nv (w := z33) rfl) no_nil) (show wipeE _ _ = [(some (.val (scr p_script))), (some (.val (PyData.int p_k))), (some (.val ((eL PyData.int) head_1))), (some (.val (PyData.int many_3))), (some (.val (PyData.int count_5))), (some (.val ((eL PyData.int) draws_10))), (some (.own ((eL (eP2 PyData.str PyData.int)) s11))), (some (.val (PyData.int x37))), (some (.val (PyData.int at_38))), (some (.own ((eL (eP3 PyData.str PyData.str (eT PyData.str))) s29))), z32, none, z34, (nv z35), (nv z36)] from rfl) (fun x39 => ⟨_, rfl, rfl, (p_b2 (pv ((eP2 PyData.str PyData.int) x39)) (pc (.int 0)) (ix2_0 PyData.str PyData.int _))⟩)) fun left_40 =>
  (r_seq (r_setOP (p_mkL (v := ((eL PyData.str) [])) (p_nil lstK_ok)) (r_seq (r_forBM (fun (s43 : (List Str) × (List Str)) ρ => ∃ (_ : Unit) (z44 : Option PyData) (z45 : Option PyData) (z46 : Option PyData), ρ = [(some (.val (scr p_script))), (some (.val (PyData.int p_k))), (some (.val ((eL PyData.int) head_1))), (some (.val (PyData.int many_3))), (some (.val (PyData.int count_5))), (some (.val ((eL PyData.int) draws_10))), (some (.own ((eL (eP2 PyData.str PyData.int)) s11))), (some (.val (PyData.int x37))), (some (.val (PyData.int at_38))), (some (.own ((eL (eP3 PyData.str PyData.str (eT PyData.str))) s29))), (some (.own ((eL PyData.str) s43.1))), (nv z44), (some (.own ((eL PyData.str) s43.2))), (nv z45), (nv z46)]) (s0 := (left_40, [])) trivial (q_range1M (q_b2PM (pc (.int 2)) (q_b2PP (pv ((eL PyData.int) draws_10)) (p_b2 (pv (PyData.int at_38)) (pc (.int 2)) (add_ii _ _)) (q_ixL PyData.int _ _)) fun a41 => (qp (add_ii _ _)))) ⟨(), z33, z35, z36, rfl⟩
  (fun s43 x47 ρ hr => by
  obtain ⟨_, z44, z45, z46, rfl⟩ := hr
  exact ⟨_, rfl, (r_joinK (fun (s48 : (List Str) × (List Str)) ρ => ∃ (_ : Unit) (z49 : Option PyData) (z50 : Option PyData), ρ = [(some (.val (scr p_script))), (some (.val (PyData.int p_k))), (some (.val ((eL PyData.int) head_1))), (some (.val (PyData.int many_3))), (some (.val (PyData.int count_5))), (some (.val ((eL PyData.int) draws_10))), (some (.own ((eL (eP2 PyData.str PyData.int)) s11))), (some (.val (PyData.int x37))), (some (.val (PyData.int at_38))), (some (.own ((eL (eP3 PyData.str PyData.str (eT PyData.str))) s29))), (some (.own ((eL PyData.str) s48.1))), (nv z49), (some (.own ((eL PyData.str) s48.2))), (some (.val (PyData.int x47))), (nv z50)]) (fun s48 ρ hr => by
  obtain ⟨_, z49, z50, rfl⟩ := hr
  exact (r_endB (s := (s48.1, s48.2)) ⟨(), z49, (some (PyData.int x47)), z50, rfl⟩)) fun K53 hk52 =>
  (r_if (p_tst (p_b2 (p_b1 (bv ((eL PyData.str) s43.1)) (len_L PyData.str _)) (pc (.int 0)) (gt_ii _ _)))
  (r_appPopM (ys := s43.2) (xs := s43.1) trivial rfl rfl (q_b2MP (q_b1M (q_b2PP (pv ((eL PyData.int) draws_10)) (p_b2 (p_b2 (pv (PyData.int at_38)) (pc (.int 3)) (add_ii _ _)) (pv (PyData.int x47)) (add_ii _ _)) (q_ixL PyData.int _ _)) fun a54 => (qp (int_i _))) (p_b1 (bv ((eL PyData.str) s43.1)) (len_L PyData.str _)) fun a55 => (q_mod _ _)) fun p56 =>
  (hk52 (p56.2, p56.1) _ ⟨(), z44, z46, rfl⟩))
  (r_nil (hk52 (s43.1, s43.2) _ ⟨(), z44, z46, rfl⟩))))⟩)
  (fun s43 ρ hr => by
  obtain ⟨_, z44, z45, z46, rfl⟩ := hr
  exact (r_seq (r_setM trivial (q_call (q_callM (q_b2PP (pv ((eL PyData.int) draws_10)) (pv (PyData.int at_38)) (q_ixL PyData.int _ _)) fun a58 => (q_callP (p_b2 (pc (.int 40)) (pv (PyData.int x37)) (add_ii _ _)) (q_callM (q_b2PP (pv ((eL PyData.int) draws_10)) (p_b2 (pv (PyData.int at_38)) (pc (.int 1)) (add_ii _ _)) (q_ixL PyData.int _ _)) fun a59 => (q_callN (S.h__law_word a58 ((40 : Int) + x37) a59)))))) fun name_60 =>
  (r_seq (r_joinK (fun (s63 : Str) ρ => ∃ (_ : Unit) (z64 : Option PyData) (z65 : Option PyData), ρ = [(some (.val (scr p_script))), (some (.val (PyData.int p_k))), (some (.val ((eL PyData.int) head_1))), (some (.val (PyData.int many_3))), (some (.val (PyData.int count_5))), (some (.val ((eL PyData.int) draws_10))), (some (.own ((eL (eP2 PyData.str PyData.int)) s11))), (some (.val (PyData.int x37))), (some (.val (PyData.int at_38))), (some (.own ((eL (eP3 PyData.str PyData.str (eT PyData.str))) s29))), (some (.own ((eL PyData.str) s43.1))), (nv z64), (some (.own ((eL PyData.str) s43.2))), (nv z65), (some (.val (PyData.str s63)))]) (fun s63 ρ hr => by
  obtain ⟨_, z64, z65, rfl⟩ := hr
  exact (r_appM (xs := s29) trivial rfl (q_mkT (e := (eP3 PyData.str PyData.str (eT PyData.str))) (q_callP (pv (PyData.str s63)) (q_callM (q_call (q_callM (q_b2PP (pv ((eL PyData.int) draws_10)) (p_b2 (pv (PyData.int at_38)) (pc (.int 1)) (add_ii _ _)) (q_ixL PyData.int _ _)) fun a67 => (q_callP (p_b2 (pc (.int 60)) (pv (PyData.int x37)) (add_ii _ _)) (q_callM (q_b2PP (pv ((eL PyData.int) draws_10)) (pv (PyData.int at_38)) (q_ixL PyData.int _ _)) fun a68 => (q_callN (S.h__law_word a67 ((60 : Int) + x37) a68)))))) fun a69 => (q_callP (p_b1 (bv ((eL PyData.str) s43.2)) (tuple_L PyData.str _)) (q_callN (qp tupK_ok)))))) fun lines_70 =>
  (r_endB (s := lines_70) ⟨(), (some (PyData.int x37)), (some (PyData.int at_38)), _, z64, _, z65, (some (PyData.str s63)), rfl⟩))) fun K73 hk72 =>
  (r_ifM trivial (q_andD (q_tst (q_b2MP (q_b2PP (pv ((eL PyData.int) draws_10)) (p_b2 (pv (PyData.int at_38)) (pc (.int 8)) (add_ii _ _)) (q_ixL PyData.int _ _)) (pc (.int 0)) fun a61 => (qp (eq_ii _ _)))) (qp (e := id) (p_tst (p_b2 (pv (PyData.int x37)) (pc (.int 2)) (lt_ii _ _)))))
  (r_setM trivial (q_b2MP (q_b2PP (bv ((eL (eP2 PyData.str PyData.int)) s11)) (pv (PyData.int x37)) (q_ixL (eP2 PyData.str PyData.int) _ _)) (pc (.int 0)) fun a74 => (qp (ix2_0 PyData.str PyData.int _))) fun name_75 =>
  (hk72 name_75 _ ⟨(), z44, z45, rfl⟩))
  (r_nil (hk72 name_60 _ ⟨(), z44, z45, rfl⟩))))))))))))))))⟩)
  (fun s29 ρ hr => by
  obtain ⟨_, z30, z31, z32, z33, z34, z35, z36, rfl⟩ := hr
  exact (r_retF (p_mkT (v := ((eP4 (eT (eP2 PyData.str PyData.int)) (eT (eP3 PyData.str PyData.str (eT PyData.str))) (eT id) (eT id)) (s11, s29, [], []))) (p_cons (p_b1 (bv ((eL (eP2 PyData.str PyData.int)) s11)) (tuple_L (eP2 PyData.str PyData.int) _)) (p_cons (p_b1 (bv ((eL (eP3 PyData.str PyData.str (eT PyData.str))) s29)) (tuple_L (eP3 PyData.str PyData.str (eT PyData.str)) _)) (p_cons (p_mkT (v := ((eT id) [])) (p_nil tupK_ok)) (p_cons (p_mkT (v := ((eT id) [])) (p_nil tupK_ok)) (p_nil tupK_ok))))))))))))))))))))))))))
def l__law_runs_1 : En → SRes :=
  (sSeq (sSet 9 (b2 oAdd (dC (.int 2)) (b2 oMul (dC (.int 4)) (dVar 8))))
  (sSeq (sSet 10 (b2 oIx (dVar 2) (b2 oMod (b1 oInt (b2 oIx (dVar 5) (dVar 9))) (b1 oLen (dVar 2)))))
  (sSeq (sApp 6 (mkT (aCons (b2 oIx (dVar 10) (dC (.int 0))) (aCons (b2 oIx (mkL (aCons (dC (.str "out")) (aCons (dC (.str "home")) aNil))) (b2 oIx (dVar 5) (b2 oAdd (dVar 9) (dC (.int 1))))) (aCons (b2 oIx (dVar 5) (b2 oAdd (dVar 9) (dC (.int 2)))) (aCons (b2 oAdd (dC (.int 1)) (b2 oIx (dVar 5) (b2 oAdd (dVar 9) (dC (.int 3))))) aNil))))))
  (sSet 7 (b2 oMax2 (dVar 7) (b2 oAdd (b2 oIx (dVar 5) (b2 oAdd (dVar 9) (dC (.int 2)))) (b2 oMul (b2 oAdd (dC (.int 1)) (b2 oIx (dVar 5) (b2 oAdd (dVar 9) (dC (.int 3))))) (b2 oSub (b1 oLen (b2 oIx (dVar 10) (dC (.int 2)))) (dC (.int 1))))))))))
def e__law_runs_1 : En → Rs PyData :=
  (mkT (aCons (b2 oIx (dVar 12) (dC (.int 0))) (aCons (b2 oIx (dVar 12) (dC (.int 1))) (aCons (b2 oAdd (b2 oIx (dVar 12) (dC (.int 2))) (dVar 11)) (aCons (b2 oIx (dVar 12) (dC (.int 3))) aNil)))))
def b__law_runs : En → SRes :=
  (sSeq (sSet 4 (b2 oIx (dCall S.g__law_draws_v2 (aCons (dVar 0) (aCons (dVar 1) (aCons (mkL (aCons (b2 oAdd (dVar 3) (dC (.int 1))) aNil)) aNil)))) (dC (.int 0))))
  (sSeq (sSet 5 (dCall S.g__law_draws_v2 (aCons (dVar 0) (aCons (dVar 1) (aCons (b2 oAdd (mkL (aCons (b2 oAdd (dVar 3) (dC (.int 1))) (aCons (dC (.int 6)) aNil))) (b2 oMul (mkL (aCons (dC (.int 12)) (aCons (dC (.int 2)) (aCons (dC (.int 26)) (aCons (dC (.int 5)) aNil))))) (dVar 4))) aNil)))))
  (sSeq (sSetO 6 (mkL aNil))
  (sSeq (sSet 7 (dC (.int 0)))
  (sSeq (sFor (iRange1 (dVar 4)) (τName 8) l__law_runs_1)
  (sSeq (sSet 11 (dC (.int 0)))
  (sSeq (sIf (tst (b2 oEq (b2 oIx (dVar 5) (dC (.int 1))) (dC (.int 0))))
  (sSet 11 (b2 oSub (dC (.int 9999)) (dVar 7)))
  sNil)
  (sRet (mkT (aCons (b1 oTuple (lcD [12] (iOf oAny (bVar 6)) (τName 12) tY e__law_runs_1)) (aCons (dVar 11) aNil)))))))))))
def g__law_runs : List PyData → Rs PyData := runF 13 4 b__law_runs
def f__law_runs (p_script : (List Int)) (p_k : Int) (p_lines : (List (Str × Str × (List Str)))) (p_limit : Int) : Rs ((List (Str × Str × Int × Int)) × Int) :=
  (((S.f__law_draws_v2 p_script p_k [(p_limit + (1 : Int))]).bind fun a1 => (ixR a1 (0 : Int))).bind fun (many_2 : Int) =>
  ((((repR [(12 : Int), (2 : Int), (26 : Int), (5 : Int)] many_2).bind fun a3 => (catR [(p_limit + (1 : Int)), (6 : Int)] a3)).bind fun a4 => (S.f__law_draws_v2 p_script p_k a4)).bind fun (draws_5 : (List Int)) =>
  ((rngR 0 many_2).bind fun a45 => (forB (fun (s6 : (List (Str × Str × Int × Int)) × Int) (x12 : Int) => ((Rs.ok ((2 : Int) + ((4 : Int) * x12))).bind fun (at_13 : Int) =>
  (((((ixR draws_5 at_13).bind fun a14 => .ok a14).bind fun a15 => (modR a15 (p_lines.length : Int))).bind fun a16 => (ixR p_lines a16)).bind fun (line_17 : (Str × Str × (List Str))) =>
  ((((ixR draws_5 (at_13 + (1 : Int))).bind fun a18 => (ixR [("out" : Str), ("home" : Str)] a18)).bind fun a20 => ((ixR draws_5 (at_13 + (2 : Int))).bind fun a21 => (((ixR draws_5 (at_13 + (3 : Int))).bind fun a19 => (.ok ((1 : Int) + a19))).bind fun a22 => (.ok (line_17.1, a20, a21, a22))))).bind fun a30 => (appR s6.1 a30).bind fun (runs_23 : (List (Str × Str × Int × Int))) =>
  ((((ixR draws_5 (at_13 + (2 : Int))).bind fun a26 => (((ixR draws_5 (at_13 + (3 : Int))).bind fun a24 => (.ok ((1 : Int) + a24))).bind fun a25 => (mulR a25 ((line_17.2.2.length : Int) - (1 : Int)))).bind fun a27 => (.ok (a26 + a27))).bind fun a28 => (.ok (max2 s6.2 a28))).bind fun (last_29 : Int) =>
  (.ok (runs_23, last_29))))))) a45 ([], (0 : Int))).bind fun (s6 : (List (Str × Str × Int × Int)) × Int) =>
  (letK (fun (s32 : Int) => ((((lcP s6.1 (fun x38 => true) fun x38 => (x38.1, x38.2.1, (x38.2.2.1 + s32), x38.2.2.2)).bind fun a39 => .ok a39).bind fun a40 => (.ok (a40, s32))) : Rs ((List (Str × Str × Int × Int)) × Int))) fun k37 =>
  (((ixR draws_5 (1 : Int)).bind fun a31 => (.ok (decide (a31 = (0 : Int))))).bind fun c44 => if c44 then ((Rs.ok ((9999 : Int) - s6.2)).bind fun (shift_43 : Int) =>
  (k37 shift_43))
  else (k37 (0 : Int)))))))
theorem h__law_runs (p_script : (List Int)) (p_k : Int) (p_lines : (List (Str × Str × (List Str)))) (p_limit : Int) : Q (eP2 (eT (eP4 PyData.str PyData.str PyData.int PyData.int)) PyData.int) (f__law_runs p_script p_k p_lines p_limit) (S.g__law_runs [(scr p_script), (PyData.int p_k), ((eT (eP3 PyData.str PyData.str (eT PyData.str))) p_lines), (PyData.int p_limit)]) :=
  r_fun rfl (show _ = [(some (.val (scr p_script))), (some (.val (PyData.int p_k))), (some (.val ((eT (eP3 PyData.str PyData.str (eT PyData.str))) p_lines))), (some (.val (PyData.int p_limit))), none, none, none, none, none, none, none, none, none] from rfl) (show (mF (eP2 (eT (eP4 PyData.str PyData.str PyData.int PyData.int)) PyData.int)).H (((S.f__law_draws_v2 p_script p_k [(p_limit + (1 : Int))]).bind fun a1 => (ixR a1 (0 : Int))).bind fun (many_2 : Int) =>
  ((((repR [(12 : Int), (2 : Int), (26 : Int), (5 : Int)] many_2).bind fun a3 => (catR [(p_limit + (1 : Int)), (6 : Int)] a3)).bind fun a4 => (S.f__law_draws_v2 p_script p_k a4)).bind fun (draws_5 : (List Int)) =>
  ((rngR 0 many_2).bind fun a45 => (forB (fun (s6 : (List (Str × Str × Int × Int)) × Int) (x12 : Int) => ((Rs.ok ((2 : Int) + ((4 : Int) * x12))).bind fun (at_13 : Int) =>
  (((((ixR draws_5 at_13).bind fun a14 => .ok a14).bind fun a15 => (modR a15 (p_lines.length : Int))).bind fun a16 => (ixR p_lines a16)).bind fun (line_17 : (Str × Str × (List Str))) =>
  ((((ixR draws_5 (at_13 + (1 : Int))).bind fun a18 => (ixR [("out" : Str), ("home" : Str)] a18)).bind fun a20 => ((ixR draws_5 (at_13 + (2 : Int))).bind fun a21 => (((ixR draws_5 (at_13 + (3 : Int))).bind fun a19 => (.ok ((1 : Int) + a19))).bind fun a22 => (.ok (line_17.1, a20, a21, a22))))).bind fun a30 => (appR s6.1 a30).bind fun (runs_23 : (List (Str × Str × Int × Int))) =>
  ((((ixR draws_5 (at_13 + (2 : Int))).bind fun a26 => (((ixR draws_5 (at_13 + (3 : Int))).bind fun a24 => (.ok ((1 : Int) + a24))).bind fun a25 => (mulR a25 ((line_17.2.2.length : Int) - (1 : Int)))).bind fun a27 => (.ok (a26 + a27))).bind fun a28 => (.ok (max2 s6.2 a28))).bind fun (last_29 : Int) =>
  (.ok (runs_23, last_29))))))) a45 ([], (0 : Int))).bind fun (s6 : (List (Str × Str × Int × Int)) × Int) =>
  (letK (fun (s32 : Int) => ((((lcP s6.1 (fun x38 => true) fun x38 => (x38.1, x38.2.1, (x38.2.2.1 + s32), x38.2.2.2)).bind fun a39 => .ok a39).bind fun a40 => (.ok (a40, s32))) : Rs ((List (Str × Str × Int × Int)) × Int))) fun k37 =>
  (((ixR draws_5 (1 : Int)).bind fun a31 => (.ok (decide (a31 = (0 : Int))))).bind fun c44 => if c44 then ((Rs.ok ((9999 : Int) - s6.2)).bind fun (shift_43 : Int) =>
  (k37 shift_43))
  else (k37 (0 : Int))))))) _ from (r_seq (r_setM trivial (q_b2MP (q_call (q_callP (pv (scr p_script)) (q_callP (pv (PyData.int p_k)) (q_callP (p_mkL (v := ((eL PyData.int) [(p_limit + (1 : Int))])) (p_cons (p_b2 (pv (PyData.int p_limit)) (pc (.int 1)) (add_ii _ _)) (p_nil lstK_ok))) (q_callN (S.h__law_draws_v2 p_script p_k [(p_limit + (1 : Int))])))))) (pc (.int 0)) fun a1 => (q_ixL PyData.int _ _)) fun many_2 =>
  (r_seq (r_setM trivial (q_call (q_callP (pv (scr p_script)) (q_callP (pv (PyData.int p_k)) (q_callM (q_b2PM (p_mkL (v := ((eL PyData.int) [(p_limit + (1 : Int)), (6 : Int)])) (p_cons (p_b2 (pv (PyData.int p_limit)) (pc (.int 1)) (add_ii _ _)) (p_cons (pc (.int 6)) (p_nil lstK_ok)))) (q_b2PP (p_mkL (v := ((eL PyData.int) [(12 : Int), (2 : Int), (26 : Int), (5 : Int)])) (p_cons (pc (.int 12)) (p_cons (pc (.int 2)) (p_cons (pc (.int 26)) (p_cons (pc (.int 5)) (p_nil lstK_ok)))))) (pv (PyData.int many_2)) (q_repL PyData.int _ _)) fun a3 => (q_catL PyData.int _ _)) fun a4 => (q_callN (S.h__law_draws_v2 p_script p_k a4)))))) fun draws_5 =>
  (r_seq (r_setOP (p_mkL (v := ((eL (eP4 PyData.str PyData.str PyData.int PyData.int)) [])) (p_nil lstK_ok)) (r_seq (r_setP (pc (.int 0)) (r_seq (r_forBM (fun (s6 : (List (Str × Str × Int × Int)) × Int) ρ => ∃ (_ : Unit) (z7 : Option PyData) (z8 : Option PyData) (z9 : Option PyData) (z10 : Option PyData) (z11 : Option PyData), ρ = [(some (.val (scr p_script))), (some (.val (PyData.int p_k))), (some (.val ((eT (eP3 PyData.str PyData.str (eT PyData.str))) p_lines))), (some (.val (PyData.int p_limit))), (some (.val (PyData.int many_2))), (some (.val ((eL PyData.int) draws_5))), (some (.own ((eL (eP4 PyData.str PyData.str PyData.int PyData.int)) s6.1))), (some (.val (PyData.int s6.2))), (nv z7), (nv z8), (nv z9), (nv z10), (nv z11)]) (s0 := ([], (0 : Int))) trivial (q_range1 (pv (PyData.int many_2))) ⟨(), none, none, none, none, none, rfl⟩
  (fun s6 x12 ρ hr => by
  obtain ⟨_, z7, z8, z9, z10, z11, rfl⟩ := hr
  exact ⟨_, rfl, (r_seq (r_setM trivial (qp (p_b2 (pc (.int 2)) (p_b2 (pc (.int 4)) (pv (PyData.int x12)) (mul_cl _ _)) (add_ii _ _))) fun at_13 =>
  (r_seq (r_setM trivial (q_b2PM (pv ((eT (eP3 PyData.str PyData.str (eT PyData.str))) p_lines)) (q_b2MP (q_b1M (q_b2PP (pv ((eL PyData.int) draws_5)) (pv (PyData.int at_13)) (q_ixL PyData.int _ _)) fun a14 => (qp (int_i _))) (p_b1 (pv ((eT (eP3 PyData.str PyData.str (eT PyData.str))) p_lines)) (len_T (eP3 PyData.str PyData.str (eT PyData.str)) _)) fun a15 => (q_mod _ _)) fun a16 => (q_ixT (eP3 PyData.str PyData.str (eT PyData.str)) _ _)) fun line_17 =>
  (r_seq (r_appM (xs := s6.1) trivial rfl (q_mkT (e := (eP4 PyData.str PyData.str PyData.int PyData.int)) (q_callP (p_b2 (pv ((eP3 PyData.str PyData.str (eT PyData.str)) line_17)) (pc (.int 0)) (ix3_0 PyData.str PyData.str (eT PyData.str) _)) (q_callM (q_b2PM (p_mkL (v := ((eL PyData.str) [("out" : Str), ("home" : Str)])) (p_cons (pc (.str "out")) (p_cons (pc (.str "home")) (p_nil lstK_ok)))) (q_b2PP (pv ((eL PyData.int) draws_5)) (p_b2 (pv (PyData.int at_13)) (pc (.int 1)) (add_ii _ _)) (q_ixL PyData.int _ _)) fun a18 => (q_ixL PyData.str _ _)) fun a20 => (q_callM (q_b2PP (pv ((eL PyData.int) draws_5)) (p_b2 (pv (PyData.int at_13)) (pc (.int 2)) (add_ii _ _)) (q_ixL PyData.int _ _)) fun a21 => (q_callM (q_b2PM (pc (.int 1)) (q_b2PP (pv ((eL PyData.int) draws_5)) (p_b2 (pv (PyData.int at_13)) (pc (.int 3)) (add_ii _ _)) (q_ixL PyData.int _ _)) fun a19 => (qp (add_ii _ _))) fun a22 => (q_callN (qp tupK_ok))))))) fun runs_23 =>
  (r_setM trivial (q_b2PM (pv (PyData.int s6.2)) (q_b2MM (q_b2PP (pv ((eL PyData.int) draws_5)) (p_b2 (pv (PyData.int at_13)) (pc (.int 2)) (add_ii _ _)) (q_ixL PyData.int _ _)) (q_b2MP (q_b2PM (pc (.int 1)) (q_b2PP (pv ((eL PyData.int) draws_5)) (p_b2 (pv (PyData.int at_13)) (pc (.int 3)) (add_ii _ _)) (q_ixL PyData.int _ _)) fun a24 => (qp (add_ii _ _))) (p_b2 (p_b1 (p_b2 (pv ((eP3 PyData.str PyData.str (eT PyData.str)) line_17)) (pc (.int 2)) (ix3_2 PyData.str PyData.str (eT PyData.str) _)) (len_T PyData.str _)) (pc (.int 1)) (sub_ii _ _)) fun a25 => (q_mul _ _)) fun a26 a27 => (qp (add_ii _ _))) fun a28 => (qp (max2_ii _ _))) fun last_29 =>
  (r_endB (s := (runs_23, last_29)) ⟨(), (some (PyData.int x12)), (some (PyData.int at_13)), (some ((eP3 PyData.str PyData.str (eT PyData.str)) line_17)), z10, z11, rfl⟩))))))))⟩)
  (fun s6 ρ hr => by
  obtain ⟨_, z7, z8, z9, z10, z11, rfl⟩ := hr
  exact (r_seq (r_setP (pc (.int 0)) (r_seq (r_joinK (fun (s32 : Int) ρ => ∃ (_ : Unit) (z33 : Option PyData) (z34 : Option PyData) (z35 : Option PyData) (z36 : Option PyData), ρ = [(some (.val (scr p_script))), (some (.val (PyData.int p_k))), (some (.val ((eT (eP3 PyData.str PyData.str (eT PyData.str))) p_lines))), (some (.val (PyData.int p_limit))), (some (.val (PyData.int many_2))), (some (.val ((eL PyData.int) draws_5))), (some (.own ((eL (eP4 PyData.str PyData.str PyData.int PyData.int)) s6.1))), (some (.val (PyData.int s6.2))), (nv z33), (nv z34), (nv z35), (some (.val (PyData.int s32))), (nv z36)]) (fun s32 ρ hr => by
  obtain ⟨_, z33, z34, z35, z36, rfl⟩ := hr
  exact (r_retFM (q_mkT (e := (eP2 (eT (eP4 PyData.str PyData.str PyData.int PyData.int)) PyData.int)) (q_callM (q_b1M (q_lcP (eP4 PyData.str PyData.str PyData.int PyData.int) (eP4 PyData.str PyData.str PyData.int PyData.int) (p_iOf (bv ((eL (eP4 PyData.str PyData.str PyData.int PyData.int)) s6.1)) (any_L (eP4 PyData.str PyData.str PyData.int PyData.int) _)) (no_cons (no_nv (w := z36) rfl) no_nil) (show wipeE _ _ = [(some (.val (scr p_script))), (some (.val (PyData.int p_k))), (some (.val ((eT (eP3 PyData.str PyData.str (eT PyData.str))) p_lines))), (some (.val (PyData.int p_limit))), (some (.val (PyData.int many_2))), (some (.val ((eL PyData.int) draws_5))), (some (.own ((eL (eP4 PyData.str PyData.str PyData.int PyData.int)) s6.1))), (some (.val (PyData.int s6.2))), (nv z33), (nv z34), (nv z35), (some (.val (PyData.int s32))), none] from rfl) (fun x38 => ⟨_, rfl, rfl, (p_mkT (v := ((eP4 PyData.str PyData.str PyData.int PyData.int) (x38.1, x38.2.1, (x38.2.2.1 + s32), x38.2.2.2))) (p_cons (p_b2 (pv ((eP4 PyData.str PyData.str PyData.int PyData.int) x38)) (pc (.int 0)) (ix4_0 PyData.str PyData.str PyData.int PyData.int _)) (p_cons (p_b2 (pv ((eP4 PyData.str PyData.str PyData.int PyData.int) x38)) (pc (.int 1)) (ix4_1 PyData.str PyData.str PyData.int PyData.int _)) (p_cons (p_b2 (p_b2 (pv ((eP4 PyData.str PyData.str PyData.int PyData.int) x38)) (pc (.int 2)) (ix4_2 PyData.str PyData.str PyData.int PyData.int _)) (pv (PyData.int s32)) (add_ii _ _)) (p_cons (p_b2 (pv ((eP4 PyData.str PyData.str PyData.int PyData.int) x38)) (pc (.int 3)) (ix4_3 PyData.str PyData.str PyData.int PyData.int _)) (p_nil tupK_ok))))))⟩)) fun a39 => (qp (tuple_L (eP4 PyData.str PyData.str PyData.int PyData.int) _))) fun a40 => (q_callP (pv (PyData.int s32)) (q_callN (qp tupK_ok))))))) fun K42 hk41 =>
  (r_ifM trivial (q_tst (q_b2MP (q_b2PP (pv ((eL PyData.int) draws_5)) (pc (.int 1)) (q_ixL PyData.int _ _)) (pc (.int 0)) fun a31 => (qp (eq_ii _ _))))
  (r_setM trivial (qp (p_b2 (pc (.int 9999)) (pv (PyData.int s6.2)) (sub_ii _ _))) fun shift_43 =>
  (hk41 shift_43 _ ⟨(), z7, z8, z9, z11, rfl⟩))
  (r_nil (hk41 (0 : Int) _ ⟨(), z7, z8, z9, z11, rfl⟩)))))))))))))))))))
def b_check_end : En → SRes :=
  (sIf (tst (b2 oGt (b2 oIx (b2 oIx (dCall S.g_visits_of (aCons (dVar 0) (aCons (dVar 1) aNil))) (b1 oNeg (dC (.int 1)))) (dC (.int 1))) (dC (.int 9999))))
  (sRaise "TooMany" ["limit"] (aCons (dC (.int 9999)) aNil))
  sNil)
def g_check_end : List PyData → Rs PyData := runF 2 2 b_check_end
def f_check_end (p_city : PyData) (p_run : (Str × Str × Int × Int)) : Rs Unit :=
  (((((S.f_visits_of p_city p_run).bind fun a1 => (ixR a1 (-(1 : Int)))).bind fun a2 => (.ok a2.2)).bind fun a3 => (.ok (decide ((9999 : Int) < a3)))).bind fun c4 => if c4 then (.ex (exnOf "TooMany" ["limit"] [(PyData.int (9999 : Int))]))
  else (.ok ()))
theorem h_check_end (p_city : PyData) (p_run : (Str × Str × Int × Int)) : Q eN (f_check_end p_city p_run) (S.g_check_end [p_city, ((eP4 PyData.str PyData.str PyData.int PyData.int) p_run)]) :=
  r_fun rfl (show _ = [(some (.val p_city)), (some (.val ((eP4 PyData.str PyData.str PyData.int PyData.int) p_run)))] from rfl) (show (mF eN).H (((((S.f_visits_of p_city p_run).bind fun a1 => (ixR a1 (-(1 : Int)))).bind fun a2 => (.ok a2.2)).bind fun a3 => (.ok (decide ((9999 : Int) < a3)))).bind fun c4 => if c4 then (.ex (exnOf "TooMany" ["limit"] [(PyData.int (9999 : Int))]))
  else (.ok ())) _ from (r_ifM trivial (q_tst (q_b2MP (q_b2MP (q_b2MP (q_call (q_callP (pv p_city) (q_callP (pv ((eP4 PyData.str PyData.str PyData.int PyData.int) p_run)) (q_callN (S.h_visits_of p_city p_run))))) (p_b1 (pc (.int 1)) (neg_i _)) fun a1 => (q_ixT (eP2 PyData.str PyData.int) _ _)) (pc (.int 1)) fun a2 => (qp (ix2_1 PyData.str PyData.int _))) (pc (.int 9999)) fun a3 => (qp (gt_ii _ _))))
  (r_raise trivial (p_aCons (pc (.int 9999)) p_aNil))
  (r_nil (r_endF rfl))))
def l_late_runs_1 : En → SRes :=
  (sSeq (sAsg (b2 oIx (dVar 1) (dVar 4)) (τTup [5, 6, 7, 8]))
  (sApp 3 (mkT (aCons (dVar 5) (aCons (dVar 6) (aCons (b2 oAdd (dVar 7) (b2 oIx (dVar 2) (dVar 4))) (aCons (dVar 8) aNil)))))))
def l_late_runs_2 : En → SRes :=
  (sDrop (dCall S.g_check_end (aCons (dVar 0) (aCons (dVar 9) aNil))))
def b_late_runs : En → SRes :=
  (sSeq (sIf (tst (b2 oNe (b1 oLen (dVar 2)) (b1 oLen (dVar 1))))
  (sRaise0 "BadSplit")
  sNil)
  (sSeq (sSetO 3 (mkL aNil))
  (sSeq (sFor (iRange1 (b1 oLen (dVar 1))) (τName 4) l_late_runs_1)
  (sSeq (sFrz 3 (sFor (iOf oAny (dVar 3)) (τName 9) l_late_runs_2))
  (sRet (b1 oTuple (bVar 3)))))))
def g_late_runs : List PyData → Rs PyData := runF 10 3 b_late_runs
def f_late_runs (p_city : PyData) (p_runs : (List (Str × Str × Int × Int))) (p_delays : (List Int)) : Rs (List (Str × Str × Int × Int)) :=
  (if (!decide ((p_delays.length : Int) = (p_runs.length : Int))) then (.ex ⟨"BadSplit", []⟩)
  else ((rngR 0 (p_runs.length : Int)).bind fun a22 => (forB (fun (s1 : (List (Str × Str × Int × Int))) (x8 : Int) => ((ixR p_runs x8).bind fun (t9 : (Str × Str × Int × Int)) =>
  ((((ixR p_delays x8).bind fun a10 => (.ok (t9.2.2.1 + a10))).bind fun a11 => (.ok (t9.1, t9.2.1, a11, t9.2.2.2))).bind fun a13 => (appR s1 a13).bind fun (late_12 : (List (Str × Str × Int × Int))) =>
  (.ok late_12)))) a22 []).bind fun (s1 : (List (Str × Str × Int × Int))) =>
  ((forB (fun (s14 : Unit) (x21 : (Str × Str × Int × Int)) => ((S.f_check_end p_city x21).bind fun _ =>
  (.ok ()))) s1 ()).bind fun (s14 : Unit) =>
  (.ok s1))))
theorem h_late_runs (p_city : PyData) (p_runs : (List (Str × Str × Int × Int))) (p_delays : (List Int)) : Q (eT (eP4 PyData.str PyData.str PyData.int PyData.int)) (f_late_runs p_city p_runs p_delays) (S.g_late_runs [p_city, ((eT (eP4 PyData.str PyData.str PyData.int PyData.int)) p_runs), ((eT PyData.int) p_delays)]) :=
  r_fun rfl (show _ = [(some (.val p_city)), (some (.val ((eT (eP4 PyData.str PyData.str PyData.int PyData.int)) p_runs))), (some (.val ((eT PyData.int) p_delays))), none, none, none, none, none, none, none] from rfl) (show (mF (eT (eP4 PyData.str PyData.str PyData.int PyData.int))).H (if (!decide ((p_delays.length : Int) = (p_runs.length : Int))) then (.ex ⟨"BadSplit", []⟩)
  else ((rngR 0 (p_runs.length : Int)).bind fun a22 => (forB (fun (s1 : (List (Str × Str × Int × Int))) (x8 : Int) => ((ixR p_runs x8).bind fun (t9 : (Str × Str × Int × Int)) =>
  ((((ixR p_delays x8).bind fun a10 => (.ok (t9.2.2.1 + a10))).bind fun a11 => (.ok (t9.1, t9.2.1, a11, t9.2.2.2))).bind fun a13 => (appR s1 a13).bind fun (late_12 : (List (Str × Str × Int × Int))) =>
  (.ok late_12)))) a22 []).bind fun (s1 : (List (Str × Str × Int × Int))) =>
  ((forB (fun (s14 : Unit) (x21 : (Str × Str × Int × Int)) => ((S.f_check_end p_city x21).bind fun _ =>
  (.ok ()))) s1 ()).bind fun (s14 : Unit) =>
  (.ok s1)))) _ from (r_seq (r_if (p_tst (p_b2 (p_b1 (pv ((eT PyData.int) p_delays)) (len_T PyData.int _)) (p_b1 (pv ((eT (eP4 PyData.str PyData.str PyData.int PyData.int)) p_runs)) (len_T (eP4 PyData.str PyData.str PyData.int PyData.int) _)) (ne_ii _ _)))
  (r_raise0 trivial)
  (r_nil (r_seq (r_setOP (p_mkL (v := ((eL (eP4 PyData.str PyData.str PyData.int PyData.int)) [])) (p_nil lstK_ok)) (r_seq (r_forBM (fun (s1 : (List (Str × Str × Int × Int))) ρ => ∃ (_ : Unit) (z2 : Option PyData) (z3 : Option PyData) (z4 : Option PyData) (z5 : Option PyData) (z6 : Option PyData) (z7 : Option PyData), ρ = [(some (.val p_city)), (some (.val ((eT (eP4 PyData.str PyData.str PyData.int PyData.int)) p_runs))), (some (.val ((eT PyData.int) p_delays))), (some (.own ((eL (eP4 PyData.str PyData.str PyData.int PyData.int)) s1))), (nv z2), (nv z3), (nv z4), (nv z5), (nv z6), (nv z7)]) (s0 := []) trivial (q_range1 (p_b1 (pv ((eT (eP4 PyData.str PyData.str PyData.int PyData.int)) p_runs)) (len_T (eP4 PyData.str PyData.str PyData.int PyData.int) _))) ⟨(), none, none, none, none, none, none, rfl⟩
  (fun s1 x8 ρ hr => by
  obtain ⟨_, z2, z3, z4, z5, z6, z7, rfl⟩ := hr
  exact ⟨_, rfl, (r_seq (r_asgM trivial (q_b2PP (pv ((eT (eP4 PyData.str PyData.str PyData.int PyData.int)) p_runs)) (pv (PyData.int x8)) (q_ixT (eP4 PyData.str PyData.str PyData.int PyData.int) _ _)) (fun _ => rfl) fun t9 =>
  (r_appM (xs := s1) trivial rfl (q_mkT (e := (eP4 PyData.str PyData.str PyData.int PyData.int)) (q_callP (pv (PyData.str t9.1)) (q_callP (pv (PyData.str t9.2.1)) (q_callM (q_b2PM (pv (PyData.int t9.2.2.1)) (q_b2PP (pv ((eT PyData.int) p_delays)) (pv (PyData.int x8)) (q_ixT PyData.int _ _)) fun a10 => (qp (add_ii _ _))) fun a11 => (q_callP (pv (PyData.int t9.2.2.2)) (q_callN (qp tupK_ok))))))) fun late_12 =>
  (r_endB (s := late_12) ⟨(), (some (PyData.int x8)), (some (PyData.str t9.1)), (some (PyData.str t9.2.1)), (some (PyData.int t9.2.2.1)), (some (PyData.int t9.2.2.2)), z7, rfl⟩))))⟩)
  (fun s1 ρ hr => by
  obtain ⟨_, z2, z3, z4, z5, z6, z7, rfl⟩ := hr
  exact (r_seq (r_frz (r_forB (fun (s14 : Unit) ρ => ∃ (_ : Unit) (z15 : Option PyData) (z16 : Option PyData) (z17 : Option PyData) (z18 : Option PyData) (z19 : Option PyData) (z20 : Option PyData), ρ = [(some (.val p_city)), (some (.val ((eT (eP4 PyData.str PyData.str PyData.int PyData.int)) p_runs))), (some (.val ((eT PyData.int) p_delays))), (some (.val ((eL (eP4 PyData.str PyData.str PyData.int PyData.int)) s1))), (nv z15), (nv z16), (nv z17), (nv z18), (nv z19), (nv z20)]) (bd := _) (s0 := ()) (p_iOf (pv ((eL (eP4 PyData.str PyData.str PyData.int PyData.int)) s1)) (any_L (eP4 PyData.str PyData.str PyData.int PyData.int) _)) ⟨(), z2, z3, z4, z5, z6, z7, rfl⟩
  (fun s14 x21 ρ hr => by
  obtain ⟨_, z15, z16, z17, z18, z19, z20, rfl⟩ := hr
  exact ⟨_, rfl, (r_dropM trivial (q_call (q_callP (pv p_city) (q_callP (pv ((eP4 PyData.str PyData.str PyData.int PyData.int) x21)) (q_callN (S.h_check_end p_city x21)))))
  (r_endB (s := ()) ⟨(), z15, z16, z17, z18, z19, (some ((eP4 PyData.str PyData.str PyData.int PyData.int) x21)), rfl⟩))⟩)
  (fun s14 ρ hr => by
  obtain ⟨_, z15, z16, z17, z18, z19, z20, rfl⟩ := hr
  exact (r_retF (p_b1 (bv ((eL (eP4 PyData.str PyData.str PyData.int PyData.int)) s1)) (tuple_L (eP4 PyData.str PyData.str PyData.int PyData.int) _))))))))))))))))
end
end S

/-! SH7: raise with arguments that may fail. -/
namespace DL
open PySem PySem.Spec PyProof.Rows L2
def argsR : List (Rs PyData) → Rs (List PyData)
  | [] => .ok []
  | r :: rs => r.bind fun a => (argsR rs).bind fun l => .ok (a :: l)
theorem argsR_len : ∀ {rs : List (Rs PyData)} {ds : List PyData}, argsR rs = .ok ds → ds.length = rs.length
  | [], ds, h => by
    cases h
    rfl
  | r :: rs, ds, h => by
    unfold argsR at h
    cases r with
    | ok a =>
      rw [bind_ok] at h
      cases e : argsR rs with
      | ok l =>
        rw [e, bind_ok] at h
        cases h
        rw [List.length_cons, List.length_cons, argsR_len e]
      | ex z => rw [e] at h; cases h
      | bad => rw [e] at h; cases h
    | ex z => cases h
    | bad => cases h
section
variable {R : Type} {m : Md R} {K : En → SRes} {ρ : En} {f : En → Rs PyData} {fs : En → Rs (List PyData)} {r : Rs PyData} {rs : List (Rs PyData)}
theorem q_aNil : Q id (argsR []) (aNil ρ) := ⟨rfl⟩
theorem q_aCons (h : Q id r (f ρ)) (h2 : Q id (argsR rs) (fs ρ)) : Q id (argsR (r :: rs)) (aCons f fs ρ) := qbind h fun a => qbind h2 fun l => ⟨rfl⟩
theorem r_raiseM {x : Str} {fns : List Str} {fa : En → Rs (List PyData)} (hz : m.Z ρ) (h : Q id (argsR rs) (fa ρ)) (hl : rs.length = fns.length := by exact rfl) : m.H ((argsR rs).bind fun ds => (.ex (exnOf x fns ds) : Rs R)) (sThen (sRaise x fns fa ρ) K) := by
  cases e : argsR rs with
  | ok ds =>
    rw [e] at h
    show m.H (.ex (exnOf x fns ds)) (sThen (eS ρ (fa ρ) _) K)
    rw [show fa ρ = .ok ds from h.out]
    show m.H _ (sThen (if ds.length = fns.length then .ex (exnOf x fns ds) ρ else .bad) K)
    rw [if_pos ((argsR_len e).trans hl)]
    exact ⟨m.ex _ ρ hz⟩
  | ex z =>
    rw [e] at h
    show m.H (.ex z) (sThen (eS ρ (fa ρ) _) K)
    rw [show fa ρ = .ex z from h.out]
    exact ⟨m.ex z ρ hz⟩
  | bad => exact ⟨m.bad _⟩
end
end DL

/-! DL15: dicts whose keys are ints and texts. -/
namespace DL
open PySem PySem.Spec PyProof.Rows L2

/-! ### keys, entries -/
def keyOf : PyData → Option Key
  | .int i => some (.inl i)
  | .str x => some (.inr x)
  | _ => none
theorem keyOf_keyD (k : Key) : keyOf (keyD k) = some k := by cases k <;> rfl
theorem keyOf_some {d : PyData} {k : Key} (h : keyOf d = some k) : d = keyD k := by
  unfold keyOf at h
  split at h
  · cases h; rfl
  · cases h; rfl
  · cases h
theorem keyOf_eq {k j : Key} : keyOf (keyD j) = some k ↔ j = k := by rw [keyOf_keyD, Option.some.injEq]
theorem keyOf_ne {k j : Key} (h : ¬ j = k) : ¬ keyOf (keyD j) = some k := fun z => h (keyOf_eq.mp z)
def esGet : List (PyData × PyData) → Key → Option PyData
  | [], _ => none
  | (d, v) :: es, k => if keyOf d = some k then some v else esGet es k
def esHas (es : List (PyData × PyData)) (k : Key) : Bool := es.any fun p => decide (keyOf p.1 = some k)
def esPut (es : List (PyData × PyData)) (k : Key) (v : PyData) : List (PyData × PyData) :=
  if esHas es k = true then es.map (fun p => if keyOf p.1 = some k then (p.1, v) else p) else es ++ [(keyD k, v)]
/-- the first key is an int or a text -/
def dictOk : List (PyData × PyData) → Bool
  | [] => true
  | (d, _) :: _ => (keyOf d).isSome
section
variable {K : PySem.W.Frag} {H : Hp} {O : List Addr}
abbrev RpD (K : PySem.W.Frag) (H : Hp) (kvs : List (Key × V)) (es : List (PyData × PyData)) : Prop := RpKV K H (kvs.map fun p => (keyD p.1, p.2)) es
theorem RpKV.length : ∀ {xs : List (PyData × V)} {es : List (PyData × PyData)}, RpKV K H xs es → xs.length = es.length
  | _, _, .nil => rfl
  | _, _, .cons _ t => by rw [List.length_cons, List.length_cons, RpKV.length t]
theorem RpD.length {kvs : List (Key × V)} {es : List (PyData × PyData)} (h : RpD K H kvs es) : kvs.length = es.length := by
  have := RpKV.length h
  rw [List.length_map] at this
  exact this
theorem RpD.get : ∀ {kvs : List (Key × V)} {es : List (PyData × PyData)} (k : Key), RpD K H kvs es → (∀ d, esGet es k = some d → ∃ v, valV kvs k = some v ∧ Rp K H v d) ∧ (esGet es k = none → valV kvs k = none)
  | [], es, k, h => by
    cases h
    exact ⟨fun d z => (by cases z), fun _ => valV_nil⟩
  | (j, v) :: kvs, es, k, h => by
    cases h with
    | @cons _ _ _ d ds r t =>
      have ih := RpD.get (kvs := kvs) k t
      unfold esGet
      by_cases e : j = k
      · rw [if_pos (keyOf_eq.mpr e)]
        refine ⟨fun d' z => ?_, fun z => by cases z⟩
        cases z
        exact ⟨v, valV_pos (p := (j, v)) e, r⟩
      · rw [if_neg (keyOf_ne e), valV_neg (p := (j, v)) e]
        exact ih
theorem RpD.has : ∀ {kvs : List (Key × V)} {es : List (PyData × PyData)} (k : Key), RpD K H kvs es → esHas es k = kvs.any fun kv => decide (kv.1 = k)
  | [], es, k, h => by
    cases h
    rfl
  | (j, v) :: kvs, es, k, h => by
    cases h with
    | @cons _ _ _ d ds r t =>
      have ih := RpD.has (kvs := kvs) k t
      unfold esHas at ih ⊢
      rw [List.any_cons, List.any_cons, ih]
      congr 1
      exact decide_eq_decide.mpr keyOf_eq
theorem RpD.repl : ∀ {kvs : List (Key × V)} {es : List (PyData × PyData)} (k : Key) {v : V} {d : PyData}, RpD K H kvs es → Rp K H v d → RpD K H (kvs.map fun kv => if kv.1 = k then (kv.1, v) else kv) (es.map fun p => if keyOf p.1 = some k then (p.1, d) else p)
  | [], es, k, v, d, h, _ => by
    cases h
    exact .nil
  | (j, u) :: kvs, es, k, v, d, h, rv => by
    cases h with
    | @cons _ _ _ d' ds r t =>
      have ih := RpD.repl (kvs := kvs) k t rv
      rw [List.map_cons, List.map_cons]
      by_cases e : j = k
      · rw [if_pos (show ((j, u) : Key × V).1 = k from e), if_pos (show keyOf (keyD j) = some k from keyOf_eq.mpr e)]
        exact .cons rv ih
      · rw [if_neg (show ¬ ((j, u) : Key × V).1 = k from e), if_neg (show ¬ keyOf (keyD j) = some k from keyOf_ne e)]
        exact .cons r ih
theorem RpKV.append : ∀ {xs ys : List (PyData × V)} {es fs : List (PyData × PyData)}, RpKV K H xs es → RpKV K H ys fs → RpKV K H (xs ++ ys) (es ++ fs)
  | _, _, _, _, .nil, s => s
  | _, _, _, _, .cons r t, s => .cons r (RpKV.append t s)
theorem RpD.put {kvs : List (Key × V)} {es : List (PyData × PyData)} (k : Key) {v : V} {d : PyData} (h : RpD K H kvs es) (r : Rp K H v d) : RpD K H (putK kvs k v) (esPut es k d) := by
  unfold putK esPut
  rw [h.has k]
  by_cases e : (kvs.any fun kv => decide (kv.1 = k)) = true
  · rw [if_pos e, if_pos e]
    exact h.repl k r
  · rw [if_neg e, if_neg e]
    unfold RpD
    rw [List.map_append]
    exact RpKV.append h (.cons r .nil)
theorem esPut_len (es : List (PyData × PyData)) (k : Key) (d : PyData) : (esPut es k d).length ≤ es.length + 1 := by
  unfold esPut
  split
  · rw [List.length_map]; exact Nat.le_succ _
  · rw [List.length_append]; exact Nat.le_refl _
/-- a dict that is read -/
theorem RpB.dk {v : V} {es : List (PyData × PyData)} (h : RpB K O H v (.dict es)) (ok : dictOk es = true) : ∃ a kvs, v = .ref a ∧ Rd H a (.dK kvs) ∧ RpD K (hide H O) kvs es := by
  rcases h with h | ⟨a, rfl, ⟨xs, ds, e, h1, h2, h3⟩ | ⟨kvs, fs, e, h1, h⟩ | ⟨kvs, fs, e, h1, h⟩⟩
  · cases h with
    | dK s r => exact ⟨_, _, rfl, Gr.rd hide_sub s, r⟩
    | _ => cases ok
  · cases e
  · cases e
    exact ⟨a, kvs, rfl, .inl h1, h⟩
  · cases e
    cases ok
theorem RpB.key {v : V} {d : PyData} {k : Key} (h : RpB K O H v d) (e : keyOf d = some k) : v = kV k := by
  have := keyOf_some e
  subst this
  cases k with
  | inl i => exact h.int
  | inr x => exact h.str
end

/-! ### d[k], k in d, d.get(k), d.get(k, x) -/
def oGet : PyData → PyData → Rs PyData
  | .dict es, d => if dictOk es = true then (match keyOf d with
    | some k => (match esGet es k with
      | some x => .ok x
      | none => .bad)
    | none => .bad) else .bad
  | _, _ => .bad
def oInD : PyData → PyData → Rs PyData
  | d, .dict es => if dictOk es = true then (match keyOf d with
    | some k => .ok (.bool (esGet es k).isSome)
    | none => .bad) else .bad
  | _, _ => .bad
def oNotInD : PyData → PyData → Rs PyData
  | d, .dict es => if dictOk es = true then (match keyOf d with
    | some k => .ok (.bool (!(esGet es k).isSome))
    | none => .bad) else .bad
  | _, _ => .bad
def rGetD : R2 := fun x y H Q => ∃ a v, x = .ref a ∧ DGet H a y (some v) ∧ Q v H
def rInD : R2 := fun y x H Q => ∃ a o, x = .ref a ∧ DGet H a y o ∧ Q (.bl o.isSome) H
def rNotInD : R2 := fun y x H Q => ∃ a o, x = .ref a ∧ DGet H a y o ∧ Q (.bl (!o.isSome)) H
section
variable {X : Cx} {W : WX} {a b c : Expr} {fa fb fc : En → Rs PyData} {pos : Pos}
theorem hu1 (hu : X.A.units + 64 < cLine) : X.A.units + 1 < cLine := Nat.lt_of_le_of_lt (Nat.add_le_add_left (by decide : 1 ≤ 64) _) hu
theorem op_inD (hu : X.A.units + 64 < cLine) : OpR X (compareOp .In) rInD := by
  intro pins s σ H y x u v Q I ry rx h
  obtain ⟨a, o, rfl, g, q⟩ := h
  obtain rfl : v = Value.ref a := rx
  exact d_in (hu1 hu) I g ry fun s3 I3 => ⟨.bl o.isSome, H, I3, rfl, q⟩
theorem op_notInD (hu : X.A.units + 64 < cLine) : OpR X (compareOp .NotIn) rNotInD := by
  intro pins s σ H y x u v Q I ry rx h
  obtain ⟨a, o, rfl, g, q⟩ := h
  obtain rfl : v = Value.ref a := rx
  exact d_notIn (hu1 hu) I g ry fun s3 I3 => ⟨.bl (!o.isSome), H, I3, rfl, q⟩
theorem ok_inD : Ok2 X rInD oInD := by
  intro W O σ H Q x y d e th rx ry q
  unfold oInD at q
  split at q
  · rename_i es
    split at q
    · rename_i ok
      obtain ⟨p, kvs, rfl, hx, rX⟩ := ry.dk ok
      split at q
      · rename_i k hk
        have ek := rx.key hk
        subst ek
        obtain ⟨g1, g2⟩ := rX.get k
        refine ⟨p, valV kvs k, rfl, .inl ⟨kvs, k, hx, rfl, rfl⟩, ?_⟩
        cases e : esGet es k with
        | none =>
          rw [g2 e]
          rw [e] at q
          exact q.here (.bl _)
        | some d =>
          obtain ⟨v, e1, _⟩ := g1 d e
          rw [e1]
          rw [e] at q
          exact q.here (.bl _)
      · exact q.elim
    · exact q.elim
  · exact q.elim
theorem ok_notInD : Ok2 X rNotInD oNotInD := by
  intro W O σ H Q x y d e th rx ry q
  unfold oNotInD at q
  split at q
  · rename_i es
    split at q
    · rename_i ok
      obtain ⟨p, kvs, rfl, hx, rX⟩ := ry.dk ok
      split at q
      · rename_i k hk
        have ek := rx.key hk
        subst ek
        obtain ⟨g1, g2⟩ := rX.get k
        refine ⟨p, valV kvs k, rfl, .inl ⟨kvs, k, hx, rfl, rfl⟩, ?_⟩
        cases e : esGet es k with
        | none =>
          rw [g2 e]
          rw [e] at q
          exact q.here (.bl _)
        | some d =>
          obtain ⟨v, e1, _⟩ := g1 d e
          rw [e1]
          rw [e] at q
          exact q.here (.bl _)
      · exact q.elim
    · exact q.elim
  · exact q.elim
theorem ok_get : Ok2 X rGetD oGet := by
  intro W O σ H Q x y d e th rx ry q
  unfold oGet at q
  split at q
  · rename_i es
    split at q
    · rename_i ok
      obtain ⟨p, kvs, rfl, hx, rX⟩ := rx.dk ok
      split at q
      · rename_i k hk
        have ek := ry.key hk
        subst ek
        obtain ⟨g1, _⟩ := rX.get k
        split at q
        · rename_i z hz
          obtain ⟨v, e1, r1⟩ := g1 _ hz
          exact ⟨p, v, rfl, .inl ⟨kvs, k, hx, rfl, e1.symm⟩, q.here r1⟩
        · exact q.elim
      · exact q.elim
    · exact q.elim
  · exact q.elim
theorem de_get (hu : X.A.units + 64 < cLine) (ha : BE X W a fa) (hb : BE X W b fb) (hs : NoSl b := by intro _ _; rfl) : DE X W (.Subscript a b pos) (b2 oGet fa fb) :=
  PE.imp (pe_dget (hu1 hu) ha hb hs) fun _ _ _ q => go2 ok_get q
/-- d.get(k, x) -/
def oGet2 (es : List (PyData × PyData)) (d x : PyData) : Rs PyData := match keyOf d with
  | some k => .ok ((esGet es k).getD x)
  | none => .bad
def getM1 (fo fk : En → Rs PyData) : En → Rs PyData := fun ρ => (fo ρ).bind fun d => match d with
  | .dict es => if dictOk es = true then (fk ρ).bind fun k => oGet2 es k .none else .bad
  | _ => .bad
def getM2 (fo fk fx : En → Rs PyData) : En → Rs PyData := fun ρ => (fo ρ).bind fun d => match d with
  | .dict es => if dictOk es = true then (fk ρ).bind fun k => (fx ρ).bind fun x => oGet2 es k x else .bad
  | _ => .bad
theorem de_get1 {apos : Pos} (hu : X.A.units + 64 < cLine) (ha : BE X W a fa) (hb : BE X W b fb) (m : M1 X a "get" apos b pos := by exact ⟨rfl, rfl, rfl, rfl⟩) : DE X W (.Call (.Attribute a "get" apos) [b] [] pos) (getM1 fa fb) :=
  PE.imp (pe_dget1 (hu1 hu) ha hb m) fun σ H Q ⟨ρ, O, H0, s, q⟩ => ⟨ρ, O, H0, s, RKB.of q fun d H1 v g1 r1 q1 => by
    split at q1
    · rename_i es
      split at q1
      · rename_i ok
        obtain ⟨p, kvs, rfl, hx, rX⟩ := r1.dk ok
        refine ⟨p, rfl, .inl ⟨kvs, hx⟩, ρ, O, H0, s.grow g1, RKB.of q1 fun e H2 u g2 r2 q2 => ?_⟩
        unfold oGet2 at q2
        split at q2
        · rename_i k hk
          have ek := r2.key hk
          subst ek
          obtain ⟨f1, f2⟩ := rX.get k
          refine ⟨valV kvs k, .inl ⟨kvs, k, Gr.rd g2 hx, rfl, rfl⟩, ?_⟩
          cases e : esGet es k with
          | none =>
            rw [f2 e]
            rw [e] at q2
            exact q2.here .non
          | some d =>
            obtain ⟨v, e1, rv⟩ := f1 d e
            rw [e1]
            rw [e] at q2
            exact q2.here (rv.mono (hide_same _ g2))
        · exact q2.elim
      · exact q1.elim
    · exact q1.elim⟩
theorem RpB.toRp {K : PySem.W.Frag} {O : List Addr} {H : Hp} {v : V} {d : PyData} (h : Rp K (hide H O) v d) : RpB K O H v d := .inl h
theorem de_get2 {apos : Pos} (hu : X.A.units + 64 < cLine) (ha : BE X W a fa) (hb : BE X W b fb) (hc : DE X W c fc) (m : M2 X a "get" apos b c pos := by exact ⟨rfl, rfl, rfl, rfl⟩) : DE X W (.Call (.Attribute a "get" apos) [b, c] [] pos) (getM2 fa fb fc) :=
  PE.imp (pe_dget2 (hu1 hu) ha hb hc m) fun σ H Q ⟨ρ, O, H0, s, q⟩ => ⟨ρ, O, H0, s, RKB.of q fun d H1 v g1 r1 q1 => by
    split at q1
    · rename_i es
      split at q1
      · rename_i ok
        obtain ⟨p, kvs, rfl, hx, rX⟩ := r1.dk ok
        refine ⟨p, rfl, .inl ⟨kvs, hx⟩, ρ, O, H0, s.grow g1, RKB.of q1 fun e H2 u g2 r2 q2 => ⟨ρ, O, H0, (s.grow g1).grow g2, RK.of q2 fun z H3 w g3 r3 q3 => ?_⟩⟩
        unfold oGet2 at q3
        split at q3
        · rename_i k hk
          have ek := r2.key hk
          subst ek
          obtain ⟨f1, f2⟩ := rX.get k
          refine ⟨valV kvs k, .inl ⟨kvs, k, Gr.rd g3 (Gr.rd g2 hx), rfl, rfl⟩, ?_⟩
          cases e : esGet es k with
          | none =>
            rw [f2 e]
            rw [e] at q3
            exact q3.here r3
          | some d =>
            obtain ⟨v, e1, rv⟩ := f1 d e
            rw [e1]
            rw [e] at q3
            exact q3.here (rv.mono (hide_same _ (g2.trans g3)))
        · exact q3.elim
      · exact q1.elim
    · exact q1.elim⟩
/-! ### new dicts -/
theorem RKO.newD {K : PySem.W.Frag} {mg : Str → Option Value} {W : WX} {O : List Addr} {σ : L2.St} {H : Hp} {Q : VK} {es : List (PyData × PyData)} {kvs : List (Key × V)} {p : Addr} (h : RKO K mg W O σ H Q (.ok (.dict es))) (hp : H p = none) (r : RpD K (hide H O) kvs es) : Q (.ref p) (upd H p (.dK kvs)) := by
  refine h _ p (same_upd hp) hp (.inr (.inl ⟨kvs, es, rfl, upd_same, r.mono fun a o e => ?_⟩))
  obtain ⟨n, e'⟩ := hide_some e
  have np : a ≠ p := ne_of_none e' hp
  rw [hide_out (by simp only [List.mem_cons, not_or]; exact ⟨np, n⟩), upd_ne np]
  exact e'
theorem oe_dict0 : OE X W (.Dict [] [] pos) (dC (.dict [])) :=
  PE.imp pe_dnewK fun σ H Q ⟨ρ, O, H0, s, q⟩ p hp => RKO.newD q hp .nil
/-- {k: v} -/
def oDict1 (d v : PyData) : Rs PyData := match keyOf d with
  | some k => .ok (.dict [(keyD k, v)])
  | none => .bad
theorem oe_dict1 (ha : BE X W a fa) (hb : DE X W b fb) : OE X W (.Dict [some a] [b] pos) (b2 oDict1 fa fb) :=
  PE.imp (pe_disp (pps_cons ha hb pps_nil) rfl rfl (fun z => by cases z) (Nat.le_of_ble_eq_true rfl)) fun σ H Q ⟨ρ, O, H0, s, q⟩ p hp => by
    have g0 : Gr H (upd H p (.dK [])) := same_upd hp
    have sb := s.block g0 hp (by rw [upd_same]; exact fun z => by cases z)
    have hl : ∀ x, x ∈ O ++ owned σ ρ → x ∈ (p :: O) ++ owned σ ρ := fun x hx => List.mem_cons_of_mem _ hx
    refine ⟨ρ, p :: O, _, sb, ?_⟩
    have q' : RKO X.K X.mg W (O ++ owned σ ρ) σ H Q ((fa ρ).bind fun d => (fb ρ).bind fun e => oDict1 d e) := q
    cases efa : fa ρ with
    | ex x =>
      rw [efa] at q'
      exact fun H' c dd g x => q' H' c dd (g0.trans g) (x.mono (hide_less hl))
    | bad => rw [efa] at q'; exact q'
    | ok d =>
      rw [efa, bind_ok] at q'
      intro H1 v g1 r1
      refine ⟨ρ, p :: O, _, sb.grow g1, ?_⟩
      cases efb : fb ρ with
      | ex x =>
        rw [efb] at q'
        exact fun H' c dd g x => q' H' c dd (g0.trans (g1.trans g)) (x.mono (hide_less hl))
      | bad => rw [efb] at q'; exact q'
      | ok e =>
        rw [efb, bind_ok] at q'
        intro H2 u g2 r2
        unfold oDict1 at q'
        cases ek : keyOf d with
        | none => rw [ek] at q'; exact q'.elim
        | some k =>
          rw [ek] at q'
          have hv := r1.key ek
          have hpp := (g1.trans g2) p _ upd_same
          refine ⟨hpp, [(k, u)], by rw [hv]; rfl, Nat.le_of_ble_eq_true rfl, ?_⟩
          have em : mergeK [] [(k, u)] = [(k, u)] := rfl
          rw [em]
          refine q' _ p (fun b o hb => ?_) hp (.inr (.inl ⟨[(k, u)], _, rfl, upd_same, .cons ?_ .nil⟩))
          · have nb : b ≠ p := ne_of_none hb hp
            rw [upd_ne nb]
            exact (g0.trans (g1.trans g2)) b o hb
          · refine r2.mono fun b o hb => ?_
            obtain ⟨n, e'⟩ := hide_some hb
            have nb : b ≠ p := fun z => n (by rw [z]; exact List.mem_cons_self)
            rw [hide_out (by rw [List.mem_cons, not_or]; exact ⟨nb, fun z => n (hl b z)⟩), upd_ne nb]
            exact e'
/-! ### d[k] = v, d an own dict -/
def sPut (i : Nat) (fk f : En → Rs PyData) : En → SRes := fun ρ => match ρ[i]? with
  | some (some (.own (.dict es))) => if dictOk es = true then eS ρ (f ρ) fun d => eS ρ (fk ρ) fun k => match keyOf k with
    | some k => if es.length < mx then .nx (ρ.set i (some (.own (.dict (esPut es k d))))) else .bad
    | none => .bad
    else .bad
  | _ => .bad
theorem own_getD {K : PySem.W.Frag} {G H : Hp} {σ : L2.St} {ρ : En} (h : SlotsR K G H σ ρ) {i : Nat} {es : List (PyData × PyData)} (ei : ρ[i]? = some (some (.own (.dict es)))) (ok : dictOk es = true) : ∃ a kvs, σ[i]? = some (some (.ref a)) ∧ H a = some (.dK kvs) ∧ RpD K G kvs es := by
  obtain ⟨x, e1, a, e2, ⟨xs, ds, e, _⟩ | ⟨kvs, fs, e, h1, h2⟩ | ⟨kvs, fs, e, h1, h2⟩⟩ := h.get ei
  · cases e
  · cases e
    subst e2
    exact ⟨a, kvs, e1, h1, h2⟩
  · cases e
    cases ok
theorem ds_put (i : Nat) {e ek : Expr} {f fk : En → Rs PyData} {y : Str} {p1 p2 pos : Pos} (hu : X.A.units + 64 < cLine) (he : DE X W e f) (hk : BE X W ek fk) (hN : X.N[i]? = some y := by rfl) (hv : Vis X.env.scope y := by first | exact Or.inl rfl | exact Or.inr (Or.inl rfl) | exact Or.inr (Or.inr rfl)) (hd : (y == ("__debug__" : Str)) = false := by decide)
    (hcd : (y == ("__classdict__" : Str)) = false := by decide)
    (hs : swapsWith e (some (.Subscript (.Name y p1) ek p2)) pos.line X.env = pure false := by rfl) :
    DS X W (.Assign [.Subscript (.Name y p1) ek p2] e pos) (sPut i fk f) :=
  PS.imp (ps_dput (hu1 hu) (pe_var hN hv hd hcd) hk he hs) fun D σ H ⟨ρ, O, H0, s, q⟩ => by
    unfold sPut at q
    split at q
    · rename_i es ei
      split at q
      · rename_i ok
        refine ⟨ρ, O, H0, s, SK.expr s q fun d H1 v s1 r1 q1 => ?_⟩
        obtain ⟨a, kvs, e1, hx, rx⟩ := own_getD s1.slots ei ok
        refine ⟨.ref a, e1, ρ, O, H0, s1, SK.exprBg s1 q1 fun k H2 u g2 s2 r2 q2 => ?_⟩
        obtain ⟨a', kvs2, e1', hx2, rx2⟩ := own_getD s2.slots ei ok
        rw [e1] at e1'
        cases e1'
        split at q2
        · rename_i k' hk'
          have ek := r2.key hk'
          subst ek
          split at q2
          · rename_i hl
            refine ⟨a, _, rfl, .inl ⟨kvs2, k', hx2, rfl, by rw [← mx_line, rx2.length]; exact hl, rfl⟩, q2 σ _ (s2.change e1 ei (.inr (.inl ⟨_, _, rfl, upd_same, rx2.put k' ?_⟩)))⟩
            exact r1.mono (hide_same _ g2)
          · exact q2.elim
        · exact q2.elim
      · exact q.elim
    · exact q.elim
end
end DL

/-! DL16: {k: v for target in iter if ..}. -/
namespace DL
open PySem PySem.Spec PyProof.Rows L2
def dcL (τ : TgD) (tt : En → Rs Bool) (tk tv : En → Rs PyData) : List PyData → En → List (PyData × PyData) → Rs (List (PyData × PyData))
  | [], _, es => .ok es
  | d :: ds, ρ, es => match τ d ρ with
    | .ok ρ1 => (match tt ρ1 with
      | .ok true => (match tk ρ1 with
        | .ok k => (match tv ρ1 with
          | .ok v => (match keyOf k with
            | some k => dcL τ tt tk tv ds ρ (esPut es k v)
            | none => .bad)
          | _ => .bad)
        | _ => .bad)
      | .ok false => dcL τ tt tk tv ds ρ es
      | _ => .bad)
    | _ => .bad
def dcD (vs : List Nat) (fi : En → Rs (List PyData)) (τ : TgD) (tt : En → Rs Bool) (tk tv : En → Rs PyData) : En → Rs PyData := fun ρ => (fi ρ).bind fun ds =>
  if ds.length ≤ mx && noOwn ρ vs then (dcL τ tt tk tv ds (wipeE ρ vs) []).bind fun r => .ok (.dict r) else .bad
theorem dcL_noex (τ : TgD) (tt : En → Rs Bool) (tk tv : En → Rs PyData) : ∀ (ds : List PyData) (ρ : En) (es : List (PyData × PyData)) (e : Exn), dcL τ tt tk tv ds ρ es ≠ .ex e
  | [], _, _, _ => fun z => by cases z
  | d :: ds, ρ, es, e => by
    unfold dcL
    split
    · split
      · split
        · split
          · split
            · exact dcL_noex τ tt tk tv ds ρ _ e
            · exact fun z => by cases z
          · exact fun z => by cases z
        · exact fun z => by cases z
      · exact dcL_noex τ tt tk tv ds ρ es e
      · exact fun z => by cases z
    · exact fun z => by cases z
section
variable {X : Cx} {W : WX}
theorem dc_go {K : PySem.W.Frag} {mg : Str → Option Value} {vs is : List Nat} {fi : En → Rs (List PyData)} {τ : TgD} {tt : En → Rs Bool} {tk tv : En → Rs PyData} (hvs : ∀ j ∈ is, j ∈ vs) (hτ : TgOk is τ) {σ : L2.St} {H : Hp} {Q : VK}
    (q : tO K mg W (dcD vs fi τ tt tk tv) σ H Q) : tDc (tI K mg W true fi) (tG K is τ) (tT K mg WF tt) (tD K mg WF tk) (tD K mg WF tv) vs σ H Q := by
  obtain ⟨ρ, O, H0, s, q⟩ := q
  refine ⟨ρ, O, H0, s, ?_⟩
  unfold dcD at q
  cases efi : fi ρ with
  | ex x => rw [efi] at q; exact q
  | bad => rw [efi] at q; exact q
  | ok ds =>
    rw [efi, bind_ok] at q
    intro J H1 g _ wk D hD
    have hchk : (decide (ds.length ≤ mx) && noOwn ρ vs) = true := by
      cases z : (decide (ds.length ≤ mx) && noOwn ρ vs) with
      | true => rfl
      | false =>
        rw [z, if_neg Bool.false_ne_true] at q
        exact q.elim
    rw [if_pos hchk] at q
    simp only [Bool.and_eq_true, decide_eq_true_eq] at hchk
    obtain ⟨hmx, hno⟩ := hchk
    cases el : dcL τ tt tk tv ds (wipeE ρ vs) [] with
    | ex x => exact absurd el (dcL_noex τ tt tk tv ds _ _ x)
    | bad => rw [el] at q; exact q.elim
    | ok r =>
      rw [el, bind_ok] at q
      have s1 := s.grow g
      have sw : SR K O H0 H1 (L2.wipe σ vs) (wipeE ρ vs) := s1.wipe vs
      -- the own objects are the same within the block
      have ow : ∀ a, a ∈ owned (L2.wipe σ vs) (wipeE ρ vs) → a ∈ owned σ ρ := fun a ha => by
        obtain ⟨j, d, h1, h2⟩ := mem_owned.mp ha
        rw [wipe_get] at h1
        rw [wipeE_get] at h2
        by_cases hj : j ∈ vs
        · rw [if_pos hj] at h1
          cases z : σ[j]? with
          | none => rw [z] at h1; cases h1
          | some u => rw [z] at h1; cases h1
        · rw [if_neg hj] at h1 h2
          exact mem_owned.mpr ⟨j, d, h1, h2⟩
      have keep : ∀ {σ' : L2.St} {ρ' : En} {d : PyData}, τ d (wipeE ρ vs) = .ok ρ' → But is (L2.wipe σ vs) σ' → ∀ a, a ∈ owned σ ρ → a ∈ owned σ' ρ' := fun {σ' ρ' d} et b a ha => by
        obtain ⟨j, d', h1, h2⟩ := mem_owned.mp ha
        have hj : j ∉ vs := fun z => by
          unfold noOwn at hno
          have := List.all_eq_true.mp hno j z
          rw [h2] at this
          cases this
        have hji : j ∉ is := fun z => hj (hvs j z)
        refine mem_owned.mpr ⟨j, d', ?_, ?_⟩
        · rw [b.2 j hji, wipe_get, if_neg hj, h1]
        · rw [hτ d _ ρ' et j hji, wipeE_get, if_neg hj, h2]
      let T : List Addr := D :: (O ++ owned σ ρ)
      let Pv : Nat → Hp → Prop := fun i H' => ∃ acc accD, H' D = some (.dK acc) ∧ RpD K (hide H' T) acc accD ∧ acc.length ≤ i ∧ Gr H1 H' ∧ dcL τ tt tk tv (ds.drop i) (wipeE ρ vs) accD = .ok r
      refine ⟨fun i m H' => m = ds.length - i ∧ i ≤ ds.length ∧ Pv i H', ⟨ds.length, by simp, Nat.zero_le _, [], [], upd_same, .nil, Nat.le_refl _, same_upd hD, el⟩, ?_⟩
      rintro i m H2 ⟨rfl, hi2, acc, accD, hacc, racc, lacc, g2, erest⟩
      by_cases hlt : i < ds.length
      · have ed : ds[i]? = some ds[i] := List.getElem?_eq_getElem hlt
        have edrop : ds.drop i = ds[i] :: ds.drop (i + 1) := by rw [List.drop_eq_getElem_cons hlt]
        obtain ⟨go, yl⟩ := (wk H2 g2 i).1 _ ed
        refine .inr ⟨go, Pv (i + 1), fun H' h => ⟨ds.length - (i + 1), by omega, rfl, hlt, h⟩, fun x H3 y => ?_⟩
        obtain ⟨rfl, rx⟩ := yl x H3 y
        have sb : SR K (D :: O) (hide H3 (owned (L2.wipe σ vs) (wipeE ρ vs))) H3 (L2.wipe σ vs) (wipeE ρ vs) := sw.block g2 hD (by rw [hacc]; exact fun z => by cases z)
        refine ⟨wipeE ρ vs, D :: O, _, ds[i], sb, rx.mono fun b o e => ?_, ?_⟩
        · obtain ⟨nb, e'⟩ := hide_some e
          have ne : b ≠ D := ne_of_none e' hD
          rw [hide_out (by
            rw [List.cons_append, List.mem_cons, not_or]
            exact ⟨ne, fun z => nb ((List.mem_append.mp z).elim (List.mem_append_left _) fun w => List.mem_append_right _ (ow b w))⟩)]
          exact g2 b o e'
        · rw [edrop] at erest
          unfold dcL at erest
          cases et : τ ds[i] (wipeE ρ vs) with
          | ex x => rw [et] at erest; cases erest
          | bad => rw [et] at erest; cases erest
          | ok ρ1 =>
            rw [et] at erest
            dsimp only at erest
            intro σ1 sr1 but
            refine ⟨?_, ρ1, D :: O, _, sr1, ?_⟩
            · apply List.ext_getElem?
              intro j
              rw [wipe_get, wipe_get]
              by_cases hj : j ∈ vs
              · rw [if_pos hj, if_pos hj]
                have hl : σ1.length = σ.length := by rw [but.1, wipe_length]
                by_cases hjl : j < σ.length
                · rw [List.getElem?_eq_getElem hjl, List.getElem?_eq_getElem (by omega)]
                  rfl
                · rw [List.getElem?_eq_none (by omega), List.getElem?_eq_none (by omega)]
              · rw [if_neg hj, if_neg hj, but.2 j fun z => hj (hvs j z), wipe_get, if_neg hj]
            · cases ett : tt ρ1 with
              | ex x => rw [ett] at erest; cases erest
              | bad => rw [ett] at erest; cases erest
              | ok bb =>
                rw [ett] at erest
                intro H4 g4
                cases bb with
                | false =>
                  rw [if_neg Bool.false_ne_true]
                  dsimp only at erest
                  exact ⟨acc, accD, g4 _ _ hacc, RpKV.mono (hide_same _ g4) racc, by omega, g2.trans g4, erest⟩
                | true =>
                  rw [if_pos rfl]
                  dsimp only at erest
                  refine ⟨ρ1, D :: O, _, sr1.grow g4, ?_⟩
                  cases etk : tk ρ1 with
                  | ex x => rw [etk] at erest; cases erest
                  | bad => rw [etk] at erest; cases erest
                  | ok kd =>
                    rw [etk] at erest
                    dsimp only at erest
                    intro H5 u g5 ru
                    refine ⟨ρ1, D :: O, _, (sr1.grow g4).grow g5, ?_⟩
                    cases etv : tv ρ1 with
                    | ex x => rw [etv] at erest; cases erest
                    | bad => rw [etv] at erest; cases erest
                    | ok yd =>
                      rw [etv] at erest
                      dsimp only at erest
                      intro H6 v g6 rv
                      cases ek : keyOf kd with
                      | none => rw [ek] at erest; cases erest
                      | some k =>
                        rw [ek] at erest
                        dsimp only at erest
                        have hu := RpB.key (RpB.toRp ru) ek
                        have g46 := g4.trans (g5.trans g6)
                        have hT : D ∈ T := List.mem_cons_self
                        have rvT : Rp K (hide H6 T) v yd := rv.mono (hide_less fun a ha => ?_)
                        refine ⟨acc, k, hu, g46 _ _ hacc, by rw [← mx_line]; omega, putK acc k v, esPut accD k yd, upd_same, ?_, Nat.le_trans (length_putK _ _ _) (Nat.succ_le_succ lacc), ?_, erest⟩
                        · rw [hide_upd hT]
                          exact RpD.put k (RpKV.mono (hide_same _ g46) racc) rvT
                        · intro b o e
                          rw [upd_ne (ne_of_none e hD)]
                          exact g46 b o (g2 b o e)
                        · rcases List.mem_cons.mp ha with e | h
                          · subst e; exact List.mem_append_left _ List.mem_cons_self
                          · rcases List.mem_append.mp h with h | h
                            · exact List.mem_append_left _ (List.mem_cons_of_mem _ h)
                            · exact List.mem_append_right _ (keep et but a h)
      · have ei : i = ds.length := by omega
        subst ei
        rw [List.drop_length] at erest
        cases erest
        exact .inl ⟨(wk H2 g2 _).2 (Nat.le_refl _), q H2 D (g.trans g2) (by
          cases z : H D with
          | none => rfl
          | some o => rw [g D o z] at hD; cases hD) (.inr (.inl ⟨acc, _, rfl, hacc, racc⟩))⟩
theorem oe_dc {kx vx tg iter : Expr} {ifs : List Expr} {scope : Scope} {pos : Pos} {is : List Nat} {fi : En → Rs (List PyData)} {τ : TgD} {tt : En → Rs Bool} {tk tv : En → Rs PyData} (own : List (Str × Nat)) (hc : X.calm = true) (hN : X.N.Nodup) (hi : DI X W true tg iter fi) (ok : BlkOk X.N X.env.scope scope own)
    (hg : ∀ (s : Shared) (H : Hp) (C : Addr) (cl : List (Str × Addr)) (fp : List Addr), DG (X.blk s H scope (compEnvC scope cl C X.env) fp) tg is τ) (hτ : TgOk is τ)
    (ht : ∀ (s : Shared) (H : Hp) (C : Addr) (cl : List (Str × Addr)) (fp : List Addr), DTs (X.blk s H scope (compEnvC scope cl C X.env) fp) WF ifs tt)
    (hk : ∀ (s : Shared) (H : Hp) (C : Addr) (cl : List (Str × Addr)) (fp : List Addr), DE (X.blk s H scope (compEnvC scope cl C X.env) fp) WF kx tk)
    (he : ∀ (s : Shared) (H : Hp) (C : Addr) (cl : List (Str × Addr)) (fp : List Addr), DE (X.blk s H scope (compEnvC scope cl C X.env) fp) WF vx tv) (hvs : ∀ j ∈ is, j ∈ own.map (·.2) := by decide) (hs : ∀ x, foldedSetIterable iter X.env x = pure x := by intro _; rfl) :
    OE X W (.DictComp kx vx [⟨tg, iter, ifs, 0⟩] scope pos) (dcD (own.map (·.2)) fi τ tt tk tv) :=
  PE.imp (pe_dc hc hN hi ok hg ht hk he hs) fun σ H Q q => dc_go hvs hτ q
end
end DL

/-! SH8: typed readings of dicts. -/
namespace DL
open PySem PySem.Spec PyProof.Rows L2
def eD {κ β : Type} (ek : κ → PyData) (ev : β → PyData) (xs : List (κ × β)) : PyData := .dict (xs.map fun p => (ek p.1, ev p.2))
structure KyE {κ : Type} (ek : κ → PyData) : Prop where
  key : ∀ a, ∃ j, keyOf (ek a) = some j
  inj : ∀ a b, keyOf (ek a) = keyOf (ek b) → a = b
theorem kyI : KyE PyData.int := ⟨fun a => ⟨_, rfl⟩, fun a b h => by cases h; rfl⟩
theorem kyS : KyE PyData.str := ⟨fun a => ⟨_, rfl⟩, fun a b h => by cases h; rfl⟩
section
variable {κ β : Type} [DecidableEq κ]
def lookA : List (κ × β) → κ → Option β
  | [], _ => none
  | p :: ps, k => if p.1 = k then some p.2 else lookA ps k
def hasA (xs : List (κ × β)) (k : κ) : Bool := (lookA xs k).isSome
def putA (xs : List (κ × β)) (k : κ) (v : β) : List (κ × β) := if hasA xs k then xs.map (fun p => if p.1 = k then (p.1, v) else p) else xs ++ [(k, v)]
def getA (xs : List (κ × β)) (k : κ) : Rs β := match lookA xs k with
  | some v => .ok v
  | none => .bad
def putR (xs : List (κ × β)) (k : κ) (v : β) : Rs (List (κ × β)) := if xs.length < mx then .ok (putA xs k v) else .bad
theorem putR_ok {xs : List (κ × β)} {k : κ} {v : β} (h : xs.length < mx) : putR xs k v = .ok (putA xs k v) := if_pos h
theorem getA_ok {xs : List (κ × β)} {k : κ} {v : β} (h : lookA xs k = some v) : getA xs k = .ok v := by unfold getA; rw [h]
theorem lookA_put (xs : List (κ × β)) (k j : κ) (v : β) : lookA (putA xs k v) j = if k = j then some v else lookA xs j := by
  unfold putA hasA
  cases e : lookA xs k with
  | none =>
    rw [if_neg (by simp)]
    induction xs with
    | nil => rfl
    | cons p xs ih =>
      unfold lookA at e
      by_cases h : p.1 = k
      · rw [if_pos h] at e; cases e
      · rw [if_neg h] at e
        rw [List.cons_append]
        unfold lookA
        rw [ih e]
        by_cases h2 : p.1 = j
        · rw [if_pos h2, if_pos h2, if_neg (fun z => h (h2.trans z.symm))]
        · rw [if_neg h2, if_neg h2]
  | some w =>
    rw [if_pos (by rfl)]
    induction xs with
    | nil => cases e
    | cons p xs ih =>
      rw [List.map_cons]
      unfold lookA at e ⊢
      by_cases h : p.1 = k
      · rw [if_pos h]
        by_cases h2 : k = j
        · rw [if_pos (h.trans h2), if_pos h2]
        · rw [if_neg (fun z => h2 (h.symm.trans z)), if_neg h2, if_neg (fun z => h2 (h.symm.trans z))]
          clear ih e
          induction xs with
          | nil => rfl
          | cons q xs ih2 =>
            rw [List.map_cons]
            unfold lookA
            rw [ih2]
            by_cases h3 : q.1 = k
            · rw [if_pos h3, if_neg (show ¬ (q.1, v).1 = j from fun z => h2 (h3.symm.trans z)), if_neg (fun z => h2 (h3.symm.trans z))]
            · rw [if_neg h3]
      · rw [if_neg h] at e
        rw [if_neg h, ih e]
        by_cases h2 : p.1 = j
        · rw [if_pos h2, if_pos h2, if_neg (fun z => h (h2.trans z.symm))]
        · rw [if_neg h2, if_neg h2]
theorem putA_len (xs : List (κ × β)) (k : κ) (v : β) : (putA xs k v).length ≤ xs.length + 1 := by
  unfold putA
  split
  · rw [List.length_map]; exact Nat.le_succ _
  · rw [List.length_append]; exact Nat.le_refl _
variable {ek : κ → PyData} {ev : β → PyData}
theorem KyE.iff (h : KyE ek) {a b : κ} {j : Key} (e : keyOf (ek b) = some j) : keyOf (ek a) = some j ↔ a = b := ⟨fun z => h.inj a b (z.trans e.symm), fun z => by rw [z]; exact e⟩
theorem es_get (h : KyE ek) (xs : List (κ × β)) {k : κ} {j : Key} (e : keyOf (ek k) = some j) : esGet (xs.map fun p => (ek p.1, ev p.2)) j = (lookA xs k).map ev := by
  induction xs with
  | nil => rfl
  | cons p xs ih =>
    rw [List.map_cons]
    unfold esGet lookA
    by_cases c : p.1 = k
    · rw [if_pos ((h.iff e).mpr c), if_pos c]; rfl
    · rw [if_neg (fun z => c ((h.iff e).mp z)), if_neg c, ih]
theorem es_has (h : KyE ek) (xs : List (κ × β)) {k : κ} {j : Key} (e : keyOf (ek k) = some j) : esHas (xs.map fun p => (ek p.1, ev p.2)) j = hasA xs k := by
  unfold hasA
  induction xs with
  | nil => rfl
  | cons p xs ih =>
    unfold esHas at ih ⊢
    rw [List.map_cons, List.any_cons, ih]
    have e2 : lookA (p :: xs) k = if p.1 = k then some p.2 else lookA xs k := rfl
    rw [e2]
    by_cases c : p.1 = k
    · rw [if_pos c, decide_eq_true ((h.iff e).mpr c)]; rfl
    · rw [if_neg c, decide_eq_false (fun z => c ((h.iff e).mp z)), Bool.false_or]
theorem es_put (h : KyE ek) (xs : List (κ × β)) {k : κ} {j : Key} (v : β) (e : keyOf (ek k) = some j) : esPut (xs.map fun p => (ek p.1, ev p.2)) j (ev v) = (putA xs k v).map fun p => (ek p.1, ev p.2) := by
  unfold esPut putA
  rw [es_has h xs e]
  by_cases c : hasA xs k = true
  · rw [if_pos c, if_pos c, List.map_map, List.map_map]
    apply List.map_congr_left
    intro p _
    show (if keyOf (ek p.1) = some j then (ek p.1, ev v) else (ek p.1, ev p.2)) = (ek (if p.1 = k then (p.1, v) else p).1, ev (if p.1 = k then (p.1, v) else p).2)
    by_cases d : p.1 = k
    · rw [if_pos ((h.iff e).mpr d), if_pos d]
    · rw [if_neg (fun z => d ((h.iff e).mp z)), if_neg d]
  · rw [if_neg c, if_neg c, List.map_append, ← keyOf_some e]
    rfl
theorem dictOk_map (h : KyE ek) (xs : List (κ × β)) : dictOk (xs.map fun p => (ek p.1, ev p.2)) = true := by
  cases xs with
  | nil => rfl
  | cons p xs =>
    obtain ⟨j, e⟩ := h.key p.1
    show (keyOf (ek p.1)).isSome = true
    rw [e]; rfl
theorem q_dget (h : KyE ek) (xs : List (κ × β)) (k : κ) : Q ev (getA xs k) (oGet (eD ek ev xs) (ek k)) := by
  obtain ⟨j, e⟩ := h.key k
  unfold oGet eD getA
  dsimp only
  rw [if_pos (dictOk_map h xs), e]
  dsimp only
  rw [es_get h xs e]
  cases lookA xs k with
  | none => exact qbad
  | some v => exact qp rfl
theorem in_D (h : KyE ek) (k : κ) (xs : List (κ × β)) : oInD (ek k) (eD ek ev xs) = .ok (.bool (hasA xs k)) := by
  obtain ⟨j, e⟩ := h.key k
  have e1 : oInD (ek k) (eD ek ev xs) = if dictOk (xs.map fun p => (ek p.1, ev p.2)) = true then (match keyOf (ek k) with
    | some k => .ok (.bool (esGet (xs.map fun p => (ek p.1, ev p.2)) k).isSome)
    | none => .bad) else .bad := by cases ek k <;> rfl
  rw [e1, if_pos (dictOk_map h xs), e]
  dsimp only
  rw [es_get h xs e, Option.isSome_map]
  rfl
theorem notin_D (h : KyE ek) (k : κ) (xs : List (κ × β)) : oNotInD (ek k) (eD ek ev xs) = .ok (.bool (!hasA xs k)) := by
  obtain ⟨j, e⟩ := h.key k
  have e1 : oNotInD (ek k) (eD ek ev xs) = if dictOk (xs.map fun p => (ek p.1, ev p.2)) = true then (match keyOf (ek k) with
    | some k => .ok (.bool (!(esGet (xs.map fun p => (ek p.1, ev p.2)) k).isSome))
    | none => .bad) else .bad := by cases ek k <;> rfl
  rw [e1, if_pos (dictOk_map h xs), e]
  dsimp only
  rw [es_get h xs e, Option.isSome_map]
  rfl
theorem get2_D (h : KyE ek) (k : κ) (xs : List (κ × β)) (x : PyData) : oGet2 (xs.map fun p => (ek p.1, ev p.2)) (ek k) x = .ok (((lookA xs k).map ev).getD x) := by
  obtain ⟨j, e⟩ := h.key k
  unfold oGet2
  rw [e]
  dsimp only
  rw [es_get h xs e]
theorem dict1_D (h : KyE ek) (k : κ) (v : β) : oDict1 (ek k) (ev v) = .ok (eD ek ev [(k, v)]) := by
  obtain ⟨j, e⟩ := h.key k
  unfold oDict1
  rw [e]
  dsimp only
  rw [← keyOf_some e]
  rfl
section
variable {fo fk fx : En → Rs PyData} {ρ : En} {rx : Rs (List (κ × β))} {rk : Rs κ} {rv : Rs β}
theorem q_getM1 (h : KyE ek) (h1 : Q (eD ek ev) rx (fo ρ)) (h2 : Q ek rk (fk ρ)) : Q (eO ev) (rx.bind fun xs => rk.bind fun k => .ok (lookA xs k)) (getM1 fo fk ρ) := by
  unfold getM1
  refine qbind h1 fun xs => ?_
  show Q _ _ (if dictOk (xs.map fun p => (ek p.1, ev p.2)) = true then _ else _)
  rw [if_pos (dictOk_map h xs)]
  refine qbind h2 fun k => ?_
  rw [get2_D h]
  cases lookA xs k <;> exact qp rfl
theorem q_getM2 (h : KyE ek) (h1 : Q (eD ek ev) rx (fo ρ)) (h2 : Q ek rk (fk ρ)) (h3 : Q ev rv (fx ρ)) : Q ev (rx.bind fun xs => rk.bind fun k => rv.bind fun v => .ok ((lookA xs k).getD v)) (getM2 fo fk fx ρ) := by
  unfold getM2
  refine qbind h1 fun xs => ?_
  show Q _ _ (if dictOk (xs.map fun p => (ek p.1, ev p.2)) = true then _ else _)
  rw [if_pos (dictOk_map h xs)]
  refine qbind h2 fun k => qbind h3 fun v => ?_
  rw [get2_D h]
  cases lookA xs k <;> exact qp rfl
end
section
variable {R : Type} {m : Md R} {K : En → SRes} {ρ : En} {f fk : En → Rs PyData} {k : List (κ × β) → Rs R}
theorem r_putM (h : KyE ek) {i : Nat} {xs : List (κ × β)} {rx : Rs β} {rj : Rs κ} (hz : m.Z ρ) (hi : ρ[i]? = some (some (.own (eD ek ev xs)))) (hf : Q ev rx (f ρ)) (hj : Q ek rj (fk ρ)) (hk : ∀ ys, m.H (k ys) (K (ρ.set i (some (.own (eD ek ev ys)))))) : m.H (rx.bind fun x => rj.bind fun j => (putR xs j x).bind k) (sThen (sPut i fk f ρ) K) := by
  have e0 : sPut i fk f ρ = if dictOk (xs.map fun p => (ek p.1, ev p.2)) = true then eS ρ (f ρ) fun d => eS ρ (fk ρ) fun k => match keyOf k with
    | some k => if (xs.map fun p => (ek p.1, ev p.2)).length < mx then .nx (ρ.set i (some (.own (.dict (esPut (xs.map fun p => (ek p.1, ev p.2)) k d))))) else .bad
    | none => .bad
    else .bad := by
    unfold sPut
    rw [hi]
    rfl
  rw [e0, if_pos (dictOk_map h xs)]
  refine hM hz hf fun x => ?_
  refine hM hz hj fun j => ?_
  obtain ⟨j', e⟩ := h.key j
  rw [e]
  dsimp only
  unfold putR
  rw [List.length_map]
  by_cases c : xs.length < mx
  · rw [if_pos c, if_pos c, es_put h xs x e]
    exact hk _
  · rw [if_neg c, if_neg c]
    exact ⟨m.bad _⟩
end
end
/-! ### comprehensions -/
section
variable {α κ β : Type} [DecidableEq κ] {ek : κ → PyData} {ev : β → PyData} {eb : α → PyData}
def dcA (key : α → κ) (val : α → β) (xs : List α) (es : List (κ × β)) : List (κ × β) := xs.foldl (fun es x => putA es (key x) (val x)) es
def dcP (xs : List α) (p : α → Bool) (key : α → κ) (val : α → β) : Rs (List (κ × β)) := if xs.length ≤ mx then .ok (dcA key val (xs.filter p) []) else .bad
theorem dcP_ok {xs : List α} {p : α → Bool} {key : α → κ} {val : α → β} (h : xs.length ≤ mx) : dcP xs p key val = .ok (dcA key val (xs.filter p) []) := if_pos h
def dcG (p : α → Rs Bool) (key : α → Rs κ) (val : α → Rs β) : List α → List (κ × β) → Rs (List (κ × β))
  | [], es => .ok es
  | x :: xs, es => match p x with
    | .ok true => (match key x with
      | .ok k => (match val x with
        | .ok v => dcG p key val xs (putA es k v)
        | _ => .bad)
      | _ => .bad)
    | .ok false => dcG p key val xs es
    | _ => .bad
def dcR (xs : List α) (p : α → Rs Bool) (key : α → Rs κ) (val : α → Rs β) : Rs (List (κ × β)) := if xs.length ≤ mx then dcG p key val xs [] else .bad
theorem dcG_noex (p : α → Rs Bool) (key : α → Rs κ) (val : α → Rs β) : ∀ (xs : List α) (es : List (κ × β)) (z : Exn), dcG p key val xs es ≠ .ex z
  | [], _, _ => fun h => by cases h
  | x :: xs, es, z => by
    unfold dcG
    split
    · split
      · split
        · exact dcG_noex p key val xs _ z
        · exact fun h => by cases h
      · exact fun h => by cases h
    · exact dcG_noex p key val xs es z
    · exact fun h => by cases h
theorem dcL_G (h : KyE ek) {τ : TgD} {tt : En → Rs Bool} {tk tv : En → Rs PyData} {ρw : En} {p : α → Rs Bool} {key : α → Rs κ} {val : α → Rs β} (hb : ∀ x, ∃ ρ1, τ (eb x) ρw = .ok ρ1 ∧ Q id (p x) (tt ρ1) ∧ Q ek (key x) (tk ρ1) ∧ Q ev (val x) (tv ρ1)) : ∀ (xs : List α) (es ys : List (κ × β)), dcG p key val xs es = .ok ys → dcL τ tt tk tv (xs.map eb) ρw (es.map fun p => (ek p.1, ev p.2)) = .ok (ys.map fun p => (ek p.1, ev p.2))
  | [], es, ys, h => by cases h; rfl
  | x :: xs, es, ys, hh => by
    obtain ⟨ρ1, h1, h2, h3, h4⟩ := hb x
    rw [List.map_cons]
    unfold dcL
    rw [h1]
    unfold dcG at hh
    cases ep : p x with
    | bad => rw [ep] at hh; cases hh
    | ex z => rw [ep] at hh; cases hh
    | ok b =>
      rw [ep] at hh h2
      dsimp only
      rw [show tt ρ1 = .ok b from h2.out]
      cases b with
      | false => exact dcL_G h hb xs es ys hh
      | true =>
        dsimp only at hh ⊢
        cases e1 : key x with
        | bad => rw [e1] at hh; cases hh
        | ex z => rw [e1] at hh; cases hh
        | ok k =>
          rw [e1] at hh h3
          rw [show tk ρ1 = .ok (ek k) from h3.out]
          dsimp only at hh ⊢
          cases e2 : val x with
          | bad => rw [e2] at hh; cases hh
          | ex z => rw [e2] at hh; cases hh
          | ok v =>
            rw [e2] at hh h4
            rw [show tv ρ1 = .ok (ev v) from h4.out]
            obtain ⟨j, e⟩ := h.key k
            rw [e]
            dsimp only at hh ⊢
            rw [es_put h es v e]
            exact dcL_G h hb xs _ ys hh
theorem q_dcR (h : KyE ek) {vs : List Nat} {fi : En → Rs (List PyData)} {τ : TgD} {tt : En → Rs Bool} {tk tv : En → Rs PyData} {ρ ρw : En} {xs : List α} {p : α → Rs Bool} {key : α → Rs κ} {val : α → Rs β} (hi : fi ρ = .ok (xs.map eb)) (no : noOwn ρ vs = true) (hw : wipeE ρ vs = ρw)
    (hb : ∀ x, ∃ ρ1, τ (eb x) ρw = .ok ρ1 ∧ Q id (p x) (tt ρ1) ∧ Q ek (key x) (tk ρ1) ∧ Q ev (val x) (tv ρ1)) : Q (eD ek ev) (dcR xs p key val) (dcD vs fi τ tt tk tv ρ) := by
  have e0 : dcD vs fi τ tt tk tv ρ = (fi ρ).bind fun ds => if ds.length ≤ mx && noOwn ρ vs then (dcL τ tt tk tv ds (wipeE ρ vs) []).bind fun r => .ok (.dict r) else .bad := rfl
  rw [e0, hi, bind_ok, List.length_map, no, hw]
  unfold dcR
  by_cases c : xs.length ≤ mx
  · rw [if_pos c, if_pos (by rw [decide_eq_true c]; rfl)]
    cases e : dcG p key val xs [] with
    | bad => exact qbad
    | ex z => exact absurd e (dcG_noex p key val xs [] z)
    | ok ys => exact qp (pbind (dcL_G (eb := eb) (ev := ev) h hb xs [] ys e) rfl)
  · rw [if_neg c]
    exact qbad
theorem q_dcMR (h : KyE ek) {vs : List Nat} {fi : En → Rs (List PyData)} {τ : TgD} {tt : En → Rs Bool} {tk tv : En → Rs PyData} {ρ ρw : En} {rx : Rs (List α)} {p : α → Rs Bool} {key : α → Rs κ} {val : α → Rs β} (hi : Q (List.map eb) rx (fi ρ)) (no : noOwn ρ vs = true) (hw : wipeE ρ vs = ρw)
    (hb : ∀ x, ∃ ρ1, τ (eb x) ρw = .ok ρ1 ∧ Q id (p x) (tt ρ1) ∧ Q ek (key x) (tk ρ1) ∧ Q ev (val x) (tv ρ1)) : Q (eD ek ev) (rx.bind fun xs => dcR xs p key val) (dcD vs fi τ tt tk tv ρ) := by
  cases rx with
  | ok xs => exact q_dcR h hi.out no hw hb
  | ex z =>
    have e0 : dcD vs fi τ tt tk tv ρ = (fi ρ).bind fun ds => if ds.length ≤ mx && noOwn ρ vs then (dcL τ tt tk tv ds (wipeE ρ vs) []).bind fun r => .ok (.dict r) else .bad := rfl
    rw [e0, show fi ρ = .ex z from hi.out]
    exact ⟨rfl⟩
  | bad => exact qbad
end
end DL

namespace S
open PySem PySem.Spec PyProof.Rows L2 DL
noncomputable section
def l_ring_of_1 : En → SRes :=
  (sIf (tst (b2 oEq (dVar 2) (dVar 1)))
  (sRet (dVar 3))
  sNil)
def b_ring_of : En → SRes :=
  (sSeq (sFor (iOf oAny (b2 oIx (dVar 0) (dC (.int 0)))) (τTup [2, 3]) l_ring_of_1)
  (sRet (dC .none)))
def g_ring_of : List PyData → Rs PyData := runF 4 2 b_ring_of
def f_ring_of (p_city : ((List (Str × Int)) × (List (Str × Str × (List Str))))) (p_stop : Str) : Rs (Option Int) :=
  ((forC (fun (s1 : Unit) (x4 : (Str × Int)) => ((if (decide (x4.1 = p_stop)) then (.ok (.ret (some x4.2)))
  else (.ok (.nx ()))) : Rs (Ct (Unit) (Option Int)))) p_city.1 ()).bind fun t => t.nxt (fun (s1 : Unit) =>
  (.ok none)) (fun v => .ok v))
theorem h_ring_of (p_city : ((List (Str × Int)) × (List (Str × Str × (List Str))))) (p_stop : Str) : Q (eO PyData.int) (f_ring_of p_city p_stop) (S.g_ring_of [((eP2 (eT (eP2 PyData.str PyData.int)) (eT (eP3 PyData.str PyData.str (eT PyData.str)))) p_city), (PyData.str p_stop)]) :=
  r_fun rfl (show _ = [(some (.val ((eP2 (eT (eP2 PyData.str PyData.int)) (eT (eP3 PyData.str PyData.str (eT PyData.str)))) p_city))), (some (.val (PyData.str p_stop))), none, none] from rfl) (by
  unfold f_ring_of
  exact (r_seq (r_forC (fun (s1 : Unit) ρ => ∃ (_ : Unit) (z2 : Option PyData) (z3 : Option PyData), ρ = [(some (.val ((eP2 (eT (eP2 PyData.str PyData.int)) (eT (eP3 PyData.str PyData.str (eT PyData.str)))) p_city))), (some (.val (PyData.str p_stop))), (nv z2), (nv z3)]) (eO PyData.int) (s0 := ()) (p_iOf (p_b2 (pv ((eP2 (eT (eP2 PyData.str PyData.int)) (eT (eP3 PyData.str PyData.str (eT PyData.str)))) p_city)) (pc (.int 0)) (ix2_0 (eT (eP2 PyData.str PyData.int)) (eT (eP3 PyData.str PyData.str (eT PyData.str))) _)) (any_T (eP2 PyData.str PyData.int) _)) ⟨(), none, none, rfl⟩
  (fun s1 x4 ρ hr => by
  obtain ⟨_, z2, z3, rfl⟩ := hr
  exact ⟨_, rfl, (r_if (p_tst (p_b2 (pv (PyData.str x4.1)) (pv (PyData.str p_stop)) (eq_ss _ _)))
  (r_retL (pv (PyData.int x4.2)))
  (r_nil (r_endL (s := ()) ⟨(), (some (PyData.str x4.1)), (some (PyData.int x4.2)), rfl⟩)))⟩)
  (fun s1 ρ hr => by
  obtain ⟨_, z2, z3, rfl⟩ := hr
  exact (r_retF (pc .none))) r_rF)))
def f_line_of_c (p_city : ((List (Str × Int)) × (List (Str × Str × (List Str))))) (p_name : Str) : Rs (Option (Str × Str × (List Str))) :=
  ((forC (fun (s1 : Unit) (x3 : (Str × Str × (List Str))) => ((if (decide (x3.1 = p_name)) then (.ok (.ret (some x3)))
  else (.ok (.nx ()))) : Rs (Ct (Unit) (Option (Str × Str × (List Str)))))) p_city.2 ()).bind fun t => t.nxt (fun (s1 : Unit) =>
  (.ok none)) (fun v => .ok v))
theorem h_line_of_c (p_city : ((List (Str × Int)) × (List (Str × Str × (List Str))))) (p_name : Str) : Q (eO (eP3 PyData.str PyData.str (eT PyData.str))) (f_line_of_c p_city p_name) (S.g_line_of [((eP2 (eT (eP2 PyData.str PyData.int)) (eT (eP3 PyData.str PyData.str (eT PyData.str)))) p_city), (PyData.str p_name)]) :=
  r_fun rfl (show _ = [(some (.val ((eP2 (eT (eP2 PyData.str PyData.int)) (eT (eP3 PyData.str PyData.str (eT PyData.str)))) p_city))), (some (.val (PyData.str p_name))), none] from rfl) (by
  unfold f_line_of_c
  exact (r_seq (r_forC (fun (s1 : Unit) ρ => ∃ (_ : Unit) (z2 : Option PyData), ρ = [(some (.val ((eP2 (eT (eP2 PyData.str PyData.int)) (eT (eP3 PyData.str PyData.str (eT PyData.str)))) p_city))), (some (.val (PyData.str p_name))), (nv z2)]) (eO (eP3 PyData.str PyData.str (eT PyData.str))) (s0 := ()) (p_iOf (p_b2 (pv ((eP2 (eT (eP2 PyData.str PyData.int)) (eT (eP3 PyData.str PyData.str (eT PyData.str)))) p_city)) (pc (.int 1)) (ix2_1 (eT (eP2 PyData.str PyData.int)) (eT (eP3 PyData.str PyData.str (eT PyData.str))) _)) (any_T (eP3 PyData.str PyData.str (eT PyData.str)) _)) ⟨(), none, rfl⟩
  (fun s1 x3 ρ hr => by
  obtain ⟨_, z2, rfl⟩ := hr
  exact ⟨_, rfl, (r_if (p_tst (p_b2 (p_b2 (pv ((eP3 PyData.str PyData.str (eT PyData.str)) x3)) (pc (.int 0)) (ix3_0 PyData.str PyData.str (eT PyData.str) _)) (pv (PyData.str p_name)) (eq_ss _ _)))
  (r_retL (pv ((eP3 PyData.str PyData.str (eT PyData.str)) x3)))
  (r_nil (r_endL (s := ()) ⟨(), (some ((eP3 PyData.str PyData.str (eT PyData.str)) x3)), rfl⟩)))⟩)
  (fun s1 ρ hr => by
  obtain ⟨_, z2, rfl⟩ := hr
  exact (r_retF (pc .none))) r_rF)))
def l_carriers_of_1 : En → SRes :=
  (sIf (tst (b2 oNotIn (b2 oIx (dVar 2) (dC (.int 1))) (bVar 1)))
  (sApp 1 (b2 oIx (dVar 2) (dC (.int 1))))
  sNil)
def b_carriers_of : En → SRes :=
  (sSeq (sSetO 1 (mkL aNil))
  (sSeq (sFor (iOf oAny (b2 oIx (dVar 0) (dC (.int 1)))) (τName 2) l_carriers_of_1)
  (sRet (b1 oTuple (bVar 1)))))
def g_carriers_of : List PyData → Rs PyData := runF 3 1 b_carriers_of
def f_carriers_of (p_city : ((List (Str × Int)) × (List (Str × Str × (List Str))))) : Rs (List Str) :=
  ((forB (fun (s1 : (List Str)) (x3 : (Str × Str × (List Str))) => (letK (fun (s4 : (List Str)) => ((.ok s4) : Rs ((List Str)))) fun k5 =>
  (if (!decide (x3.2.1 ∈ s1)) then ((appR s1 x3.2.1).bind fun (found_8 : (List Str)) =>
  (k5 found_8))
  else (k5 s1)))) p_city.2 []).bind fun (s1 : (List Str)) =>
  (.ok s1))
theorem h_carriers_of (p_city : ((List (Str × Int)) × (List (Str × Str × (List Str))))) : Q (eT PyData.str) (f_carriers_of p_city) (S.g_carriers_of [((eP2 (eT (eP2 PyData.str PyData.int)) (eT (eP3 PyData.str PyData.str (eT PyData.str)))) p_city)]) :=
  r_fun rfl (show _ = [(some (.val ((eP2 (eT (eP2 PyData.str PyData.int)) (eT (eP3 PyData.str PyData.str (eT PyData.str)))) p_city))), none, none] from rfl) (by
  unfold f_carriers_of
  exact (r_seq (r_setOP (p_mkL (v := ((eL PyData.str) [])) (p_nil lstK_ok)) (r_seq (r_forB (fun (s1 : (List Str)) ρ => ∃ (_ : Unit) (z2 : Option PyData), ρ = [(some (.val ((eP2 (eT (eP2 PyData.str PyData.int)) (eT (eP3 PyData.str PyData.str (eT PyData.str)))) p_city))), (some (.own ((eL PyData.str) s1))), (nv z2)]) (bd := _) (s0 := []) (p_iOf (p_b2 (pv ((eP2 (eT (eP2 PyData.str PyData.int)) (eT (eP3 PyData.str PyData.str (eT PyData.str)))) p_city)) (pc (.int 1)) (ix2_1 (eT (eP2 PyData.str PyData.int)) (eT (eP3 PyData.str PyData.str (eT PyData.str))) _)) (any_T (eP3 PyData.str PyData.str (eT PyData.str)) _)) ⟨(), none, rfl⟩
  (fun s1 x3 ρ hr => by
  obtain ⟨_, z2, rfl⟩ := hr
  exact ⟨_, rfl, (r_joinK (fun (s4 : (List Str)) ρ => ∃ (_ : Unit), ρ = [(some (.val ((eP2 (eT (eP2 PyData.str PyData.int)) (eT (eP3 PyData.str PyData.str (eT PyData.str)))) p_city))), (some (.own ((eL PyData.str) s4))), (some (.val ((eP3 PyData.str PyData.str (eT PyData.str)) x3)))]) (fun s4 ρ hr => by
  obtain ⟨_, rfl⟩ := hr
  exact (r_endB (s := s4) ⟨(), (some ((eP3 PyData.str PyData.str (eT PyData.str)) x3)), rfl⟩)) fun K7 hk6 =>
  (r_if (p_tst (p_b2 (p_b2 (pv ((eP3 PyData.str PyData.str (eT PyData.str)) x3)) (pc (.int 1)) (ix3_1 PyData.str PyData.str (eT PyData.str) _)) (bv ((eL PyData.str) s1)) (notin_L eqS _ _)))
  (r_appP (xs := s1) rfl (p_b2 (pv ((eP3 PyData.str PyData.str (eT PyData.str)) x3)) (pc (.int 1)) (ix3_1 PyData.str PyData.str (eT PyData.str) _)) fun found_8 =>
  (hk6 found_8 _ ⟨(), rfl⟩))
  (r_nil (hk6 s1 _ ⟨(), rfl⟩))))⟩)
  (fun s1 ρ hr => by
  obtain ⟨_, z2, rfl⟩ := hr
  exact (r_retF (p_b1 (bv ((eL PyData.str) s1)) (tuple_L PyData.str _)))))))))
def e_legs_within_1 : En → Rs PyData :=
  (dVar 5)
def k_legs_within_1 : En → Rs PyData :=
  (dVar 4)
def e_legs_within_2 : En → Rs PyData :=
  (b2 oGet (dVar 3) (dVar 4))
def l_legs_within_2 : En → SRes :=
  (sSeq (sSet 11 (dCut (bVar 8) (pSo (b2 oMin2 (dVar 9) (dVar 10))) (pSo (b2 oAdd (b2 oMax2 (dVar 9) (dVar 10)) (dC (.int 1))))))
  (sIf (tAndD (tst (b2 oNe (dVar 10) (dVar 9))) (tst (b2 oLe (b1 oMax1 (dVar 11)) (dVar 2))))
  (sApp 6 (mkT (aCons (b2 oIx (dVar 7) (dC (.int 0))) (aCons (dVar 1) (aCons (b2 oIx (b2 oIx (dVar 7) (dC (.int 2))) (dVar 10)) aNil)))))
  sNil))
def l_legs_within_1 : En → SRes :=
  (sIf (tst (b2 oIn (dVar 1) (b2 oIx (dVar 7) (dC (.int 2)))))
  (sSeq (sSetO 8 (lcD [4] (iOf oAny (b2 oIx (dVar 7) (dC (.int 2)))) (τName 4) tY e_legs_within_2))
  (sSeq (sSet 9 (idxM oIndex (b2 oIx (dVar 7) (dC (.int 2))) (dVar 1)))
  (sFor (iRange1 (b1 oLen (bVar 8))) (τName 10) l_legs_within_2)))
  sNil)
def b_legs_within : En → SRes :=
  (sSeq (sSet 3 (dcD [4, 5] (iOf oAny (b2 oIx (dVar 0) (dC (.int 0)))) (τTup [4, 5]) tY k_legs_within_1 e_legs_within_1))
  (sSeq (sSetO 6 (mkL aNil))
  (sSeq (sFor (iOf oAny (b2 oIx (dVar 0) (dC (.int 1)))) (τName 7) l_legs_within_1)
  (sRet (b1 oTuple (bVar 6))))))
def g_legs_within : List PyData → Rs PyData := runF 12 3 b_legs_within
def f_legs_within (p_city : ((List (Str × Int)) × (List (Str × Str × (List Str))))) (p_stop : Str) (p_ring : Int) : Rs (List (Str × Str × Str)) :=
  ((dcR p_city.1 (fun x1 => (Rs.ok true)) (fun x1 => (Rs.ok x1.1)) fun x1 => (Rs.ok x1.2)).bind fun (rings_2 : (List (Str × Int))) =>
  ((forB (fun (s3 : (List (Str × Str × Str))) (x11 : (Str × Str × (List Str))) => (letK (fun (s12 : (List (Str × Str × Str))) => ((.ok s12) : Rs ((List (Str × Str × Str))))) fun k19 =>
  (if (decide (p_stop ∈ x11.2.2)) then ((lcR x11.2.2 (fun x22 => (Rs.ok true)) fun x22 => (getA rings_2 x22)).bind fun (path_23 : (List Int)) =>
  ((indR x11.2.2 p_stop).bind fun (here_26 : Int) =>
  ((rngR 0 (path_23.length : Int)).bind fun a45 => (forB (fun (s27 : (List (Str × Str × Str))) (x32 : Int) => ((Rs.ok (cutD path_23 (some (min2 here_26 x32)) (some ((max2 here_26 x32) + (1 : Int))))).bind fun (passed_33 : (List Int)) =>
  (letK (fun (s35 : (List (Str × Str × Str))) => ((.ok s35) : Rs ((List (Str × Str × Str))))) fun k38 =>
  ((if (!decide (x32 = here_26)) then ((maxR passed_33).bind fun a34 => (.ok (decide (a34 ≤ p_ring)))) else .ok false).bind fun c44 => if c44 then (((ixR x11.2.2 x32).bind fun a41 => (.ok (x11.1, p_stop, a41))).bind fun a43 => (appR s27 a43).bind fun (legs_42 : (List (Str × Str × Str))) =>
  (k38 legs_42))
  else (k38 s27))))) a45 s3).bind fun (s27 : (List (Str × Str × Str))) =>
  (k19 s27))))
  else (k19 s3)))) p_city.2 []).bind fun (s3 : (List (Str × Str × Str))) =>
  (.ok s3)))
theorem h_legs_within (p_city : ((List (Str × Int)) × (List (Str × Str × (List Str))))) (p_stop : Str) (p_ring : Int) : Q (eT (eP3 PyData.str PyData.str PyData.str)) (f_legs_within p_city p_stop p_ring) (S.g_legs_within [((eP2 (eT (eP2 PyData.str PyData.int)) (eT (eP3 PyData.str PyData.str (eT PyData.str)))) p_city), (PyData.str p_stop), (PyData.int p_ring)]) :=
  r_fun rfl (show _ = [(some (.val ((eP2 (eT (eP2 PyData.str PyData.int)) (eT (eP3 PyData.str PyData.str (eT PyData.str)))) p_city))), (some (.val (PyData.str p_stop))), (some (.val (PyData.int p_ring))), none, none, none, none, none, none, none, none, none] from rfl) (by
  unfold f_legs_within
  exact (r_seq (r_setM trivial (q_dcR (ek := PyData.str) (ev := PyData.int) (eb := (eP2 PyData.str PyData.int)) kyS (p_iOf (p_b2 (pv ((eP2 (eT (eP2 PyData.str PyData.int)) (eT (eP3 PyData.str PyData.str (eT PyData.str)))) p_city)) (pc (.int 0)) (ix2_0 (eT (eP2 PyData.str PyData.int)) (eT (eP3 PyData.str PyData.str (eT PyData.str))) _)) (any_T (eP2 PyData.str PyData.int) _)) (no_cons (no_rfl rfl) (no_cons (no_rfl rfl) no_nil)) (show wipeE _ _ = [(some (.val ((eP2 (eT (eP2 PyData.str PyData.int)) (eT (eP3 PyData.str PyData.str (eT PyData.str)))) p_city))), (some (.val (PyData.str p_stop))), (some (.val (PyData.int p_ring))), none, none, none, none, none, none, none, none, none] from rfl) (fun x1 => ⟨_, rfl, (qp (e := id) rfl), (qp (pv (PyData.str x1.1))), (qp (pv (PyData.int x1.2)))⟩)) fun rings_2 =>
  (r_seq (r_setOP (p_mkL (v := ((eL (eP3 PyData.str PyData.str PyData.str)) [])) (p_nil lstK_ok)) (r_seq (r_forB (fun (s3 : (List (Str × Str × Str))) ρ => ∃ (_ : Unit) (z4 : Option PyData) (z5 : Option PyData) (z6 : Option PyData) (z7 : Option SV) (z8 : Option PyData) (z9 : Option PyData) (z10 : Option PyData), ρ = [(some (.val ((eP2 (eT (eP2 PyData.str PyData.int)) (eT (eP3 PyData.str PyData.str (eT PyData.str)))) p_city))), (some (.val (PyData.str p_stop))), (some (.val (PyData.int p_ring))), (some (.val ((eD PyData.str PyData.int) rings_2))), (nv z4), (nv z5), (some (.own ((eL (eP3 PyData.str PyData.str PyData.str)) s3))), (nv z6), z7, (nv z8), (nv z9), (nv z10)]) (bd := _) (s0 := []) (p_iOf (p_b2 (pv ((eP2 (eT (eP2 PyData.str PyData.int)) (eT (eP3 PyData.str PyData.str (eT PyData.str)))) p_city)) (pc (.int 1)) (ix2_1 (eT (eP2 PyData.str PyData.int)) (eT (eP3 PyData.str PyData.str (eT PyData.str))) _)) (any_T (eP3 PyData.str PyData.str (eT PyData.str)) _)) ⟨(), none, none, none, _, none, none, none, rfl⟩
  (fun s3 x11 ρ hr => by
  obtain ⟨_, z4, z5, z6, z7, z8, z9, z10, rfl⟩ := hr
  exact ⟨_, rfl, (r_joinK (fun (s12 : (List (Str × Str × Str))) ρ => ∃ (_ : Unit) (z13 : Option PyData) (z14 : Option PyData) (z15 : Option SV) (z16 : Option PyData) (z17 : Option PyData) (z18 : Option PyData), ρ = [(some (.val ((eP2 (eT (eP2 PyData.str PyData.int)) (eT (eP3 PyData.str PyData.str (eT PyData.str)))) p_city))), (some (.val (PyData.str p_stop))), (some (.val (PyData.int p_ring))), (some (.val ((eD PyData.str PyData.int) rings_2))), (nv z13), (nv z14), (some (.own ((eL (eP3 PyData.str PyData.str PyData.str)) s12))), (some (.val ((eP3 PyData.str PyData.str (eT PyData.str)) x11))), z15, (nv z16), (nv z17), (nv z18)]) (fun s12 ρ hr => by
  obtain ⟨_, z13, z14, z15, z16, z17, z18, rfl⟩ := hr
  exact (r_endB (s := s12) ⟨(), z13, z14, (some ((eP3 PyData.str PyData.str (eT PyData.str)) x11)), _, z16, z17, z18, rfl⟩)) fun K21 hk20 =>
  (r_if (p_tst (p_b2 (pv (PyData.str p_stop)) (p_b2 (pv ((eP3 PyData.str PyData.str (eT PyData.str)) x11)) (pc (.int 2)) (ix3_2 PyData.str PyData.str (eT PyData.str) _)) (in_T eqS _ _)))
  (r_seq (r_setOM trivial (q_lcR PyData.int PyData.str (p_iOf (p_b2 (pv ((eP3 PyData.str PyData.str (eT PyData.str)) x11)) (pc (.int 2)) (ix3_2 PyData.str PyData.str (eT PyData.str) _)) (any_T PyData.str _)) (no_cons (no_nv (w := z4) rfl) no_nil) (show wipeE _ _ = [(some (.val ((eP2 (eT (eP2 PyData.str PyData.int)) (eT (eP3 PyData.str PyData.str (eT PyData.str)))) p_city))), (some (.val (PyData.str p_stop))), (some (.val (PyData.int p_ring))), (some (.val ((eD PyData.str PyData.int) rings_2))), none, (nv z5), (some (.own ((eL (eP3 PyData.str PyData.str PyData.str)) s3))), (some (.val ((eP3 PyData.str PyData.str (eT PyData.str)) x11))), z7, (nv z8), (nv z9), (nv z10)] from rfl) (fun x22 => ⟨_, rfl, (qp (e := id) rfl), (q_b2PP (pv ((eD PyData.str PyData.int) rings_2)) (pv (PyData.str x22)) (q_dget kyS _ _))⟩)) fun path_23 =>
  (r_seq (r_setM trivial (q_idxM (eo := (eT PyData.str)) (ee := PyData.str) (fun _ => rcvT) (qp (p_b2 (pv ((eP3 PyData.str PyData.str (eT PyData.str)) x11)) (pc (.int 2)) (ix3_2 PyData.str PyData.str (eT PyData.str) _))) (qp (pv (PyData.str p_stop))) fun _ _ => (q_indT eqS (fun _ => rfl) _ _)) fun here_26 =>
  (r_forBM (fun (s27 : (List (Str × Str × Str))) ρ => ∃ (_ : Unit) (z28 : Option PyData) (z29 : Option PyData) (z30 : Option PyData) (z31 : Option PyData), ρ = [(some (.val ((eP2 (eT (eP2 PyData.str PyData.int)) (eT (eP3 PyData.str PyData.str (eT PyData.str)))) p_city))), (some (.val (PyData.str p_stop))), (some (.val (PyData.int p_ring))), (some (.val ((eD PyData.str PyData.int) rings_2))), (nv z28), (nv z29), (some (.own ((eL (eP3 PyData.str PyData.str PyData.str)) s27))), (some (.val ((eP3 PyData.str PyData.str (eT PyData.str)) x11))), (some (.own ((eL PyData.int) path_23))), (some (.val (PyData.int here_26))), (nv z30), (nv z31)]) (s0 := s3) trivial (q_range1 (p_b1 (bv ((eL PyData.int) path_23)) (len_L PyData.int _))) ⟨(), z4, z5, z9, z10, rfl⟩
  (fun s27 x32 ρ hr => by
  obtain ⟨_, z28, z29, z30, z31, rfl⟩ := hr
  exact ⟨_, rfl, (r_seq (r_setM trivial (qp (p_cut (bv ((eL PyData.int) path_23)) (p_pSo (p_b2 (pv (PyData.int here_26)) (pv (PyData.int x32)) (min2_ii _ _))) (p_pSo (p_b2 (p_b2 (pv (PyData.int here_26)) (pv (PyData.int x32)) (max2_ii _ _)) (pc (.int 1)) (add_ii _ _))) (cut_L PyData.int _ _ _))) fun passed_33 =>
  (r_joinK (fun (s35 : (List (Str × Str × Str))) ρ => ∃ (_ : Unit) (z36 : Option PyData) (z37 : Option PyData), ρ = [(some (.val ((eP2 (eT (eP2 PyData.str PyData.int)) (eT (eP3 PyData.str PyData.str (eT PyData.str)))) p_city))), (some (.val (PyData.str p_stop))), (some (.val (PyData.int p_ring))), (some (.val ((eD PyData.str PyData.int) rings_2))), (nv z36), (nv z37), (some (.own ((eL (eP3 PyData.str PyData.str PyData.str)) s35))), (some (.val ((eP3 PyData.str PyData.str (eT PyData.str)) x11))), (some (.own ((eL PyData.int) path_23))), (some (.val (PyData.int here_26))), (some (.val (PyData.int x32))), (some (.val ((eL PyData.int) passed_33)))]) (fun s35 ρ hr => by
  obtain ⟨_, z36, z37, rfl⟩ := hr
  exact (r_endB (s := s35) ⟨(), z36, z37, (some (PyData.int x32)), (some ((eL PyData.int) passed_33)), rfl⟩)) fun K40 hk39 =>
  (r_ifM trivial (q_andDP (p_tst (p_b2 (pv (PyData.int x32)) (pv (PyData.int here_26)) (ne_ii _ _))) (q_tst (q_b2MP (q_b1P (pv ((eL PyData.int) passed_33)) (q_max1 _)) (pv (PyData.int p_ring)) fun a34 => (qp (le_ii _ _)))))
  (r_appM (xs := s27) trivial rfl (q_mkT (e := (eP3 PyData.str PyData.str PyData.str)) (q_callP (p_b2 (pv ((eP3 PyData.str PyData.str (eT PyData.str)) x11)) (pc (.int 0)) (ix3_0 PyData.str PyData.str (eT PyData.str) _)) (q_callP (pv (PyData.str p_stop)) (q_callM (q_b2PP (p_b2 (pv ((eP3 PyData.str PyData.str (eT PyData.str)) x11)) (pc (.int 2)) (ix3_2 PyData.str PyData.str (eT PyData.str) _)) (pv (PyData.int x32)) (q_ixT PyData.str _ _)) fun a41 => (q_callN (qp tupK_ok)))))) fun legs_42 =>
  (hk39 legs_42 _ ⟨(), z28, z29, rfl⟩))
  (r_nil (hk39 s27 _ ⟨(), z28, z29, rfl⟩))))))⟩)
  (fun s27 ρ hr => by
  obtain ⟨_, z28, z29, z30, z31, rfl⟩ := hr
  exact (hk20 s27 _ ⟨(), z28, z29, _, (some (PyData.int here_26)), z30, z31, rfl⟩)))))))
  (r_nil (hk20 s3 _ ⟨(), z4, z5, _, z8, z9, z10, rfl⟩))))⟩)
  (fun s3 ρ hr => by
  obtain ⟨_, z4, z5, z6, z7, z8, z9, z10, rfl⟩ := hr
  exact (r_retF (p_b1 (bv ((eL (eP3 PyData.str PyData.str PyData.str)) s3)) (tuple_L (eP3 PyData.str PyData.str PyData.str) _)))))))))))
def l__law_rings_1 : En → SRes :=
  (sPut 1 (b2 oIx (dVar 2) (dC (.int 0))) (b2 oIx (dVar 2) (dC (.int 1))))
def b__law_rings : En → SRes :=
  (sSeq (sSetO 1 (dC (.dict [])))
  (sSeq (sFor (iOf oAny (b2 oIx (dVar 0) (dC (.int 0)))) (τName 2) l__law_rings_1)
  (sFrz 1 (sRet (dVar 1)))))
def g__law_rings : List PyData → Rs PyData := runF 3 1 b__law_rings
def f__law_rings (p_city : ((List (Str × Int)) × (List (Str × Str × (List Str))))) : Rs (List (Str × Int)) :=
  ((forB (fun (s1 : (List (Str × Int))) (x3 : (Str × Int)) => ((Rs.ok x3.2).bind fun a5 => (Rs.ok x3.1).bind fun a6 => (putR s1 a6 a5).bind fun (rings_4 : (List (Str × Int))) =>
  (.ok rings_4))) p_city.1 []).bind fun (s1 : (List (Str × Int))) =>
  (.ok s1))
theorem h__law_rings (p_city : ((List (Str × Int)) × (List (Str × Str × (List Str))))) : Q (eD PyData.str PyData.int) (f__law_rings p_city) (S.g__law_rings [((eP2 (eT (eP2 PyData.str PyData.int)) (eT (eP3 PyData.str PyData.str (eT PyData.str)))) p_city)]) :=
  r_fun rfl (show _ = [(some (.val ((eP2 (eT (eP2 PyData.str PyData.int)) (eT (eP3 PyData.str PyData.str (eT PyData.str)))) p_city))), none, none] from rfl) (by
  unfold f__law_rings
  exact (r_seq (r_setOP (pc (.dict [])) (r_seq (r_forB (fun (s1 : (List (Str × Int))) ρ => ∃ (_ : Unit) (z2 : Option PyData), ρ = [(some (.val ((eP2 (eT (eP2 PyData.str PyData.int)) (eT (eP3 PyData.str PyData.str (eT PyData.str)))) p_city))), (some (.own ((eD PyData.str PyData.int) s1))), (nv z2)]) (bd := _) (s0 := []) (p_iOf (p_b2 (pv ((eP2 (eT (eP2 PyData.str PyData.int)) (eT (eP3 PyData.str PyData.str (eT PyData.str)))) p_city)) (pc (.int 0)) (ix2_0 (eT (eP2 PyData.str PyData.int)) (eT (eP3 PyData.str PyData.str (eT PyData.str))) _)) (any_T (eP2 PyData.str PyData.int) _)) ⟨(), none, rfl⟩
  (fun s1 x3 ρ hr => by
  obtain ⟨_, z2, rfl⟩ := hr
  exact ⟨_, rfl, (r_putM kyS (xs := s1) trivial rfl (qp (p_b2 (pv ((eP2 PyData.str PyData.int) x3)) (pc (.int 1)) (ix2_1 PyData.str PyData.int _))) (qp (p_b2 (pv ((eP2 PyData.str PyData.int) x3)) (pc (.int 0)) (ix2_0 PyData.str PyData.int _))) fun rings_4 =>
  (r_endB (s := rings_4) ⟨(), (some ((eP2 PyData.str PyData.int) x3)), rfl⟩))⟩)
  (fun s1 ρ hr => by
  obtain ⟨_, z2, rfl⟩ := hr
  exact (r_frz (r_retF (pv ((eD PyData.str PyData.int) s1))))))))))
def e__law_passed_1 : En → Rs PyData :=
  (b2 oIx (dVar 5) (dVar 8))
def e__law_passed_2 : En → Rs PyData :=
  (b2 oIx (dVar 5) (b2 oSub (dVar 6) (dVar 8)))
def l__law_passed_1 : En → SRes :=
  (sIf (tst (b2 oEq (b2 oIx (dVar 4) (dC (.int 0))) (dVar 1)))
  (sSeq (sSet 5 (b2 oIx (dVar 4) (dC (.int 2))))
  (sSeq (sIf (tOrD (tst (b2 oEq (dVar 2) (dVar 3))) (tOrD (tst (b2 oNotIn (dVar 2) (dVar 5))) (tst (b2 oNotIn (dVar 3) (dVar 5)))))
  (sRet (dC .none))
  sNil)
  (sSeq (sSet 6 (idxM oIndex (dVar 5) (dVar 2)))
  (sSeq (sSet 7 (idxM oIndex (dVar 5) (dVar 3)))
  (sSeq (sIf (tst (b2 oLt (dVar 6) (dVar 7)))
  (sRet (b1 oTuple (lcD [8] (iRange2 (dVar 6) (b2 oAdd (dVar 7) (dC (.int 1)))) (τName 8) tY e__law_passed_1)))
  sNil)
  (sRet (b1 oTuple (lcD [8] (iRange1 (b2 oAdd (b2 oSub (dVar 6) (dVar 7)) (dC (.int 1)))) (τName 8) tY e__law_passed_2))))))))
  sNil)
def b__law_passed : En → SRes :=
  (sSeq (sFor (iOf oAny (b2 oIx (dVar 0) (dC (.int 1)))) (τName 4) l__law_passed_1)
  (sRet (dC .none)))
def g__law_passed : List PyData → Rs PyData := runF 9 4 b__law_passed
def f__law_passed (p_city : ((List (Str × Int)) × (List (Str × Str × (List Str))))) (p_line : Str) (p_start : Str) (p_end : Str) : Rs (Option (List Str)) :=
  ((forC (fun (s1 : Unit) (x7 : (Str × Str × (List Str))) => ((if (decide (x7.1 = p_line)) then (if ((decide (p_start = p_end)) || ((!decide (p_start ∈ x7.2.2)) || (!decide (p_end ∈ x7.2.2)))) then (.ok (.ret none))
  else ((indR x7.2.2 p_start).bind fun (here_10 : Int) =>
  ((indR x7.2.2 p_end).bind fun (there_13 : Int) =>
  (if (decide (here_10 < there_13)) then (((((rngR here_10 (there_13 + (1 : Int))).bind fun a15 => (lcR a15 (fun x14 => (Rs.ok true)) fun x14 => (ixR x7.2.2 x14))).bind fun a16 => .ok a16).bind fun a => .ok (some a)).bind fun v => .ok (.ret v))
  else (((((rngR 0 ((here_10 - there_13) + (1 : Int))).bind fun a18 => (lcR a18 (fun x17 => (Rs.ok true)) fun x17 => (ixR x7.2.2 (here_10 - x17)))).bind fun a19 => .ok a19).bind fun a => .ok (some a)).bind fun v => .ok (.ret v))))))
  else (.ok (.nx ()))) : Rs (Ct (Unit) (Option (List Str))))) p_city.2 ()).bind fun t => t.nxt (fun (s1 : Unit) =>
  (.ok none)) (fun v => .ok v))
theorem h__law_passed (p_city : ((List (Str × Int)) × (List (Str × Str × (List Str))))) (p_line : Str) (p_start : Str) (p_end : Str) : Q (eO (eT PyData.str)) (f__law_passed p_city p_line p_start p_end) (S.g__law_passed [((eP2 (eT (eP2 PyData.str PyData.int)) (eT (eP3 PyData.str PyData.str (eT PyData.str)))) p_city), (PyData.str p_line), (PyData.str p_start), (PyData.str p_end)]) :=
  r_fun rfl (show _ = [(some (.val ((eP2 (eT (eP2 PyData.str PyData.int)) (eT (eP3 PyData.str PyData.str (eT PyData.str)))) p_city))), (some (.val (PyData.str p_line))), (some (.val (PyData.str p_start))), (some (.val (PyData.str p_end))), none, none, none, none, none] from rfl) (by
  unfold f__law_passed
  exact (r_seq (r_forC (fun (s1 : Unit) ρ => ∃ (_ : Unit) (z2 : Option PyData) (z3 : Option PyData) (z4 : Option PyData) (z5 : Option PyData) (z6 : Option PyData), ρ = [(some (.val ((eP2 (eT (eP2 PyData.str PyData.int)) (eT (eP3 PyData.str PyData.str (eT PyData.str)))) p_city))), (some (.val (PyData.str p_line))), (some (.val (PyData.str p_start))), (some (.val (PyData.str p_end))), (nv z2), (nv z3), (nv z4), (nv z5), (nv z6)]) (eO (eT PyData.str)) (s0 := ()) (p_iOf (p_b2 (pv ((eP2 (eT (eP2 PyData.str PyData.int)) (eT (eP3 PyData.str PyData.str (eT PyData.str)))) p_city)) (pc (.int 1)) (ix2_1 (eT (eP2 PyData.str PyData.int)) (eT (eP3 PyData.str PyData.str (eT PyData.str))) _)) (any_T (eP3 PyData.str PyData.str (eT PyData.str)) _)) ⟨(), none, none, none, none, none, rfl⟩
  (fun s1 x7 ρ hr => by
  obtain ⟨_, z2, z3, z4, z5, z6, rfl⟩ := hr
  exact ⟨_, rfl, (r_if (p_tst (p_b2 (p_b2 (pv ((eP3 PyData.str PyData.str (eT PyData.str)) x7)) (pc (.int 0)) (ix3_0 PyData.str PyData.str (eT PyData.str) _)) (pv (PyData.str p_line)) (eq_ss _ _)))
  (r_seq (r_setP (p_b2 (pv ((eP3 PyData.str PyData.str (eT PyData.str)) x7)) (pc (.int 2)) (ix3_2 PyData.str PyData.str (eT PyData.str) _)) (r_seq (r_if (p_orD (p_tst (p_b2 (pv (PyData.str p_start)) (pv (PyData.str p_end)) (eq_ss _ _))) (p_orD (p_tst (p_b2 (pv (PyData.str p_start)) (pv ((eT PyData.str) x7.2.2)) (notin_T eqS _ _))) (p_tst (p_b2 (pv (PyData.str p_end)) (pv ((eT PyData.str) x7.2.2)) (notin_T eqS _ _)))))
  (r_retL (pc .none))
  (r_nil (r_seq (r_setM trivial (q_idxM (eo := (eT PyData.str)) (ee := PyData.str) (fun _ => rcvT) (qp (pv ((eT PyData.str) x7.2.2))) (qp (pv (PyData.str p_start))) fun _ _ => (q_indT eqS (fun _ => rfl) _ _)) fun here_10 =>
  (r_seq (r_setM trivial (q_idxM (eo := (eT PyData.str)) (ee := PyData.str) (fun _ => rcvT) (qp (pv ((eT PyData.str) x7.2.2))) (qp (pv (PyData.str p_end))) fun _ _ => (q_indT eqS (fun _ => rfl) _ _)) fun there_13 =>
  (r_seq (r_if (p_tst (p_b2 (pv (PyData.int here_10)) (pv (PyData.int there_13)) (lt_ii _ _)))
  (r_retLM trivial (q_some (eT PyData.str) (q_b1M (q_lcMM PyData.str PyData.int (q_range2 (pv (PyData.int here_10)) (p_b2 (pv (PyData.int there_13)) (pc (.int 1)) (add_ii _ _))) (no_cons (no_nv (w := z6) rfl) no_nil) (show wipeE _ _ = [(some (.val ((eP2 (eT (eP2 PyData.str PyData.int)) (eT (eP3 PyData.str PyData.str (eT PyData.str)))) p_city))), (some (.val (PyData.str p_line))), (some (.val (PyData.str p_start))), (some (.val (PyData.str p_end))), (some (.val ((eP3 PyData.str PyData.str (eT PyData.str)) x7))), (some (.val ((eT PyData.str) x7.2.2))), (some (.val (PyData.int here_10))), (some (.val (PyData.int there_13))), none] from rfl) (fun x14 => ⟨_, rfl, (qp (e := id) rfl), (q_b2PP (pv ((eT PyData.str) x7.2.2)) (pv (PyData.int x14)) (q_ixT PyData.str _ _))⟩)) fun a16 => (qp (tuple_L PyData.str _)))))
  (r_nil (r_retLM trivial (q_some (eT PyData.str) (q_b1M (q_lcMM PyData.str PyData.int (q_range1 (p_b2 (p_b2 (pv (PyData.int here_10)) (pv (PyData.int there_13)) (sub_ii _ _)) (pc (.int 1)) (add_ii _ _))) (no_cons (no_nv (w := z6) rfl) no_nil) (show wipeE _ _ = [(some (.val ((eP2 (eT (eP2 PyData.str PyData.int)) (eT (eP3 PyData.str PyData.str (eT PyData.str)))) p_city))), (some (.val (PyData.str p_line))), (some (.val (PyData.str p_start))), (some (.val (PyData.str p_end))), (some (.val ((eP3 PyData.str PyData.str (eT PyData.str)) x7))), (some (.val ((eT PyData.str) x7.2.2))), (some (.val (PyData.int here_10))), (some (.val (PyData.int there_13))), none] from rfl) (fun x17 => ⟨_, rfl, (qp (e := id) rfl), (q_b2PP (pv ((eT PyData.str) x7.2.2)) (p_b2 (pv (PyData.int here_10)) (pv (PyData.int x17)) (sub_ii _ _)) (q_ixT PyData.str _ _))⟩)) fun a19 => (qp (tuple_L PyData.str _)))))))))))))))))
  (r_nil (r_endL (s := ()) ⟨(), (some ((eP3 PyData.str PyData.str (eT PyData.str)) x7)), z3, z4, z5, z6, rfl⟩)))⟩)
  (fun s1 ρ hr => by
  obtain ⟨_, z2, z3, z4, z5, z6, rfl⟩ := hr
  exact (r_retF (pc .none))) r_rF)))
def e__law_city_v2_1 : En → Rs PyData :=
  (mkT (aCons (b2 oIx (dVar 8) (dVar 11)) (aCons (b2 oIx (dVar 9) (b2 oIx (dVar 7) (b2 oAdd (dC (.int 2)) (dVar 11)))) aNil)))
def e__law_city_v2_2 : En → Rs PyData :=
  (b2 oIx (dVar 16) (dC (.int 0)))
def l__law_city_v2_2 : En → SRes :=
  (sIf (tst (b2 oGt (b1 oLen (bVar 15)) (dC (.int 0))))
  (sAppPop 17 15 (b2 oMod (b1 oInt (b2 oIx (dVar 7) (b2 oAdd (b2 oAdd (dVar 14) (dC (.int 2))) (dVar 11)))) (b1 oLen (bVar 15))))
  sNil)
def l__law_city_v2_1 : En → SRes :=
  (sSeq (sSet 14 (b2 oAdd (b2 oAdd (dC (.int 2)) (dVar 5)) (b2 oMul (dC (.int 14)) (dVar 13))))
  (sSeq (sSetO 15 (lcD [16] (iOf oAny (bVar 10)) (τName 16) tY e__law_city_v2_2))
  (sSeq (sSetO 17 (mkL aNil))
  (sSeq (sFor (iRange1 (b2 oAdd (dC (.int 2)) (b2 oIx (dVar 7) (b2 oAdd (dVar 14) (dC (.int 1)))))) (τName 11) l__law_city_v2_2)
  (sSeq (sSet 18 (b2 oIx (dVar 8) (b2 oSub (b2 oSub (dVar 2) (dC (.int 1))) (dVar 13))))
  (sSeq (sIf (tst (b2 oEq (b2 oMod (dVar 13) (dC (.int 2))) (dC (.int 1))))
  (sSet 18 (b2 oIx (dVar 8) (b2 oAdd (dVar 2) (dVar 13))))
  sNil)
  (sSeq (sSet 19 (b2 oIx (dVar 8) (b2 oIx (dVar 7) (dVar 14))))
  (sSeq (sIf (tst (b2 oEq (b2 oMod (b2 oIx (dVar 7) (dVar 14)) (dC (.int 2))) (dC (.int 1))))
  (sSet 19 (b2 oIx (dVar 8) (b2 oAdd (b2 oAdd (b2 oAdd (dVar 2) (dVar 3)) (dC (.int 1))) (b2 oIx (dVar 7) (dVar 14)))))
  sNil)
  (sApp 12 (mkT (aCons (dVar 18) (aCons (dVar 19) (aCons (b1 oTuple (bVar 17)) aNil)))))))))))))
def b__law_city_v2 : En → SRes :=
  (sSeq (sSet 4 (dCall DL.g_draws (aCons (dVar 0) (aCons (mkL (aCons (b2 oAdd (dVar 2) (dC (.int 1))) (aCons (b2 oAdd (dVar 3) (dC (.int 1))) aNil))) aNil))))
  (sSeq (sSet 5 (b2 oIx (dVar 4) (dC (.int 0))))
  (sSeq (sSet 6 (b2 oIx (dVar 4) (dC (.int 1))))
  (sSeq (sIf (tst (b2 oLt (dVar 5) (dC (.int 2))))
  (sSet 6 (dC (.int 0)))
  sNil)
  (sSeq (sSet 7 (dCall DL.g_draws (aCons (dVar 0) (aCons (b2 oAdd (b2 oAdd (mkL (aCons (b2 oAdd (dVar 2) (dC (.int 1))) (aCons (b2 oAdd (dVar 3) (dC (.int 1))) aNil))) (b2 oMul (mkL (aCons (dC (.int 9)) aNil)) (dVar 5))) (b2 oMul (b2 oAdd (mkL (aCons (dC (.int 5)) (aCons (dC (.int 11)) aNil))) (b2 oMul (mkL (aCons (dVar 2) aNil)) (dC (.int 12)))) (dVar 6))) aNil))))
  (sSeq (sSet 8 (dCall DL.g_names (aCons (dVar 1) (aCons (b2 oAdd (b2 oAdd (dVar 2) (dVar 3)) (dC (.int 6))) aNil))))
  (sSeq (sSet 9 (mkL (aCons (dC (.int 1)) (aCons (dC (.int 2)) (aCons (dC (.int 3)) (aCons (dC (.int 4)) (aCons (dC (.int 5)) (aCons (dC (.int 6)) (aCons (dC (.int 1)) (aCons (dC (.int 2)) (aCons (dC (.int 1)) aNil)))))))))))
  (sSeq (sSetO 10 (lcD [11] (iRange1 (dVar 5)) (τName 11) tY e__law_city_v2_1))
  (sSeq (sSetO 12 (mkL aNil))
  (sSeq (sFor (iRange1 (dVar 6)) (τName 13) l__law_city_v2_1)
  (sRet (mkT (aCons (b1 oTuple (bVar 10)) (aCons (b1 oTuple (bVar 12)) aNil))))))))))))))
def g__law_city_v2 : List PyData → Rs PyData := runF 20 4 b__law_city_v2
def f__law_city_v2 (p_cell : Int) (p_other : Int) (p_most : Int) (p_lines : Int) : Rs ((List (Str × Int)) × (List (Str × Str × (List Str)))) :=
  ((S.f__law_draws p_cell [(p_most + (1 : Int)), (p_lines + (1 : Int))]).bind fun (head_1 : (List Int)) =>
  ((ixR head_1 (0 : Int)).bind fun (many_2 : Int) =>
  ((ixR head_1 (1 : Int)).bind fun (count_3 : Int) =>
  ((Rs.ok (bif (decide (many_2 < (2 : Int))) then (0 : Int) else count_3)).bind fun (s4 : Int) =>
  (((((repR [(9 : Int)] many_2).bind fun a6 => (catR [(p_most + (1 : Int)), (p_lines + (1 : Int))] a6)).bind fun a9 => (((repR [p_most] (12 : Int)).bind fun a7 => (catR [(5 : Int), (11 : Int)] a7)).bind fun a8 => (repR a8 s4)).bind fun a10 => (catR a9 a10)).bind fun a11 => (S.f__law_draws p_cell a11)).bind fun (draws_12 : (List Int)) =>
  ((S.f__law_names p_other ((p_most + p_lines) + (6 : Int))).bind fun (names_13 : (List Str)) =>
  ((Rs.ok [(1 : Int), (2 : Int), (3 : Int), (4 : Int), (5 : Int), (6 : Int), (1 : Int), (2 : Int), (1 : Int)]).bind fun (zones_14 : (List Int)) =>
  (((rngR 0 many_2).bind fun a19 => (lcR a19 (fun x15 => (Rs.ok true)) fun x15 => ((ixR names_13 x15).bind fun a17 => (((ixR draws_12 ((2 : Int) + x15)).bind fun a16 => (ixR zones_14 a16)).bind fun a18 => (.ok (a17, a18)))))).bind fun (stops_20 : (List (Str × Int))) =>
  ((rngR 0 s4).bind fun a78 => (forB (fun (s21 : (List (Str × Str × (List Str)))) (x30 : Int) => ((Rs.ok (((2 : Int) + many_2) + ((14 : Int) * x30))).bind fun (at_31 : Int) =>
  ((lcP stops_20 (fun x32 => true) fun x32 => x32.1).bind fun (left_33 : (List Str)) =>
  ((((ixR draws_12 (at_31 + (1 : Int))).bind fun a34 => (.ok ((2 : Int) + a34))).bind fun a35 => rngR 0 a35).bind fun a77 => (forB (fun (s36 : (List Str) × (List Str)) (x41 : Int) => (letK (fun (s42 : (List Str) × (List Str)) => ((.ok (s42.1, s42.2)) : Rs ((List Str) × (List Str)))) fun k46 =>
  (if (decide ((0 : Int) < (s36.1.length : Int))) then ((((ixR draws_12 ((at_31 + (2 : Int)) + x41)).bind fun a49 => .ok a49).bind fun a50 => (modR a50 (s36.1.length : Int))).bind fun a52 => ((appPopR s36.2 s36.1 a52).bind fun (p51 : (List Str) × (List Str)) =>
  (k46 (p51.2, p51.1))))
  else (k46 (s36.1, s36.2))))) a77 (left_33, [])).bind fun (s36 : (List Str) × (List Str)) =>
  ((ixR names_13 ((p_most - (1 : Int)) - x30)).bind fun (name_53 : Str) =>
  (letK (fun (s54 : Str) => ((((ixR draws_12 at_31).bind fun a59 => (ixR names_13 a59)).bind fun (carrier_60 : Str) =>
  (letK (fun (s63 : Str) => (((appR s21 (s54, s63, s36.2)).bind fun (told_67 : (List (Str × Str × (List Str)))) =>
  (.ok told_67)) : Rs ((List (Str × Str × (List Str)))))) fun k66 =>
  ((((ixR draws_12 at_31).bind fun a61 => (.ok (a61 % (2 : Int)))).bind fun a62 => (.ok (decide (a62 = (1 : Int))))).bind fun c73 => if c73 then ((((ixR draws_12 at_31).bind fun a70 => (.ok (((p_most + p_lines) + (1 : Int)) + a70))).bind fun a71 => (ixR names_13 a71)).bind fun (carrier_72 : Str) =>
  (k66 carrier_72))
  else (k66 carrier_60)))) : Rs ((List (Str × Str × (List Str)))))) fun k58 =>
  (if (decide ((x30 % (2 : Int)) = (1 : Int))) then ((ixR names_13 (p_most + x30)).bind fun (name_76 : Str) =>
  (k58 name_76))
  else (k58 name_53)))))))) a78 []).bind fun (s21 : (List (Str × Str × (List Str)))) =>
  (.ok (stops_20, s21)))))))))))
theorem h__law_city_v2 (p_cell : Int) (p_other : Int) (p_most : Int) (p_lines : Int) : Q (eP2 (eT (eP2 PyData.str PyData.int)) (eT (eP3 PyData.str PyData.str (eT PyData.str)))) (f__law_city_v2 p_cell p_other p_most p_lines) (S.g__law_city_v2 [(PyData.int p_cell), (PyData.int p_other), (PyData.int p_most), (PyData.int p_lines)]) :=
  r_fun rfl (show _ = [(some (.val (PyData.int p_cell))), (some (.val (PyData.int p_other))), (some (.val (PyData.int p_most))), (some (.val (PyData.int p_lines))), none, none, none, none, none, none, none, none, none, none, none, none, none, none, none, none] from rfl) (by
  unfold f__law_city_v2
  exact (r_seq (r_setM trivial (q_call (q_callP (pv (PyData.int p_cell)) (q_callP (p_mkL (v := ((eL PyData.int) [(p_most + (1 : Int)), (p_lines + (1 : Int))])) (p_cons (p_b2 (pv (PyData.int p_most)) (pc (.int 1)) (add_ii _ _)) (p_cons (p_b2 (pv (PyData.int p_lines)) (pc (.int 1)) (add_ii _ _)) (p_nil lstK_ok)))) (q_callN (S.h__law_draws p_cell [(p_most + (1 : Int)), (p_lines + (1 : Int))]))))) fun head_1 =>
  (r_seq (r_setM trivial (q_b2PP (pv ((eL PyData.int) head_1)) (pc (.int 0)) (q_ixL PyData.int _ _)) fun many_2 =>
  (r_seq (r_setM trivial (q_b2PP (pv ((eL PyData.int) head_1)) (pc (.int 1)) (q_ixL PyData.int _ _)) fun count_3 =>
  (r_seq (r_ifS (σ := Int) (fun c5 s4 => [(some (.val (PyData.int p_cell))), (some (.val (PyData.int p_other))), (some (.val (PyData.int p_most))), (some (.val (PyData.int p_lines))), (some (.val ((eL PyData.int) head_1))), (some (.val (PyData.int many_2))), (some (.val (PyData.int s4))), none, none, none, none, none, none, none, none, none, none, none, none, none]) (v1 := (0 : Int)) (v2 := count_3) (p_tst (p_b2 (pv (PyData.int many_2)) (pc (.int 2)) (lt_ii _ _)))
  (r_setP (pc (.int 0)) (r_endN rfl))
  (r_nil (r_endN rfl)) fun s4 =>
  (r_seq (r_setM trivial (q_call (q_callP (pv (PyData.int p_cell)) (q_callM (q_b2MM (q_b2PM (p_mkL (v := ((eL PyData.int) [(p_most + (1 : Int)), (p_lines + (1 : Int))])) (p_cons (p_b2 (pv (PyData.int p_most)) (pc (.int 1)) (add_ii _ _)) (p_cons (p_b2 (pv (PyData.int p_lines)) (pc (.int 1)) (add_ii _ _)) (p_nil lstK_ok)))) (q_b2PP (p_mkL (v := ((eL PyData.int) [(9 : Int)])) (p_cons (pc (.int 9)) (p_nil lstK_ok))) (pv (PyData.int many_2)) (q_repL PyData.int _ _)) fun a6 => (q_catL PyData.int _ _)) (q_b2MP (q_b2PM (p_mkL (v := ((eL PyData.int) [(5 : Int), (11 : Int)])) (p_cons (pc (.int 5)) (p_cons (pc (.int 11)) (p_nil lstK_ok)))) (q_b2PP (p_mkL (v := ((eL PyData.int) [p_most])) (p_cons (pv (PyData.int p_most)) (p_nil lstK_ok))) (pc (.int 12)) (q_repL PyData.int _ _)) fun a7 => (q_catL PyData.int _ _)) (pv (PyData.int s4)) fun a8 => (q_repL PyData.int _ _)) fun a9 a10 => (q_catL PyData.int _ _)) fun a11 => (q_callN (S.h__law_draws p_cell a11))))) fun draws_12 =>
  (r_seq (r_setM trivial (q_call (q_callP (pv (PyData.int p_other)) (q_callP (p_b2 (p_b2 (pv (PyData.int p_most)) (pv (PyData.int p_lines)) (add_ii _ _)) (pc (.int 6)) (add_ii _ _)) (q_callN (S.h__law_names p_other ((p_most + p_lines) + (6 : Int))))))) fun names_13 =>
  (r_seq (r_setM trivial (qp (p_mkL (v := ((eL PyData.int) [(1 : Int), (2 : Int), (3 : Int), (4 : Int), (5 : Int), (6 : Int), (1 : Int), (2 : Int), (1 : Int)])) (p_cons (pc (.int 1)) (p_cons (pc (.int 2)) (p_cons (pc (.int 3)) (p_cons (pc (.int 4)) (p_cons (pc (.int 5)) (p_cons (pc (.int 6)) (p_cons (pc (.int 1)) (p_cons (pc (.int 2)) (p_cons (pc (.int 1)) (p_nil lstK_ok)))))))))))) fun zones_14 =>
  (r_seq (r_setOM trivial (q_lcMM (eP2 PyData.str PyData.int) PyData.int (q_range1 (pv (PyData.int many_2))) (no_cons (no_rfl rfl) no_nil) (show wipeE _ _ = [(some (.val (PyData.int p_cell))), (some (.val (PyData.int p_other))), (some (.val (PyData.int p_most))), (some (.val (PyData.int p_lines))), (some (.val ((eL PyData.int) head_1))), (some (.val (PyData.int many_2))), (some (.val (PyData.int s4))), (some (.val ((eL PyData.int) draws_12))), (some (.val ((eL PyData.str) names_13))), (some (.val ((eL PyData.int) zones_14))), none, none, none, none, none, none, none, none, none, none] from rfl) (fun x15 => ⟨_, rfl, (qp (e := id) rfl), (q_mkT (e := (eP2 PyData.str PyData.int)) (q_callM (q_b2PP (pv ((eL PyData.str) names_13)) (pv (PyData.int x15)) (q_ixL PyData.str _ _)) fun a17 => (q_callM (q_b2PM (pv ((eL PyData.int) zones_14)) (q_b2PP (pv ((eL PyData.int) draws_12)) (p_b2 (pc (.int 2)) (pv (PyData.int x15)) (add_ii _ _)) (q_ixL PyData.int _ _)) fun a16 => (q_ixL PyData.int _ _)) fun a18 => (q_callN (qp tupK_ok)))))⟩)) fun stops_20 =>
  (r_seq (r_setOP (p_mkL (v := ((eL (eP3 PyData.str PyData.str (eT PyData.str))) [])) (p_nil lstK_ok)) (r_seq (r_forBM (fun (s21 : (List (Str × Str × (List Str)))) ρ => ∃ (_ : Unit) (z22 : Option PyData) (z23 : Option PyData) (z24 : Option PyData) (z25 : Option SV) (z26 : Option PyData) (z27 : Option SV) (z28 : Option PyData) (z29 : Option PyData), ρ = [(some (.val (PyData.int p_cell))), (some (.val (PyData.int p_other))), (some (.val (PyData.int p_most))), (some (.val (PyData.int p_lines))), (some (.val ((eL PyData.int) head_1))), (some (.val (PyData.int many_2))), (some (.val (PyData.int s4))), (some (.val ((eL PyData.int) draws_12))), (some (.val ((eL PyData.str) names_13))), (some (.val ((eL PyData.int) zones_14))), (some (.own ((eL (eP2 PyData.str PyData.int)) stops_20))), (nv z22), (some (.own ((eL (eP3 PyData.str PyData.str (eT PyData.str))) s21))), (nv z23), (nv z24), z25, (nv z26), z27, (nv z28), (nv z29)]) (s0 := []) trivial (q_range1 (pv (PyData.int s4))) ⟨(), none, none, none, _, none, _, none, none, rfl⟩
  (fun s21 x30 ρ hr => by
  obtain ⟨_, z22, z23, z24, z25, z26, z27, z28, z29, rfl⟩ := hr
  exact ⟨_, rfl, (r_seq (r_setM trivial (qp (p_b2 (p_b2 (pc (.int 2)) (pv (PyData.int many_2)) (add_ii _ _)) (p_b2 (pc (.int 14)) (pv (PyData.int x30)) (mul_cl _ _)) (add_ii _ _))) fun at_31 =>
  (r_seq (r_setOM trivial (q_lcP PyData.str (eP2 PyData.str PyData.int) (p_iOf (bv ((eL (eP2 PyData.str PyData.int)) stops_20)) (any_L (eP2 PyData.str PyData.int) _)) (no_cons (no_nv (w := z26) rfl) no_nil) (show wipeE _ _ = [(some (.val (PyData.int p_cell))), (some (.val (PyData.int p_other))), (some (.val (PyData.int p_most))), (some (.val (PyData.int p_lines))), (some (.val ((eL PyData.int) head_1))), (some (.val (PyData.int many_2))), (some (.val (PyData.int s4))), (some (.val ((eL PyData.int) draws_12))), (some (.val ((eL PyData.str) names_13))), (some (.val ((eL PyData.int) zones_14))), (some (.own ((eL (eP2 PyData.str PyData.int)) stops_20))), (nv z22), (some (.own ((eL (eP3 PyData.str PyData.str (eT PyData.str))) s21))), (some (.val (PyData.int x30))), (some (.val (PyData.int at_31))), z25, none, z27, (nv z28), (nv z29)] from rfl) (fun x32 => ⟨_, rfl, rfl, (p_b2 (pv ((eP2 PyData.str PyData.int) x32)) (pc (.int 0)) (ix2_0 PyData.str PyData.int _))⟩)) fun left_33 =>
  (r_seq (r_setOP (p_mkL (v := ((eL PyData.str) [])) (p_nil lstK_ok)) (r_seq (r_forBM (fun (s36 : (List Str) × (List Str)) ρ => ∃ (_ : Unit) (z37 : Option PyData) (z38 : Option PyData) (z39 : Option PyData) (z40 : Option PyData), ρ = [(some (.val (PyData.int p_cell))), (some (.val (PyData.int p_other))), (some (.val (PyData.int p_most))), (some (.val (PyData.int p_lines))), (some (.val ((eL PyData.int) head_1))), (some (.val (PyData.int many_2))), (some (.val (PyData.int s4))), (some (.val ((eL PyData.int) draws_12))), (some (.val ((eL PyData.str) names_13))), (some (.val ((eL PyData.int) zones_14))), (some (.own ((eL (eP2 PyData.str PyData.int)) stops_20))), (nv z37), (some (.own ((eL (eP3 PyData.str PyData.str (eT PyData.str))) s21))), (some (.val (PyData.int x30))), (some (.val (PyData.int at_31))), (some (.own ((eL PyData.str) s36.1))), (nv z38), (some (.own ((eL PyData.str) s36.2))), (nv z39), (nv z40)]) (s0 := (left_33, [])) trivial (q_range1M (q_b2PM (pc (.int 2)) (q_b2PP (pv ((eL PyData.int) draws_12)) (p_b2 (pv (PyData.int at_31)) (pc (.int 1)) (add_ii _ _)) (q_ixL PyData.int _ _)) fun a34 => (qp (add_ii _ _)))) ⟨(), z22, z26, z28, z29, rfl⟩
  (fun s36 x41 ρ hr => by
  obtain ⟨_, z37, z38, z39, z40, rfl⟩ := hr
  exact ⟨_, rfl, (r_joinK (fun (s42 : (List Str) × (List Str)) ρ => ∃ (_ : Unit) (z43 : Option PyData) (z44 : Option PyData) (z45 : Option PyData), ρ = [(some (.val (PyData.int p_cell))), (some (.val (PyData.int p_other))), (some (.val (PyData.int p_most))), (some (.val (PyData.int p_lines))), (some (.val ((eL PyData.int) head_1))), (some (.val (PyData.int many_2))), (some (.val (PyData.int s4))), (some (.val ((eL PyData.int) draws_12))), (some (.val ((eL PyData.str) names_13))), (some (.val ((eL PyData.int) zones_14))), (some (.own ((eL (eP2 PyData.str PyData.int)) stops_20))), (some (.val (PyData.int x41))), (some (.own ((eL (eP3 PyData.str PyData.str (eT PyData.str))) s21))), (some (.val (PyData.int x30))), (some (.val (PyData.int at_31))), (some (.own ((eL PyData.str) s42.1))), (nv z43), (some (.own ((eL PyData.str) s42.2))), (nv z44), (nv z45)]) (fun s42 ρ hr => by
  obtain ⟨_, z43, z44, z45, rfl⟩ := hr
  exact (r_endB (s := (s42.1, s42.2)) ⟨(), (some (PyData.int x41)), z43, z44, z45, rfl⟩)) fun K48 hk47 =>
  (r_if (p_tst (p_b2 (p_b1 (bv ((eL PyData.str) s36.1)) (len_L PyData.str _)) (pc (.int 0)) (gt_ii _ _)))
  (r_appPopM (ys := s36.2) (xs := s36.1) trivial rfl rfl (q_b2MP (q_b1M (q_b2PP (pv ((eL PyData.int) draws_12)) (p_b2 (p_b2 (pv (PyData.int at_31)) (pc (.int 2)) (add_ii _ _)) (pv (PyData.int x41)) (add_ii _ _)) (q_ixL PyData.int _ _)) fun a49 => (qp (int_i _))) (p_b1 (bv ((eL PyData.str) s36.1)) (len_L PyData.str _)) fun a50 => (q_mod _ _)) fun p51 =>
  (hk47 (p51.2, p51.1) _ ⟨(), z38, z39, z40, rfl⟩))
  (r_nil (hk47 (s36.1, s36.2) _ ⟨(), z38, z39, z40, rfl⟩))))⟩)
  (fun s36 ρ hr => by
  obtain ⟨_, z37, z38, z39, z40, rfl⟩ := hr
  exact (r_seq (r_setM trivial (q_b2PP (pv ((eL PyData.str) names_13)) (p_b2 (p_b2 (pv (PyData.int p_most)) (pc (.int 1)) (sub_ii _ _)) (pv (PyData.int x30)) (sub_ii _ _)) (q_ixL PyData.str _ _)) fun name_53 =>
  (r_seq (r_joinK (fun (s54 : Str) ρ => ∃ (_ : Unit) (z55 : Option PyData) (z56 : Option PyData) (z57 : Option PyData), ρ = [(some (.val (PyData.int p_cell))), (some (.val (PyData.int p_other))), (some (.val (PyData.int p_most))), (some (.val (PyData.int p_lines))), (some (.val ((eL PyData.int) head_1))), (some (.val (PyData.int many_2))), (some (.val (PyData.int s4))), (some (.val ((eL PyData.int) draws_12))), (some (.val ((eL PyData.str) names_13))), (some (.val ((eL PyData.int) zones_14))), (some (.own ((eL (eP2 PyData.str PyData.int)) stops_20))), (nv z55), (some (.own ((eL (eP3 PyData.str PyData.str (eT PyData.str))) s21))), (some (.val (PyData.int x30))), (some (.val (PyData.int at_31))), (some (.own ((eL PyData.str) s36.1))), (nv z56), (some (.own ((eL PyData.str) s36.2))), (some (.val (PyData.str s54))), (nv z57)]) (fun s54 ρ hr => by
  obtain ⟨_, z55, z56, z57, rfl⟩ := hr
  exact (r_seq (r_setM trivial (q_b2PM (pv ((eL PyData.str) names_13)) (q_b2PP (pv ((eL PyData.int) draws_12)) (pv (PyData.int at_31)) (q_ixL PyData.int _ _)) fun a59 => (q_ixL PyData.str _ _)) fun carrier_60 =>
  (r_seq (r_joinK (fun (s63 : Str) ρ => ∃ (_ : Unit) (z64 : Option PyData) (z65 : Option PyData), ρ = [(some (.val (PyData.int p_cell))), (some (.val (PyData.int p_other))), (some (.val (PyData.int p_most))), (some (.val (PyData.int p_lines))), (some (.val ((eL PyData.int) head_1))), (some (.val (PyData.int many_2))), (some (.val (PyData.int s4))), (some (.val ((eL PyData.int) draws_12))), (some (.val ((eL PyData.str) names_13))), (some (.val ((eL PyData.int) zones_14))), (some (.own ((eL (eP2 PyData.str PyData.int)) stops_20))), (nv z64), (some (.own ((eL (eP3 PyData.str PyData.str (eT PyData.str))) s21))), (some (.val (PyData.int x30))), (some (.val (PyData.int at_31))), (some (.own ((eL PyData.str) s36.1))), (nv z65), (some (.own ((eL PyData.str) s36.2))), (some (.val (PyData.str s54))), (some (.val (PyData.str s63)))]) (fun s63 ρ hr => by
  obtain ⟨_, z64, z65, rfl⟩ := hr
  exact (r_appP (xs := s21) rfl (p_mkT (v := ((eP3 PyData.str PyData.str (eT PyData.str)) (s54, s63, s36.2))) (p_cons (pv (PyData.str s54)) (p_cons (pv (PyData.str s63)) (p_cons (p_b1 (bv ((eL PyData.str) s36.2)) (tuple_L PyData.str _)) (p_nil tupK_ok))))) fun told_67 =>
  (r_endB (s := told_67) ⟨(), z64, (some (PyData.int x30)), (some (PyData.int at_31)), _, z65, _, (some (PyData.str s54)), (some (PyData.str s63)), rfl⟩))) fun K69 hk68 =>
  (r_ifM trivial (q_tst (q_b2MP (q_b2MP (q_b2PP (pv ((eL PyData.int) draws_12)) (pv (PyData.int at_31)) (q_ixL PyData.int _ _)) (pc (.int 2)) fun a61 => (qp (mod_c _ _))) (pc (.int 1)) fun a62 => (qp (eq_ii _ _))))
  (r_setM trivial (q_b2PM (pv ((eL PyData.str) names_13)) (q_b2PM (p_b2 (p_b2 (pv (PyData.int p_most)) (pv (PyData.int p_lines)) (add_ii _ _)) (pc (.int 1)) (add_ii _ _)) (q_b2PP (pv ((eL PyData.int) draws_12)) (pv (PyData.int at_31)) (q_ixL PyData.int _ _)) fun a70 => (qp (add_ii _ _))) fun a71 => (q_ixL PyData.str _ _)) fun carrier_72 =>
  (hk68 carrier_72 _ ⟨(), z55, z56, rfl⟩))
  (r_nil (hk68 carrier_60 _ ⟨(), z55, z56, rfl⟩)))))))) fun K75 hk74 =>
  (r_if (p_tst (p_b2 (p_b2 (pv (PyData.int x30)) (pc (.int 2)) (mod_c _ _)) (pc (.int 1)) (eq_ii _ _)))
  (r_setM trivial (q_b2PP (pv ((eL PyData.str) names_13)) (p_b2 (pv (PyData.int p_most)) (pv (PyData.int x30)) (add_ii _ _)) (q_ixL PyData.str _ _)) fun name_76 =>
  (hk74 name_76 _ ⟨(), z37, z38, z40, rfl⟩))
  (r_nil (hk74 name_53 _ ⟨(), z37, z38, z40, rfl⟩))))))))))))))))⟩)
  (fun s21 ρ hr => by
  obtain ⟨_, z22, z23, z24, z25, z26, z27, z28, z29, rfl⟩ := hr
  exact (r_retF (p_mkT (v := ((eP2 (eT (eP2 PyData.str PyData.int)) (eT (eP3 PyData.str PyData.str (eT PyData.str)))) (stops_20, s21))) (p_cons (p_b1 (bv ((eL (eP2 PyData.str PyData.int)) stops_20)) (tuple_L (eP2 PyData.str PyData.int) _)) (p_cons (p_b1 (bv ((eL (eP3 PyData.str PyData.str (eT PyData.str))) s21)) (tuple_L (eP3 PyData.str PyData.str (eT PyData.str)) _)) (p_nil tupK_ok)))))))))))))))))))))))))))
end
end S

namespace S
open PySem PySem.Spec PyProof.Rows L2 DL
noncomputable section
def b_fits : En → SRes :=
  (sSeq (sSet 2 (dCall S.g_line_of (aCons (dVar 0) (aCons (b2 oIx (dVar 1) (dC (.int 0))) aNil))))
  (sSeq (sIf (tst (b2 oIs (dVar 2) (dC .none)))
  (sRet (dC (.bool false)))
  sNil)
  (sRet (vAnd (b2 oIn (b2 oIx (dVar 1) (dC (.int 1))) (b2 oIx (dVar 2) (dC (.int 2)))) (vAnd (b2 oIn (b2 oIx (dVar 1) (dC (.int 2))) (b2 oIx (dVar 2) (dC (.int 2)))) (b2 oNe (b2 oIx (dVar 1) (dC (.int 1))) (b2 oIx (dVar 1) (dC (.int 2)))))))))
def g_fits : List PyData → Rs PyData := runF 3 2 b_fits
def f_fits (p_city : ((List (Str × Int)) × (List (Str × Str × (List Str))))) (p_leg : (Str × Str × Str)) : Rs Bool :=
  ((S.f_line_of_c p_city p_leg.1).bind fun (line_1 : (Option (Str × Str × (List Str)))) =>
  (if (line_1.isNone) then (.ok false)
  else ((((getO line_1).bind fun a2 => (.ok a2.2.2)).bind fun a3 => (.ok (decide (p_leg.2.1 ∈ a3)))).bind fun c7 => (if c7 then ((((getO line_1).bind fun a4 => (.ok a4.2.2)).bind fun a5 => (.ok (decide (p_leg.2.2 ∈ a5)))).bind fun c6 => (if c6 then (Rs.ok (!decide (p_leg.2.1 = p_leg.2.2))) else .ok false)) else .ok false))))
theorem h_fits (p_city : ((List (Str × Int)) × (List (Str × Str × (List Str))))) (p_leg : (Str × Str × Str)) : Q PyData.bool (f_fits p_city p_leg) (S.g_fits [((eP2 (eT (eP2 PyData.str PyData.int)) (eT (eP3 PyData.str PyData.str (eT PyData.str)))) p_city), ((eP3 PyData.str PyData.str PyData.str) p_leg)]) :=
  r_fun rfl (show _ = [(some (.val ((eP2 (eT (eP2 PyData.str PyData.int)) (eT (eP3 PyData.str PyData.str (eT PyData.str)))) p_city))), (some (.val ((eP3 PyData.str PyData.str PyData.str) p_leg))), none] from rfl) (by
  unfold f_fits
  exact (r_seq (r_setM trivial (q_call (q_callP (pv ((eP2 (eT (eP2 PyData.str PyData.int)) (eT (eP3 PyData.str PyData.str (eT PyData.str)))) p_city)) (q_callP (p_b2 (pv ((eP3 PyData.str PyData.str PyData.str) p_leg)) (pc (.int 0)) (ix3_0 PyData.str PyData.str PyData.str _)) (q_callN (S.h_line_of_c p_city p_leg.1))))) fun line_1 =>
  (r_seq (r_if (p_tst (p_b2 (pv ((eO (eP3 PyData.str PyData.str (eT PyData.str))) line_1)) (pc .none) (isN_O (fun _ => rfl) _)))
  (r_retF (pc (.bool false)))
  (r_nil (r_retFM (q_vAnd (q_b2PM (p_b2 (pv ((eP3 PyData.str PyData.str PyData.str) p_leg)) (pc (.int 1)) (ix3_1 PyData.str PyData.str PyData.str _)) (q_b2MP (q_getO (eP3 PyData.str PyData.str (eT PyData.str)) (pv ((eO (eP3 PyData.str PyData.str (eT PyData.str))) line_1))) (pc (.int 2)) fun a2 => (qp (ix3_2 PyData.str PyData.str (eT PyData.str) _))) fun a3 => (qp (in_T eqS _ _))) (q_vAnd (q_b2PM (p_b2 (pv ((eP3 PyData.str PyData.str PyData.str) p_leg)) (pc (.int 2)) (ix3_2 PyData.str PyData.str PyData.str _)) (q_b2MP (q_getO (eP3 PyData.str PyData.str (eT PyData.str)) (pv ((eO (eP3 PyData.str PyData.str (eT PyData.str))) line_1))) (pc (.int 2)) fun a4 => (qp (ix3_2 PyData.str PyData.str (eT PyData.str) _))) fun a5 => (qp (in_T eqS _ _))) (qp (p_b2 (p_b2 (pv ((eP3 PyData.str PyData.str PyData.str) p_leg)) (pc (.int 1)) (ix3_1 PyData.str PyData.str PyData.str _)) (p_b2 (pv ((eP3 PyData.str PyData.str PyData.str) p_leg)) (pc (.int 2)) (ix3_2 PyData.str PyData.str PyData.str _)) (ne_ss _ _))))))))))))
def b_passed_stops : En → SRes :=
  (sSeq (sIf (tNotD (tst (dCall S.g_fits (aCons (dVar 0) (aCons (dVar 1) aNil)))))
  (sRaise "BadRide" ["row", "leg"] (aCons (dC (.int 0)) (aCons (dC (.int 0)) aNil)))
  sNil)
  (sSeq (sSet 2 (b2 oIx (dCall S.g_line_of (aCons (dVar 0) (aCons (b2 oIx (dVar 1) (dC (.int 0))) aNil))) (dC (.int 2))))
  (sSeq (sSet 3 (idxM oIndex (dVar 2) (b2 oIx (dVar 1) (dC (.int 1)))))
  (sSeq (sSet 4 (idxM oIndex (dVar 2) (b2 oIx (dVar 1) (dC (.int 2)))))
  (sSeq (sIf (tst (b2 oLt (dVar 3) (dVar 4)))
  (sRet (dCut (dVar 2) (pSo (dVar 3)) (pSo (b2 oAdd (dVar 4) (dC (.int 1))))))
  sNil)
  (sRet (b1 oRevB (dCut (dVar 2) (pSo (dVar 4)) (pSo (b2 oAdd (dVar 3) (dC (.int 1))))))))))))
def g_passed_stops : List PyData → Rs PyData := runF 5 2 b_passed_stops
def f_passed_stops (p_city : ((List (Str × Int)) × (List (Str × Str × (List Str))))) (p_leg : (Str × Str × Str)) : Rs (List Str) :=
  (((S.f_fits p_city p_leg).bind fun c1 => .ok (!c1)).bind fun c10 => if c10 then (.ex (exnOf "BadRide" ["row", "leg"] [(PyData.int (0 : Int)), (PyData.int (0 : Int))]))
  else ((((S.f_line_of_c p_city p_leg.1).bind getO).bind fun a2 => (.ok a2.2.2)).bind fun (stops_3 : (List Str)) =>
  ((indR stops_3 p_leg.2.1).bind fun (start_6 : Int) =>
  ((indR stops_3 p_leg.2.2).bind fun (end_9 : Int) =>
  (if (decide (start_6 < end_9)) then (.ok (cutD stops_3 (some start_6) (some (end_9 + (1 : Int)))))
  else (.ok (cutD stops_3 (some end_9) (some (start_6 + (1 : Int)))).reverse))))))
theorem h_passed_stops (p_city : ((List (Str × Int)) × (List (Str × Str × (List Str))))) (p_leg : (Str × Str × Str)) : Q (eT PyData.str) (f_passed_stops p_city p_leg) (S.g_passed_stops [((eP2 (eT (eP2 PyData.str PyData.int)) (eT (eP3 PyData.str PyData.str (eT PyData.str)))) p_city), ((eP3 PyData.str PyData.str PyData.str) p_leg)]) :=
  r_fun rfl (show _ = [(some (.val ((eP2 (eT (eP2 PyData.str PyData.int)) (eT (eP3 PyData.str PyData.str (eT PyData.str)))) p_city))), (some (.val ((eP3 PyData.str PyData.str PyData.str) p_leg))), none, none, none] from rfl) (by
  unfold f_passed_stops
  exact (r_seq (r_ifM trivial (q_notD (q_tst (q_call (q_callP (pv ((eP2 (eT (eP2 PyData.str PyData.int)) (eT (eP3 PyData.str PyData.str (eT PyData.str)))) p_city)) (q_callP (pv ((eP3 PyData.str PyData.str PyData.str) p_leg)) (q_callN (S.h_fits p_city p_leg)))))))
  (r_raise trivial (p_aCons (pc (.int 0)) (p_aCons (pc (.int 0)) p_aNil)))
  (r_nil (r_seq (r_setM trivial (q_b2MP (q_getOM (eP3 PyData.str PyData.str (eT PyData.str)) (q_call (q_callP (pv ((eP2 (eT (eP2 PyData.str PyData.int)) (eT (eP3 PyData.str PyData.str (eT PyData.str)))) p_city)) (q_callP (p_b2 (pv ((eP3 PyData.str PyData.str PyData.str) p_leg)) (pc (.int 0)) (ix3_0 PyData.str PyData.str PyData.str _)) (q_callN (S.h_line_of_c p_city p_leg.1)))))) (pc (.int 2)) fun a2 => (qp (ix3_2 PyData.str PyData.str (eT PyData.str) _))) fun stops_3 =>
  (r_seq (r_setM trivial (q_idxM (eo := (eT PyData.str)) (ee := PyData.str) (fun _ => rcvT) (qp (pv ((eT PyData.str) stops_3))) (qp (p_b2 (pv ((eP3 PyData.str PyData.str PyData.str) p_leg)) (pc (.int 1)) (ix3_1 PyData.str PyData.str PyData.str _))) fun _ _ => (q_indT eqS (fun _ => rfl) _ _)) fun start_6 =>
  (r_seq (r_setM trivial (q_idxM (eo := (eT PyData.str)) (ee := PyData.str) (fun _ => rcvT) (qp (pv ((eT PyData.str) stops_3))) (qp (p_b2 (pv ((eP3 PyData.str PyData.str PyData.str) p_leg)) (pc (.int 2)) (ix3_2 PyData.str PyData.str PyData.str _))) fun _ _ => (q_indT eqS (fun _ => rfl) _ _)) fun end_9 =>
  (r_seq (r_if (p_tst (p_b2 (pv (PyData.int start_6)) (pv (PyData.int end_9)) (lt_ii _ _)))
  (r_retF (p_cut (pv ((eT PyData.str) stops_3)) (p_pSo (pv (PyData.int start_6))) (p_pSo (p_b2 (pv (PyData.int end_9)) (pc (.int 1)) (add_ii _ _))) (cut_T PyData.str _ _ _)))
  (r_nil (r_retF (p_b1 (p_cut (pv ((eT PyData.str) stops_3)) (p_pSo (pv (PyData.int end_9))) (p_pSo (p_b2 (pv (PyData.int start_6)) (pc (.int 1)) (add_ii _ _))) (cut_T PyData.str _ _ _)) (revB_T PyData.str _))))))))))))))))
def b_leg_carrier : En → SRes :=
  (sSeq (sIf (tNotD (tst (dCall S.g_fits (aCons (dVar 0) (aCons (dVar 1) aNil)))))
  (sRaise "BadRide" ["row", "leg"] (aCons (dC (.int 0)) (aCons (dC (.int 0)) aNil)))
  sNil)
  (sRet (b2 oIx (dCall S.g_line_of (aCons (dVar 0) (aCons (b2 oIx (dVar 1) (dC (.int 0))) aNil))) (dC (.int 1)))))
def g_leg_carrier : List PyData → Rs PyData := runF 2 2 b_leg_carrier
def f_leg_carrier (p_city : ((List (Str × Int)) × (List (Str × Str × (List Str))))) (p_leg : (Str × Str × Str)) : Rs Str :=
  (((S.f_fits p_city p_leg).bind fun c1 => .ok (!c1)).bind fun c3 => if c3 then (.ex (exnOf "BadRide" ["row", "leg"] [(PyData.int (0 : Int)), (PyData.int (0 : Int))]))
  else (((S.f_line_of_c p_city p_leg.1).bind getO).bind fun a2 => (.ok a2.2.1)))
theorem h_leg_carrier (p_city : ((List (Str × Int)) × (List (Str × Str × (List Str))))) (p_leg : (Str × Str × Str)) : Q PyData.str (f_leg_carrier p_city p_leg) (S.g_leg_carrier [((eP2 (eT (eP2 PyData.str PyData.int)) (eT (eP3 PyData.str PyData.str (eT PyData.str)))) p_city), ((eP3 PyData.str PyData.str PyData.str) p_leg)]) :=
  r_fun rfl (show _ = [(some (.val ((eP2 (eT (eP2 PyData.str PyData.int)) (eT (eP3 PyData.str PyData.str (eT PyData.str)))) p_city))), (some (.val ((eP3 PyData.str PyData.str PyData.str) p_leg)))] from rfl) (by
  unfold f_leg_carrier
  exact (r_seq (r_ifM trivial (q_notD (q_tst (q_call (q_callP (pv ((eP2 (eT (eP2 PyData.str PyData.int)) (eT (eP3 PyData.str PyData.str (eT PyData.str)))) p_city)) (q_callP (pv ((eP3 PyData.str PyData.str PyData.str) p_leg)) (q_callN (S.h_fits p_city p_leg)))))))
  (r_raise trivial (p_aCons (pc (.int 0)) (p_aCons (pc (.int 0)) p_aNil)))
  (r_nil (r_retFM (q_b2MP (q_getOM (eP3 PyData.str PyData.str (eT PyData.str)) (q_call (q_callP (pv ((eP2 (eT (eP2 PyData.str PyData.int)) (eT (eP3 PyData.str PyData.str (eT PyData.str)))) p_city)) (q_callP (p_b2 (pv ((eP3 PyData.str PyData.str PyData.str) p_leg)) (pc (.int 0)) (ix3_0 PyData.str PyData.str PyData.str _)) (q_callN (S.h_line_of_c p_city p_leg.1)))))) (pc (.int 1)) fun a2 => (qp (ix3_1 PyData.str PyData.str (eT PyData.str) _))))))))
def e_leg_ring_1 : En → Rs PyData :=
  (dVar 4)
def t_leg_ring_1 : En → Rs Bool :=
  (tst (b2 oIn (dVar 3) (dVar 2)))
def b_leg_ring : En → SRes :=
  (sSeq (sSet 2 (dCall S.g_passed_stops (aCons (dVar 0) (aCons (dVar 1) aNil))))
  (sRet (b1 oMax1 (lcD [3, 4] (iOf oAny (b2 oIx (dVar 0) (dC (.int 0)))) (τTup [3, 4]) t_leg_ring_1 e_leg_ring_1))))
def g_leg_ring : List PyData → Rs PyData := runF 5 2 b_leg_ring
def f_leg_ring (p_city : ((List (Str × Int)) × (List (Str × Str × (List Str))))) (p_leg : (Str × Str × Str)) : Rs Int :=
  ((S.f_passed_stops p_city p_leg).bind fun (passed_1 : (List Str)) =>
  ((lcP p_city.1 (fun x2 => (decide (x2.1 ∈ passed_1))) fun x2 => x2.2).bind fun a3 => (maxR a3)))
theorem h_leg_ring (p_city : ((List (Str × Int)) × (List (Str × Str × (List Str))))) (p_leg : (Str × Str × Str)) : Q PyData.int (f_leg_ring p_city p_leg) (S.g_leg_ring [((eP2 (eT (eP2 PyData.str PyData.int)) (eT (eP3 PyData.str PyData.str (eT PyData.str)))) p_city), ((eP3 PyData.str PyData.str PyData.str) p_leg)]) :=
  r_fun rfl (show _ = [(some (.val ((eP2 (eT (eP2 PyData.str PyData.int)) (eT (eP3 PyData.str PyData.str (eT PyData.str)))) p_city))), (some (.val ((eP3 PyData.str PyData.str PyData.str) p_leg))), none, none, none] from rfl) (by
  unfold f_leg_ring
  exact (r_seq (r_setM trivial (q_call (q_callP (pv ((eP2 (eT (eP2 PyData.str PyData.int)) (eT (eP3 PyData.str PyData.str (eT PyData.str)))) p_city)) (q_callP (pv ((eP3 PyData.str PyData.str PyData.str) p_leg)) (q_callN (S.h_passed_stops p_city p_leg))))) fun passed_1 =>
  (r_retFM (q_b1M (q_lcP PyData.int (eP2 PyData.str PyData.int) (p_iOf (p_b2 (pv ((eP2 (eT (eP2 PyData.str PyData.int)) (eT (eP3 PyData.str PyData.str (eT PyData.str)))) p_city)) (pc (.int 0)) (ix2_0 (eT (eP2 PyData.str PyData.int)) (eT (eP3 PyData.str PyData.str (eT PyData.str))) _)) (any_T (eP2 PyData.str PyData.int) _)) (no_cons (no_rfl rfl) (no_cons (no_rfl rfl) no_nil)) (show wipeE _ _ = [(some (.val ((eP2 (eT (eP2 PyData.str PyData.int)) (eT (eP3 PyData.str PyData.str (eT PyData.str)))) p_city))), (some (.val ((eP3 PyData.str PyData.str PyData.str) p_leg))), (some (.val ((eT PyData.str) passed_1))), none, none] from rfl) (fun x2 => ⟨_, rfl, (p_tst (p_b2 (pv (PyData.str x2.1)) (pv ((eT PyData.str) passed_1)) (in_T eqS _ _))), (pv (PyData.int x2.2))⟩)) fun a3 => (q_max1 _))))))
end
end S

namespace K03
open PySem PySem.Spec PyProof.Rows L2 DL S
/-! ### the text -/
def topS (i : Nat) : Stmt := PySem.Challenge.pw_roundsfare_k03_legs_of_lines.main.body.getD i (.Pass ⟨0, 0, 0, 0⟩)
abbrev s_line_of : Stmt := topS 4
theorem sc_line_of : FnScope ["city", "name", "line"] ["city", "name"] (defScope s_line_of) := ⟨rfl, rfl, rfl, by decide +kernel, rfl, by decide +kernel, by decide +kernel⟩
abbrev s__law_cell : Stmt := topS 11
theorem sc__law_cell : FnScope ["script", "k"] ["script", "k"] (defScope s__law_cell) := ⟨rfl, rfl, rfl, by decide +kernel, rfl, by decide +kernel, by decide +kernel⟩
abbrev s__law_draws : Stmt := topS 12
theorem sc__law_draws : FnScope ["cell", "sizes", "draws", "rest", "size", "mixed", "k", "other"] ["cell", "sizes"] (defScope s__law_draws) := ⟨rfl, rfl, rfl, by decide +kernel, rfl, by decide +kernel, by decide +kernel⟩
abbrev s__law_rings : Stmt := topS 16
theorem sc__law_rings : FnScope ["city", "rings", "stop"] ["city"] (defScope s__law_rings) := ⟨rfl, rfl, rfl, by decide +kernel, rfl, by decide +kernel, by decide +kernel⟩
abbrev s__law_passed : Stmt := topS 17
theorem sc__law_passed : FnScope ["city", "line", "start", "end", "told", "path", "here", "there", "k"] ["city", "line", "start", "end"] (defScope s__law_passed) := ⟨rfl, rfl, rfl, by decide +kernel, rfl, by decide +kernel, by decide +kernel⟩
abbrev s_fits : Stmt := topS 6
theorem sc_fits : FnScope ["city", "leg", "line"] ["city", "leg"] (defScope s_fits) := ⟨rfl, rfl, rfl, by decide +kernel, rfl, by decide +kernel, by decide +kernel⟩
abbrev s__law_names : Stmt := topS 14
theorem sc__law_names : FnScope ["cell", "many", "letters", "signs", "draws", "stem", "k", "place", "names", "code", "part"] ["cell", "many"] (defScope s__law_names) := ⟨rfl, rfl, rfl, by decide +kernel, rfl, by decide +kernel, by decide +kernel⟩
abbrev s__law_due : Stmt := topS 19
theorem sc__law_due : FnScope ["which", "city", "step", "passed", "rings", "name", "line"] ["which", "city", "step"] (defScope s__law_due) := ⟨rfl, rfl, rfl, by decide +kernel, rfl, by decide +kernel, by decide +kernel⟩
abbrev s__law_step : Stmt := topS 20
theorem sc__law_step : FnScope ["cell", "city", "draws", "lines", "names", "stop", "line", "told", "start", "end"] ["cell", "city"] (defScope s__law_step) := ⟨rfl, rfl, rfl, by decide +kernel, rfl, by decide +kernel, by decide +kernel⟩
abbrev s_passed_stops : Stmt := topS 7
theorem sc_passed_stops : FnScope ["city", "leg", "stops", "start", "end"] ["city", "leg"] (defScope s_passed_stops) := ⟨rfl, rfl, rfl, by decide +kernel, rfl, by decide +kernel, by decide +kernel⟩
abbrev s_leg_carrier : Stmt := topS 9
theorem sc_leg_carrier : FnScope ["city", "leg"] ["city", "leg"] (defScope s_leg_carrier) := ⟨rfl, rfl, rfl, by decide +kernel, rfl, by decide +kernel, by decide +kernel⟩
abbrev s__law_city : Stmt := topS 15
theorem sc__law_city : FnScope ["cell", "other", "most", "lines", "head", "many", "count", "draws", "names", "zones", "stops", "k", "told", "j", "at", "left", "stop", "path", "name", "carrier"] ["cell", "other", "most", "lines"] (defScope s__law_city) := ⟨rfl, rfl, rfl, by decide +kernel, rfl, by decide +kernel, by decide +kernel⟩
abbrev s_leg_ring : Stmt := topS 8
theorem sc_leg_ring : FnScope ["city", "leg", "passed", "name", "ring"] ["city", "leg"] (defScope s_leg_ring) := ⟨rfl, rfl, rfl, by decide +kernel, rfl, by decide +kernel, by decide +kernel⟩
abbrev s__law_asked : Stmt := topS 18
theorem sc__law_asked : FnScope ["which", "city", "step", "e"] ["which", "city", "step"] (defScope s__law_asked) := ⟨rfl, rfl, rfl, by decide +kernel, rfl, by decide +kernel, by decide +kernel⟩
abbrev s__law_same : Stmt := topS 13
theorem sc__law_same : FnScope ["actual", "due", "k"] ["actual", "due"] (defScope s__law_same) := ⟨rfl, rfl, rfl, by decide +kernel, rfl, by decide +kernel, by decide +kernel⟩
abbrev s_law : Stmt := topS 21
theorem sc_law : FnScope ["script", "most", "lines", "one", "two", "k", "city", "step", "which"] ["script"] (defScope s_law) := ⟨rfl, rfl, rfl, by decide +kernel, rfl, by decide +kernel, by decide +kernel⟩
/-! ### classes -/
def rz : List Str := ["BadRide"]
def tb_FareError : List (Str × Bool) := [("BadRide", true)]
def tb_ValueError : List (Str × Bool) := [("BadRide", true)]
def tb_BadRide : List (Str × Bool) := [("BadRide", true)]
abbrev s_i_BadRide : Stmt := clsDef (topS 2) 0
theorem tx_BadRide : Txt2 s_i_BadRide "self" "row" "row" "leg" "leg" := ⟨⟨_, _, _, _, _, _, _, _, _, _, _, _, _, _, _, _, rfl, ⟨fun _ => ⟨_, rfl⟩, fun _ => rfl⟩⟩, NdefX.nscope_by (by decide +kernel), by decide +kernel, ⟨_, rfl, rfl⟩⟩
/-! ### the denotations -/
def e__law_due_1 : En → Rs PyData :=
  (b2 oGet (dVar 4) (dVar 5))
def e__law_due_2 : En → Rs PyData :=
  (b2 oIx (dVar 6) (dC (.int 1)))
def t__law_due_2 : En → Rs Bool :=
  (tst (b2 oEq (b2 oIx (dVar 6) (dC (.int 0))) (b2 oIx (dVar 2) (dC (.int 0)))))
def b__law_due : En → SRes :=
  (sSeq (sSet 3 (dCall S.g__law_passed (aCons (dVar 1) (aCons (b2 oIx (dVar 2) (dC (.int 0))) (aCons (b2 oIx (dVar 2) (dC (.int 1))) (aCons (b2 oIx (dVar 2) (dC (.int 2))) aNil))))))
  (sSeq (sIf (tst (b2 oEq (dVar 0) (dC (.int 0))))
  (sRet (mkT (aCons (dC (.str "value")) (aCons (b2 oIsNot (dVar 3) (dC .none)) aNil))))
  sNil)
  (sSeq (sIf (tst (b2 oIs (dVar 3) (dC .none)))
  (sRet (mkT (aCons (dC (.str "refused")) (aCons (dC (.int 0)) (aCons (dC (.int 0)) (aCons (dC (.bool true)) (aCons (dC (.bool true)) aNil)))))))
  sNil)
  (sSeq (sIf (tst (b2 oEq (dVar 0) (dC (.int 1))))
  (sRet (mkT (aCons (dC (.str "value")) (aCons (dVar 3) aNil))))
  sNil)
  (sSeq (sIf (tst (b2 oEq (dVar 0) (dC (.int 2))))
  (sSeq (sSet 4 (dCall S.g__law_rings (aCons (dVar 1) aNil)))
  (sRet (mkT (aCons (dC (.str "value")) (aCons (b1 oMax1 (lcD [5] (iOf oAny (dVar 3)) (τName 5) tY e__law_due_1)) aNil)))))
  sNil)
  (sRet (mkT (aCons (dC (.str "value")) (aCons (b2 oIx (lcD [6] (iOf oAny (b2 oIx (dVar 1) (dC (.int 1)))) (τName 6) t__law_due_2 e__law_due_2) (dC (.int 0))) aNil)))))))))
def g__law_due : List PyData → Rs PyData := runF 7 3 b__law_due
def e__law_step_1 : En → Rs PyData :=
  (b2 oIx (dVar 5) (dC (.int 0)))
def e__law_step_2 : En → Rs PyData :=
  (b2 oIx (dVar 6) (dC (.int 0)))
def b__law_step : En → SRes :=
  (sSeq (sSet 2 (dCall DL.g_draws (aCons (dVar 0) (aCons (mkL (aCons (dC (.int 9)) (aCons (dC (.int 40)) (aCons (dC (.int 40)) (aCons (dC (.int 12)) (aCons (dC (.int 40)) (aCons (dC (.int 40)) aNil))))))) aNil))))
  (sSeq (sSet 3 (b2 oIx (dVar 1) (dC (.int 1))))
  (sSeq (sSet 4 (b2 oAdd (b2 oAdd (lcD [5] (iOf oAny (b2 oIx (dVar 1) (dC (.int 0)))) (τName 5) tY e__law_step_1) (lcD [6] (iOf oAny (dVar 3)) (τName 6) tY e__law_step_2)) (mkL (aCons (dC (.str "nowhere")) (aCons (dC (.str "")) aNil)))))
  (sSeq (sSet 6 (b2 oIx (dVar 4) (b2 oMod (b2 oIx (dVar 2) (dC (.int 1))) (b1 oLen (dVar 4)))))
  (sSeq (sIf (tOrD (tst (b2 oEq (b1 oLen (dVar 3)) (dC (.int 0)))) (tst (b2 oEq (b2 oIx (dVar 2) (dC (.int 0))) (dC (.int 0)))))
  (sRet (mkT (aCons (dVar 6) (aCons (b2 oIx (dVar 4) (b2 oMod (b2 oIx (dVar 2) (dC (.int 4))) (b1 oLen (dVar 4)))) (aCons (b2 oIx (dVar 4) (b2 oMod (b2 oIx (dVar 2) (dC (.int 5))) (b1 oLen (dVar 4)))) aNil)))))
  sNil)
  (sSeq (sSet 7 (b2 oIx (dVar 3) (b2 oMod (b2 oIx (dVar 2) (dC (.int 1))) (b1 oLen (dVar 3)))))
  (sSeq (sSet 8 (b2 oIx (b2 oIx (dVar 7) (dC (.int 2))) (b2 oMod (b2 oIx (dVar 2) (dC (.int 4))) (b1 oLen (b2 oIx (dVar 7) (dC (.int 2)))))))
  (sSeq (sSet 9 (b2 oIx (b2 oIx (dVar 7) (dC (.int 2))) (b2 oMod (b2 oIx (dVar 2) (dC (.int 5))) (b1 oLen (b2 oIx (dVar 7) (dC (.int 2)))))))
  (sSeq (sIf (tst (b2 oEq (b2 oIx (dVar 2) (dC (.int 3))) (dC (.int 0))))
  (sSet 9 (b2 oIx (dVar 4) (b2 oMod (b2 oIx (dVar 2) (dC (.int 2))) (b1 oLen (dVar 4)))))
  sNil)
  (sSeq (sIf (tst (b2 oEq (b2 oIx (dVar 2) (dC (.int 3))) (dC (.int 1))))
  (sSet 8 (b2 oIx (dVar 4) (b2 oMod (b2 oIx (dVar 2) (dC (.int 2))) (b1 oLen (dVar 4)))))
  sNil)
  (sSeq (sIf (tst (b2 oEq (b2 oIx (dVar 2) (dC (.int 3))) (dC (.int 2))))
  (sRet (mkT (aCons (b2 oIx (dVar 4) (b2 oMod (b2 oIx (dVar 2) (dC (.int 2))) (b1 oLen (dVar 4)))) (aCons (dVar 8) (aCons (dVar 9) aNil)))))
  sNil)
  (sRet (mkT (aCons (b2 oIx (dVar 7) (dC (.int 0))) (aCons (dVar 8) (aCons (dVar 9) aNil))))))))))))))))
def g__law_step : List PyData → Rs PyData := runF 10 2 b__law_step
def y__law_asked_1 : En → SRes :=
  (sSeq (sIf (tst (b2 oEq (dVar 0) (dC (.int 0))))
  (sRet (mkT (aCons (dC (.str "value")) (aCons (dCall S.g_fits (aCons (dVar 1) (aCons (dVar 2) aNil))) aNil))))
  sNil)
  (sSeq (sIf (tst (b2 oEq (dVar 0) (dC (.int 1))))
  (sRet (mkT (aCons (dC (.str "value")) (aCons (dCall S.g_passed_stops (aCons (dVar 1) (aCons (dVar 2) aNil))) aNil))))
  sNil)
  (sSeq (sIf (tst (b2 oEq (dVar 0) (dC (.int 2))))
  (sRet (mkT (aCons (dC (.str "value")) (aCons (dCall S.g_leg_ring (aCons (dVar 1) (aCons (dVar 2) aNil))) aNil))))
  sNil)
  (sRet (mkT (aCons (dC (.str "value")) (aCons (dCall S.g_leg_carrier (aCons (dVar 1) (aCons (dVar 2) aNil))) aNil)))))))
def h__law_asked_1_0 : En → SRes :=
  (sRet (mkT (aCons (dC (.str "refused")) (aCons (b1 (oFld rz "row") (dVar 3)) (aCons (b1 (oFld rz "leg") (dVar 3)) (aCons (b1 (oIsE tb_FareError) (dVar 3)) (aCons (b1 (oIsE tb_ValueError) (dVar 3)) aNil)))))))
def b__law_asked : En → SRes :=
  (sTry [⟨tb_BadRide, some 3, h__law_asked_1_0⟩] y__law_asked_1)
def g__law_asked : List PyData → Rs PyData := runF 4 3 b__law_asked
def l_law_3 : En → SRes :=
  (sIf (tNotD (tst (dCall (DL.g_same 6) (aCons (dCall g__law_asked (aCons (dVar 8) (aCons (dVar 6) (aCons (dVar 7) aNil)))) (aCons (dCall g__law_due (aCons (dVar 8) (aCons (dVar 6) (aCons (dVar 7) aNil)))) aNil)))))
  (sRet (dC (.bool false)))
  sNil)
def l_law_2 : En → SRes :=
  (sSeq (sSet 7 (dCall g__law_step (aCons (b2 oAdd (dCall DL.g_cell (aCons (dVar 0) (aCons (b2 oAdd (dC (.int 3)) (dVar 5)) aNil))) (dVar 5)) (aCons (dVar 6) aNil))))
  (sFor (iRange1 (dC (.int 4))) (τName 8) l_law_3))
def l_law_1 : En → SRes :=
  (sFor (iOf oAny (mkL (aCons (dVar 3) (aCons (dVar 4) (aCons (dVar 3) aNil))))) (τName 6) l_law_2)
def b_law : En → SRes :=
  (sSeq (sSet 1 (dC (.int 8)))
  (sSeq (sSet 2 (dC (.int 5)))
  (sSeq (sIf (tst (b2 oEq (b2 oMod (b1 oInt (dCall DL.g_cell (aCons (dVar 0) (aCons (dC (.int 0)) aNil)))) (dC (.int 8))) (dC (.int 5))))
  (sSeq (sSet 1 (dC (.int 30)))
  (sSet 2 (dC (.int 16))))
  sNil)
  (sSeq (sSet 3 (dCall S.g__law_city_v2 (aCons (dCall DL.g_cell (aCons (dVar 0) (aCons (dC (.int 0)) aNil))) (aCons (dCall DL.g_cell (aCons (dVar 0) (aCons (dC (.int 1)) aNil))) (aCons (dVar 1) (aCons (dVar 2) aNil))))))
  (sSeq (sSet 4 (dCall S.g__law_city_v2 (aCons (dCall DL.g_cell (aCons (dVar 0) (aCons (dC (.int 2)) aNil))) (aCons (b2 oAdd (dCall DL.g_cell (aCons (dVar 0) (aCons (dC (.int 1)) aNil))) (b2 oMod (b1 oInt (dCall DL.g_cell (aCons (dVar 0) (aCons (dC (.int 3)) aNil)))) (dC (.int 2)))) (aCons (dC (.int 8)) (aCons (dC (.int 5)) aNil))))))
  (sSeq (sFor (iRange1 (b2 oMax2 (dC (.int 2)) (b2 oMin2 (b1 oLen (dVar 0)) (dC (.int 12))))) (τName 5) l_law_1)
  (sRet (dC (.bool true)))))))))
def g_law : List PyData → Rs PyData := runF 9 1 b_law
end K03

namespace K03
open PySem PySem.Spec PyProof.Rows L2 DL S
/-! ### the walk -/
section
variable {P : Program} {w : World} {K : PySem.W.Frag} {mg : Str → Option Value} {base : Heap}
theorem ok_line_of {f : Addr} {fd : FuncData}  (F : L2.Fun K "line_of" "line_of" s_line_of f fd) (bn : Binds K fd ["city", "name"] []) (hm : mg "line_of" = some (.ref f))         : Fn P w K mg base 1 "line_of" S.g_line_of :=
  fn_mk F sc_line_of bn hm fun cdv A outer s H E hr tk po => (dss_cons (ds_for po rfl (di_any (de_ix (de_var 0).be (DE.be de_int))) (dg_name 2 sc_line_of.nd)
  (dss_one (ds_if (dt_cmp (op_eqP hr.units) ok_eq (DE.be (de_ix (de_var 2).be (DE.be de_int))) (de_var 1).be (nomark _))
  (dss_one (ds_ret (de_var 2)))
  dss_nil)))
  (dss_one (ds_ret de_non)))
theorem ok__law_cell {f : Addr} {fd : FuncData}  (F : L2.Fun K "_law_cell" "_law_cell" s__law_cell f fd) (bn : Binds K fd ["script", "k"] []) (hm : mg "_law_cell" = some (.ref f)) (m_int : mg "int" = none) (m_len : mg "len" = none)        : Fn P w K mg base 1 "_law_cell" DL.g_cell :=
  fn_mk F sc__law_cell bn hm fun cdv A outer s H E hr tk po => (dss_cons (ds_if (dt_cmp op_lt ok_lt (de_var 1).be (DE.be (de_call1 call_len ok_len (de_var 0).be m_len bt_len)) (nomark _))
  (dss_one (ds_ret (de_callT1 call_int1 ok_int (DE.be (de_ix (de_var 0).be (de_var 1).be)) m_int bt_int)))
  dss_nil)
  (dss_one (ds_ret de_int)))
theorem ok__law_draws {f : Addr} {fd : FuncData}  (F : L2.Fun K "_law_draws" "_law_draws" s__law_draws f fd) (bn : Binds K fd ["cell", "sizes"] []) (hm : mg "_law_draws" = some (.ref f)) (m_int : mg "int" = none) (m_len : mg "len" = none) (m_range : mg "range" = none)        : Fn P w K mg base 1 "_law_draws" DL.g_draws :=
  fn_mk F sc__law_draws bn hm fun cdv A outer s H E hr tk po => (dss_cons (ds_setO 2 sc__law_draws.nd (oe_lst da_nil))
  (dss_cons (ds_if (dt_cmp op_ge ok_ge (de_var 0).be (DE.be (de_op op_pow ok_pow (DE.be de_int) (DE.be de_int))) (nomark _))
  (dss_cons (ds_set 3 sc__law_draws.nd (de_callT1 call_int1 ok_int (de_var 0).be m_int bt_int))
  (dss_cons (ds_for po rfl (di_any (de_var 1)) (dg_name 4 sc__law_draws.nd)
  (dss_cons (ds_app 2 (de_op op_mod ok_mod (DE.be (de_callT1 call_int1 ok_int (de_var 3).be m_int bt_int)) (de_var 4).be))
  (dss_one (ds_set 3 sc__law_draws.nd (de_op op_fdiv ok_div (de_var 3).be (de_var 4).be)))))
  (dss_one (ds_frz 2 (ds_ret (de_var 2))))))
  dss_nil)
  (dss_cons (ds_set 5 sc__law_draws.nd (de_op op_mod ok_mod (DE.be (de_callT1 call_int1 ok_int (de_var 0).be m_int bt_int)) (DE.be de_int)))
  (dss_cons (ds_for po rfl (di_range1 false (DE.be (de_call1 call_len ok_len (de_var 1).be m_len bt_len)) m_range) (dg_name 6 sc__law_draws.nd)
  (dss_cons (ds_set 5 sc__law_draws.nd (de_op op_mod ok_mod (DE.be (de_callT1 call_int1 ok_int (DE.be (de_op op_addD ok_add (DE.be (de_op op_addD ok_add (DE.be (de_op op_mulD ok_mul (de_var 5).be (DE.be de_int))) (DE.be (de_op op_mulD ok_mul (DE.be de_int) (de_var 6).be)))) (DE.be de_int))) m_int bt_int)) (DE.be de_int)))
  (dss_cons (ds_set 7 sc__law_draws.nd (de_op op_mod ok_mod (DE.be (de_callT1 call_int1 ok_int (DE.be (de_op op_addD ok_add (DE.be (de_op op_addD ok_add (DE.be (de_op op_mulD ok_mul (DE.be (de_op op_fdiv ok_div (de_var 5).be (DE.be de_int))) (DE.be de_int))) (DE.be (de_op op_mulD ok_mul (DE.be de_int) (de_var 6).be)))) (DE.be de_int))) m_int bt_int)) (DE.be de_int)))
  (dss_one (ds_app 2 (de_op op_mod ok_mod (DE.be (de_callT1 call_int1 ok_int (de_var 7).be m_int bt_int)) (DE.be (de_ix (de_var 1).be (de_var 6).be))))))))
  (dss_one (ds_frz 2 (ds_ret (de_var 2))))))))
theorem ok__law_rings {f : Addr} {fd : FuncData}  (F : L2.Fun K "_law_rings" "_law_rings" s__law_rings f fd) (bn : Binds K fd ["city"] []) (hm : mg "_law_rings" = some (.ref f))         : Fn P w K mg base 1 "_law_rings" S.g__law_rings :=
  fn_mk F sc__law_rings bn hm fun cdv A outer s H E hr tk po => (dss_cons (ds_setO 1 sc__law_rings.nd oe_dict0)
  (dss_cons (ds_for po rfl (di_any (de_ix (de_var 0).be (DE.be de_int))) (dg_name 2 sc__law_rings.nd)
  (dss_one (ds_put 1 hr.units (de_ix (de_var 2).be (DE.be de_int)) (DE.be (de_ix (de_var 2).be (DE.be de_int))))))
  (dss_one (ds_frz 1 (ds_ret (de_var 1))))))
theorem ok__law_passed {f : Addr} {fd : FuncData}  (F : L2.Fun K "_law_passed" "_law_passed" s__law_passed f fd) (bn : Binds K fd ["city", "line", "start", "end"] []) (hm : mg "_law_passed" = some (.ref f)) (m_range : mg "range" = none) (m_tuple : mg "tuple" = none)        : Fn P w K mg base 1 "_law_passed" S.g__law_passed :=
  fn_mk F sc__law_passed bn hm fun cdv A outer s H E hr tk po => (dss_cons (ds_for po rfl (di_any (de_ix (de_var 0).be (DE.be de_int))) (dg_name 4 sc__law_passed.nd)
  (dss_one (ds_if (dt_cmp (op_eqP hr.units) ok_eq (DE.be (de_ix (de_var 4).be (DE.be de_int))) (de_var 1).be (nomark _))
  (dss_cons (ds_set 5 sc__law_passed.nd (de_ix (de_var 4).be (DE.be de_int)) (hx := .inr rfl))
  (dss_cons (ds_if (dt_w (dw_or (dt_cmp (op_eqP hr.units) ok_eq (de_var 2).be (de_var 3).be (nomark _)) (dw_or (dt_cmp (op_notInP hr.units) ok_notin (de_var 2).be (de_var 5).be (by rfl)) (dw_or1 (dt_cmp (op_notInP hr.units) ok_notin (de_var 3).be (de_var 5).be (by rfl))))))
  (dss_one (ds_ret de_non))
  dss_nil)
  (dss_cons (ds_set 6 sc__law_passed.nd (de_index (de_var 5).be (de_var 2).be) (hx := .inr rfl))
  (dss_cons (ds_set 7 sc__law_passed.nd (de_index (de_var 5).be (de_var 3).be))
  (dss_cons (ds_if (dt_cmp op_lt ok_lt (de_var 6).be (de_var 7).be (nomark _))
  (dss_one (ds_ret (de_callT1 call_tupleN ok_tuple (DE.be (OE.de (oe_lc [("k", 8)] rfl sc__law_passed.nd (di_range2 true (de_var 6).be (DE.be (de_op op_addD ok_add (de_var 7).be (DE.be de_int))) m_range) (blkOk_by (N := ["city", "line", "start", "end", "told", "path", "here", "there", "k"]) (sc := defScope s__law_passed) (by decide +kernel)) (fun _ _ _ _ _ => (dg_name 8 sc__law_passed.nd)) (tok_name 8) (fun _ _ _ _ _ => dts_nil) (fun _ _ _ _ _ => (de_ix (de_var 5).be (de_var 8).be))))) m_tuple bt_tuple)))
  dss_nil)
  (dss_one (ds_ret (de_callT1 call_tupleN ok_tuple (DE.be (OE.de (oe_lc [("k", 8)] rfl sc__law_passed.nd (di_range1 true (DE.be (de_op op_addD ok_add (DE.be (de_op op_sub ok_sub (de_var 6).be (de_var 7).be)) (DE.be de_int))) m_range) (blkOk_by (N := ["city", "line", "start", "end", "told", "path", "here", "there", "k"]) (sc := defScope s__law_passed) (by decide +kernel)) (fun _ _ _ _ _ => (dg_name 8 sc__law_passed.nd)) (tok_name 8) (fun _ _ _ _ _ => dts_nil) (fun _ _ _ _ _ => (de_ix (de_var 5).be (DE.be (de_op op_sub ok_sub (de_var 6).be (de_var 8).be))))))) m_tuple bt_tuple))))))))
  dss_nil)))
  (dss_one (ds_ret de_non)))
theorem ok_fits {f : Addr} {fd : FuncData}  (F : L2.Fun K "fits" "fits" s_fits f fd) (bn : Binds K fd ["city", "leg"] []) (hm : mg "fits" = some (.ref f))        (c_line_of : Fn P w K mg base 1 "line_of" S.g_line_of) : Fn P w K mg base 2 "fits" S.g_fits :=
  fn_mk F sc_fits bn hm fun cdv A outer s H E hr tk po => (dss_cons (ds_set 2 sc_fits.nd (de_call c_line_of (hr.mono (by decide)) tk (da_cons (de_var 0) (da_cons (de_ix (de_var 1).be (DE.be de_int)) da_nil))))
  (dss_cons (ds_if (dt_cmp op_isN ok_is (de_var 2).be (DE.be de_non) (nomark _))
  (dss_one (ds_ret de_bl))
  dss_nil)
  (dss_one (ds_ret (de_and (de_cmp (op_inP hr.units) ok_in (DE.be (de_ix (de_var 1).be (DE.be de_int))) (DE.be (de_ix (de_var 2).be (DE.be de_int))) (by rfl)) (de_and (de_cmp (op_inP hr.units) ok_in (DE.be (de_ix (de_var 1).be (DE.be de_int))) (DE.be (de_ix (de_var 2).be (DE.be de_int))) (by rfl)) (de_one (de_cmp (op_neP hr.units) ok_ne (DE.be (de_ix (de_var 1).be (DE.be de_int))) (DE.be (de_ix (de_var 1).be (DE.be de_int))) (nomark _)))))))))
theorem ok__law_names {f : Addr} {fd : FuncData}  (F : L2.Fun K "_law_names" "_law_names" s__law_names f fd) (bn : Binds K fd ["cell", "many"] []) (hm : mg "_law_names" = some (.ref f)) (m_int : mg "int" = none) (m_range : mg "range" = none) (m_str : mg "str" = none)       (c__law_draws : Fn P w K mg base 1 "_law_draws" DL.g_draws) : Fn P w K mg base 2 "_law_names" DL.g_names :=
  fn_mk F sc__law_names bn hm fun cdv A outer s H E hr tk po => (dss_cons (ds_set 2 sc__law_names.nd de_str)
  (dss_cons (ds_set 3 sc__law_names.nd de_str (hx := .inr rfl))
  (dss_cons (ds_set 4 sc__law_names.nd (de_call c__law_draws (hr.mono (by decide)) tk (da_cons (de_var 0) (da_cons (de_op op_addD ok_add (DE.be (OE.de (oe_lst (da_cons de_int (da_cons de_int (da_cons de_int (da_cons de_int (da_cons de_int da_nil)))))))) (DE.be (de_op op_mulD ok_mul (DE.be (OE.de (oe_lst (da_cons de_int da_nil)))) (DE.be de_int)))) da_nil))) (hx := .inr rfl))
  (dss_cons (ds_set 5 sc__law_names.nd (de_op op_addD ok_add (DE.be (de_ix (de_var 2).be (DE.be (de_ix (de_var 4).be (DE.be de_int))))) (DE.be (de_join (DE.be de_str) (DE.be (OE.de (oe_lc [("k", 6)] rfl sc__law_names.nd (di_range1 true (DE.be de_int) m_range) (blkOk_by (N := ["cell", "many", "letters", "signs", "draws", "stem", "k", "place", "names", "code", "part"]) (sc := defScope s__law_names) (by decide +kernel)) (fun _ _ _ _ _ => (dg_name 6 sc__law_names.nd)) (tok_name 6) (fun _ _ _ _ _ => dts_nil) (fun _ _ _ _ _ => (de_ix (de_var 3).be (DE.be (de_ix (de_var 4).be (DE.be (de_op op_addD ok_add (DE.be de_int) (de_var 6).be)))))))))))))
  (dss_cons (ds_set 7 sc__law_names.nd (de_op op_mod ok_mod (DE.be (de_callT1 call_int1 ok_int (DE.be (de_ix (de_var 4).be (DE.be de_int))) m_int bt_int)) (DE.be (de_op op_addD ok_add (DE.be (de_ix (de_var 4).be (DE.be de_int))) (DE.be de_int)))))
  (dss_cons (ds_setO 8 sc__law_names.nd (oe_lst da_nil))
  (dss_cons (ds_for po rfl (di_range1 false (de_var 1).be m_range) (dg_name 6 sc__law_names.nd)
  (dss_cons (ds_set 9 sc__law_names.nd (de_op op_addD ok_add (DE.be (de_ix (de_var 2).be (DE.be (de_op op_mod ok_mod (DE.be (de_callT1 call_int1 ok_int (DE.be (de_op op_addD ok_add (DE.be (de_op op_mulD ok_mul (de_var 6).be (DE.be de_int))) (DE.be (de_ix (de_var 4).be (DE.be de_int))))) m_int bt_int)) (DE.be de_int))))) (DE.be (de_callT1 call_str_int ok_str (DE.be (de_op op_fdiv ok_div (de_var 6).be (DE.be de_int))) m_str bt_str))))
  (dss_cons (ds_set 10 sc__law_names.nd (de_cut (de_var 5).be do_none (do_some (DE.be (de_op op_mod ok_mod (DE.be (de_callT1 call_int1 ok_int (DE.be (de_op op_addD ok_add (DE.be (de_ix (de_var 4).be (DE.be de_int))) (DE.be (de_op op_mulD ok_mul (DE.be de_int) (de_var 6).be)))) m_int bt_int)) (DE.be de_int))))))
  (dss_one (ds_if (dt_w (dw_and (dt_cmp (op_eqP hr.units) ok_eq (DE.be (de_ix (de_var 4).be (DE.be de_int))) (DE.be de_int) (nomark _)) (dw_and1 (dt_cmp op_le ok_le (de_var 1).be (DE.be de_int) (nomark _)))))
  (dss_one (ds_app 8 (de_ix (de_var 9).be (DE.be de_int))))
  (dss_one (ds_if (dt_cmp op_le ok_le (DE.be (de_ix (de_var 4).be (DE.be de_int))) (DE.be de_int) (nomark _))
  (dss_one (ds_app 8 (de_op op_addD ok_add (DE.be (de_op op_addD ok_add (DE.be (de_cut (de_var 5).be do_none (do_some (de_var 7).be))) (de_var 9).be)) (DE.be (de_cut (de_var 5).be (do_some (de_var 7).be) (do_some (DE.be (de_ix (de_var 4).be (DE.be de_int)))))))))
  (dss_one (ds_if (dt_cmp (op_eqP hr.units) ok_eq (DE.be (de_ix (de_var 4).be (DE.be de_int))) (DE.be de_int) (nomark _))
  (dss_one (ds_app 8 (de_op op_addD ok_add (de_var 10).be (de_var 9).be)))
  (dss_one (ds_app 8 (de_op op_addD ok_add (de_var 9).be (de_var 10).be))))))))))))
  (dss_one (ds_frz 8 (ds_ret (de_var 8)))))))))))
theorem ok__law_due {f : Addr} {fd : FuncData}  (F : L2.Fun K "_law_due" "_law_due" s__law_due f fd) (bn : Binds K fd ["which", "city", "step"] []) (hm : mg "_law_due" = some (.ref f)) (m_max : mg "max" = none)       (c__law_passed : Fn P w K mg base 1 "_law_passed" S.g__law_passed) (c__law_rings : Fn P w K mg base 1 "_law_rings" S.g__law_rings) : Fn P w K mg base 2 "_law_due" g__law_due :=
  fn_mk F sc__law_due bn hm fun cdv A outer s H E hr tk po => (dss_cons (ds_set 3 sc__law_due.nd (de_call c__law_passed (hr.mono (by decide)) tk (da_cons (de_var 1) (da_cons (de_ix (de_var 2).be (DE.be de_int)) (da_cons (de_ix (de_var 2).be (DE.be de_int)) (da_cons (de_ix (de_var 2).be (DE.be de_int)) da_nil))))))
  (dss_cons (ds_if (dt_cmp (op_eqP hr.units) ok_eq (de_var 0).be (DE.be de_int) (nomark _))
  (dss_one (ds_ret (de_tup (da_cons de_str (da_cons (de_cmp op_notN ok_isnot (de_var 3).be (DE.be de_non) (nomark _)) da_nil)))))
  dss_nil)
  (dss_cons (ds_if (dt_cmp op_isN ok_is (de_var 3).be (DE.be de_non) (nomark _))
  (dss_one (ds_ret (de_tup (da_cons de_str (da_cons de_int (da_cons de_int (da_cons de_bl (da_cons de_bl da_nil))))))))
  dss_nil)
  (dss_cons (ds_if (dt_cmp (op_eqP hr.units) ok_eq (de_var 0).be (DE.be de_int) (nomark _))
  (dss_one (ds_ret (de_tup (da_cons de_str (da_cons (de_var 3) da_nil)))))
  dss_nil)
  (dss_cons (ds_if (dt_cmp (op_eqP hr.units) ok_eq (de_var 0).be (DE.be de_int) (nomark _))
  (dss_cons (ds_set 4 sc__law_due.nd (de_call c__law_rings (hr.mono (by decide)) tk (da_cons (de_var 1) da_nil)) (hx := .inr rfl))
  (dss_one (ds_ret (de_tup (da_cons de_str (da_cons (de_max1 (DE.be (OE.de (oe_lc [("name", 5)] rfl sc__law_due.nd (di_anyB (de_var 3).be) (blkOk_by (N := ["which", "city", "step", "passed", "rings", "name", "line"]) (sc := defScope s__law_due) (by decide +kernel)) (fun _ _ _ _ _ => (dg_name 5 sc__law_due.nd)) (tok_name 5) (fun _ _ _ _ _ => dts_nil) (fun _ _ _ _ _ => (de_get hr.units (de_var 4).be (de_var 5).be))))) m_max) da_nil))))))
  dss_nil)
  (dss_one (ds_ret (de_tup (da_cons de_str (da_cons (de_ix (DE.be (OE.de (oe_lc [("line", 6)] rfl sc__law_due.nd (di_anyB (DE.be (de_ix (de_var 1).be (DE.be de_int)))) (blkOk_by (N := ["which", "city", "step", "passed", "rings", "name", "line"]) (sc := defScope s__law_due) (by decide +kernel)) (fun _ _ _ _ _ => (dg_name 6 sc__law_due.nd)) (tok_name 6) (fun _ _ _ _ _ => (dts_one (dt_cmp (op_eqP hr.units) ok_eq (DE.be (de_ix (de_var 6).be (DE.be de_int))) (DE.be (de_ix (de_var 2).be (DE.be de_int))) (nomark _)))) (fun _ _ _ _ _ => (de_ix (de_var 6).be (DE.be de_int)))))) (DE.be de_int)) da_nil))))))))))
theorem ok__law_step {f : Addr} {fd : FuncData}  (F : L2.Fun K "_law_step" "_law_step" s__law_step f fd) (bn : Binds K fd ["cell", "city"] []) (hm : mg "_law_step" = some (.ref f)) (m_len : mg "len" = none)       (c__law_draws : Fn P w K mg base 1 "_law_draws" DL.g_draws) : Fn P w K mg base 2 "_law_step" g__law_step :=
  fn_mk F sc__law_step bn hm fun cdv A outer s H E hr tk po => (dss_cons (ds_set 2 sc__law_step.nd (de_call c__law_draws (hr.mono (by decide)) tk (da_cons (de_var 0) (da_cons (OE.de (oe_lst (da_cons de_int (da_cons de_int (da_cons de_int (da_cons de_int (da_cons de_int (da_cons de_int da_nil)))))))) da_nil))))
  (dss_cons (ds_set 3 sc__law_step.nd (de_ix (de_var 1).be (DE.be de_int)))
  (dss_cons (ds_set 4 sc__law_step.nd (de_op op_addD ok_add (DE.be (de_op op_addD ok_add (DE.be (OE.de (oe_lc [("stop", 5)] rfl sc__law_step.nd (di_anyB (DE.be (de_ix (de_var 1).be (DE.be de_int)))) (blkOk_by (N := ["cell", "city", "draws", "lines", "names", "stop", "line", "told", "start", "end"]) (sc := defScope s__law_step) (by decide +kernel)) (fun _ _ _ _ _ => (dg_name 5 sc__law_step.nd)) (tok_name 5) (fun _ _ _ _ _ => dts_nil) (fun _ _ _ _ _ => (de_ix (de_var 5).be (DE.be de_int)))))) (DE.be (OE.de (oe_lc [("line", 6)] rfl sc__law_step.nd (di_anyB (de_var 3).be) (blkOk_by (N := ["cell", "city", "draws", "lines", "names", "stop", "line", "told", "start", "end"]) (sc := defScope s__law_step) (by decide +kernel)) (fun _ _ _ _ _ => (dg_name 6 sc__law_step.nd)) (tok_name 6) (fun _ _ _ _ _ => dts_nil) (fun _ _ _ _ _ => (de_ix (de_var 6).be (DE.be de_int)))))))) (DE.be (OE.de (oe_lst (da_cons de_str (da_cons de_str da_nil)))))))
  (dss_cons (ds_set 6 sc__law_step.nd (de_ix (de_var 4).be (DE.be (de_op op_mod ok_mod (DE.be (de_ix (de_var 2).be (DE.be de_int))) (DE.be (de_call1 call_len ok_len (de_var 4).be m_len bt_len))))))
  (dss_cons (ds_if (dt_w (dw_or (dt_cmp (op_eqP hr.units) ok_eq (DE.be (de_call1 call_len ok_len (de_var 3).be m_len bt_len)) (DE.be de_int) (nomark _)) (dw_or1 (dt_cmp (op_eqP hr.units) ok_eq (DE.be (de_ix (de_var 2).be (DE.be de_int))) (DE.be de_int) (nomark _)))))
  (dss_one (ds_ret (de_tup (da_cons (de_var 6) (da_cons (de_ix (de_var 4).be (DE.be (de_op op_mod ok_mod (DE.be (de_ix (de_var 2).be (DE.be de_int))) (DE.be (de_call1 call_len ok_len (de_var 4).be m_len bt_len))))) (da_cons (de_ix (de_var 4).be (DE.be (de_op op_mod ok_mod (DE.be (de_ix (de_var 2).be (DE.be de_int))) (DE.be (de_call1 call_len ok_len (de_var 4).be m_len bt_len))))) da_nil))))))
  dss_nil)
  (dss_cons (ds_set 7 sc__law_step.nd (de_ix (de_var 3).be (DE.be (de_op op_mod ok_mod (DE.be (de_ix (de_var 2).be (DE.be de_int))) (DE.be (de_call1 call_len ok_len (de_var 3).be m_len bt_len))))))
  (dss_cons (ds_set 8 sc__law_step.nd (de_ix (DE.be (de_ix (de_var 7).be (DE.be de_int))) (DE.be (de_op op_mod ok_mod (DE.be (de_ix (de_var 2).be (DE.be de_int))) (DE.be (de_call1 call_len ok_len (DE.be (de_ix (de_var 7).be (DE.be de_int))) m_len bt_len))))))
  (dss_cons (ds_set 9 sc__law_step.nd (de_ix (DE.be (de_ix (de_var 7).be (DE.be de_int))) (DE.be (de_op op_mod ok_mod (DE.be (de_ix (de_var 2).be (DE.be de_int))) (DE.be (de_call1 call_len ok_len (DE.be (de_ix (de_var 7).be (DE.be de_int))) m_len bt_len))))))
  (dss_cons (ds_if (dt_cmp (op_eqP hr.units) ok_eq (DE.be (de_ix (de_var 2).be (DE.be de_int))) (DE.be de_int) (nomark _))
  (dss_one (ds_set 9 sc__law_step.nd (de_ix (de_var 4).be (DE.be (de_op op_mod ok_mod (DE.be (de_ix (de_var 2).be (DE.be de_int))) (DE.be (de_call1 call_len ok_len (de_var 4).be m_len bt_len)))))))
  dss_nil)
  (dss_cons (ds_if (dt_cmp (op_eqP hr.units) ok_eq (DE.be (de_ix (de_var 2).be (DE.be de_int))) (DE.be de_int) (nomark _))
  (dss_one (ds_set 8 sc__law_step.nd (de_ix (de_var 4).be (DE.be (de_op op_mod ok_mod (DE.be (de_ix (de_var 2).be (DE.be de_int))) (DE.be (de_call1 call_len ok_len (de_var 4).be m_len bt_len)))))))
  dss_nil)
  (dss_cons (ds_if (dt_cmp (op_eqP hr.units) ok_eq (DE.be (de_ix (de_var 2).be (DE.be de_int))) (DE.be de_int) (nomark _))
  (dss_one (ds_ret (de_tup (da_cons (de_ix (de_var 4).be (DE.be (de_op op_mod ok_mod (DE.be (de_ix (de_var 2).be (DE.be de_int))) (DE.be (de_call1 call_len ok_len (de_var 4).be m_len bt_len))))) (da_cons (de_var 8) (da_cons (de_var 9) da_nil))))))
  dss_nil)
  (dss_one (ds_ret (de_tup (da_cons (de_ix (de_var 7).be (DE.be de_int)) (da_cons (de_var 8) (da_cons (de_var 9) da_nil)))))))))))))))))
theorem ok_passed_stops {f : Addr} {fd : FuncData}  (F : L2.Fun K "passed_stops" "passed_stops" s_passed_stops f fd) (bn : Binds K fd ["city", "leg"] []) (hm : mg "passed_stops" = some (.ref f))   (x_BadRide : ExcK P w K mg base "BadRide" ["row", "leg"])     (c_fits : Fn P w K mg base 2 "fits" S.g_fits) (c_line_of : Fn P w K mg base 1 "line_of" S.g_line_of) : Fn P w K mg base 3 "passed_stops" S.g_passed_stops :=
  fn_mk F sc_passed_stops bn hm fun cdv A outer s H E hr tk po => (dss_cons (ds_if (dt_not (dt_val (de_call c_fits (hr.mono (by decide)) tk (da_cons (de_var 0) (da_cons (de_var 1) da_nil)))))
  (dss_one (ds_raise x_BadRide (by decide) (hr.mono (by decide)) rfl tk (da_cons de_int (da_cons de_int da_nil))))
  dss_nil)
  (dss_cons (ds_set 2 sc_passed_stops.nd (de_ix (DE.be (de_call c_line_of (hr.mono (by decide)) tk (da_cons (de_var 0) (da_cons (de_ix (de_var 1).be (DE.be de_int)) da_nil)))) (DE.be de_int)))
  (dss_cons (ds_set 3 sc_passed_stops.nd (de_index (de_var 2).be (DE.be (de_ix (de_var 1).be (DE.be de_int)))))
  (dss_cons (ds_set 4 sc_passed_stops.nd (de_index (de_var 2).be (DE.be (de_ix (de_var 1).be (DE.be de_int)))))
  (dss_cons (ds_if (dt_cmp op_lt ok_lt (de_var 3).be (de_var 4).be (nomark _))
  (dss_one (ds_ret (de_cut (de_var 2).be (do_some (de_var 3).be) (do_some (DE.be (de_op op_addD ok_add (de_var 4).be (DE.be de_int)))))))
  dss_nil)
  (dss_one (ds_ret (de_revB (DE.be (de_cut (de_var 2).be (do_some (de_var 4).be) (do_some (DE.be (de_op op_addD ok_add (de_var 3).be (DE.be de_int))))))))))))))
theorem ok_leg_carrier {f : Addr} {fd : FuncData}  (F : L2.Fun K "leg_carrier" "leg_carrier" s_leg_carrier f fd) (bn : Binds K fd ["city", "leg"] []) (hm : mg "leg_carrier" = some (.ref f))   (x_BadRide : ExcK P w K mg base "BadRide" ["row", "leg"])     (c_fits : Fn P w K mg base 2 "fits" S.g_fits) (c_line_of : Fn P w K mg base 1 "line_of" S.g_line_of) : Fn P w K mg base 3 "leg_carrier" S.g_leg_carrier :=
  fn_mk F sc_leg_carrier bn hm fun cdv A outer s H E hr tk po => (dss_cons (ds_if (dt_not (dt_val (de_call c_fits (hr.mono (by decide)) tk (da_cons (de_var 0) (da_cons (de_var 1) da_nil)))))
  (dss_one (ds_raise x_BadRide (by decide) (hr.mono (by decide)) rfl tk (da_cons de_int (da_cons de_int da_nil))))
  dss_nil)
  (dss_one (ds_ret (de_ix (DE.be (de_call c_line_of (hr.mono (by decide)) tk (da_cons (de_var 0) (da_cons (de_ix (de_var 1).be (DE.be de_int)) da_nil)))) (DE.be de_int)))))
theorem ok__law_city {f : Addr} {fd : FuncData}  (F : L2.Fun K "_law_city" "_law_city" s__law_city f fd) (bn : Binds K fd ["cell", "other", "most", "lines"] []) (hm : mg "_law_city" = some (.ref f)) (m_int : mg "int" = none) (m_len : mg "len" = none) (m_range : mg "range" = none) (m_tuple : mg "tuple" = none)       (c__law_draws : Fn P w K mg base 1 "_law_draws" DL.g_draws) (c__law_names : Fn P w K mg base 2 "_law_names" DL.g_names) : Fn P w K mg base 3 "_law_city" S.g__law_city_v2 :=
  fn_mk F sc__law_city bn hm fun cdv A outer s H E hr tk po => (dss_cons (ds_set 4 sc__law_city.nd (de_call c__law_draws (hr.mono (by decide)) tk (da_cons (de_var 0) (da_cons (OE.de (oe_lst (da_cons (de_op op_addD ok_add (de_var 2).be (DE.be de_int)) (da_cons (de_op op_addD ok_add (de_var 3).be (DE.be de_int)) da_nil)))) da_nil))))
  (dss_cons (ds_set 5 sc__law_city.nd (de_ix (de_var 4).be (DE.be de_int)))
  (dss_cons (ds_set 6 sc__law_city.nd (de_ix (de_var 4).be (DE.be de_int)))
  (dss_cons (ds_if (dt_cmp op_lt ok_lt (de_var 5).be (DE.be de_int) (nomark _))
  (dss_one (ds_set 6 sc__law_city.nd de_int))
  dss_nil)
  (dss_cons (ds_set 7 sc__law_city.nd (de_call c__law_draws (hr.mono (by decide)) tk (da_cons (de_var 0) (da_cons (de_op op_addD ok_add (DE.be (de_op op_addD ok_add (DE.be (OE.de (oe_lst (da_cons (de_op op_addD ok_add (de_var 2).be (DE.be de_int)) (da_cons (de_op op_addD ok_add (de_var 3).be (DE.be de_int)) da_nil))))) (DE.be (de_op op_mulD ok_mul (DE.be (OE.de (oe_lst (da_cons de_int da_nil)))) (de_var 5).be)))) (DE.be (de_op op_mulD ok_mul (DE.be (de_op op_addD ok_add (DE.be (OE.de (oe_lst (da_cons de_int (da_cons de_int da_nil))))) (DE.be (de_op op_mulD ok_mul (DE.be (OE.de (oe_lst (da_cons (de_var 2) da_nil)))) (DE.be de_int))))) (de_var 6).be))) da_nil))) (hx := .inr rfl))
  (dss_cons (ds_set 8 sc__law_city.nd (de_call c__law_names (hr.mono (by decide)) tk (da_cons (de_var 1) (da_cons (de_op op_addD ok_add (DE.be (de_op op_addD ok_add (de_var 2).be (de_var 3).be)) (DE.be de_int)) da_nil))) (hx := .inr rfl))
  (dss_cons (ds_set 9 sc__law_city.nd (OE.de (oe_lst (da_cons de_int (da_cons de_int (da_cons de_int (da_cons de_int (da_cons de_int (da_cons de_int (da_cons de_int (da_cons de_int (da_cons de_int da_nil))))))))))) (hx := .inr rfl))
  (dss_cons (ds_setLc 10 [("k", 11)] rfl sc__law_city.nd (di_range1 true (de_var 5).be m_range) (blkOk_by (N := ["cell", "other", "most", "lines", "head", "many", "count", "draws", "names", "zones", "stops", "k", "told", "j", "at", "left", "stop", "path", "name", "carrier"]) (sc := defScope s__law_city) (by decide +kernel)) (fun _ _ _ _ _ => (dg_name 11 sc__law_city.nd)) (tok_name 11) (fun _ _ _ _ _ => dts_nil) (fun _ _ _ _ _ => (de_tup (da_cons (de_ix (de_var 8).be (de_var 11).be) (da_cons (de_ix (de_var 9).be (DE.be (de_ix (de_var 7).be (DE.be (de_op op_addD ok_add (DE.be de_int) (de_var 11).be))))) da_nil)))) (sw_true rfl rfl rfl (by decide +kernel)))
  (dss_cons (ds_setO 12 sc__law_city.nd (oe_lst da_nil))
  (dss_cons (ds_for po rfl (di_range1 false (de_var 6).be m_range) (dg_name 13 sc__law_city.nd)
  (dss_cons (ds_set 14 sc__law_city.nd (de_op op_addD ok_add (DE.be (de_op op_addD ok_add (DE.be de_int) (de_var 5).be)) (DE.be (de_op op_mulD ok_mul (DE.be de_int) (de_var 13).be))))
  (dss_cons (ds_setLc 15 [("stop", 16)] rfl sc__law_city.nd (di_anyB (be_var 10)) (blkOk_by (N := ["cell", "other", "most", "lines", "head", "many", "count", "draws", "names", "zones", "stops", "k", "told", "j", "at", "left", "stop", "path", "name", "carrier"]) (sc := defScope s__law_city) (by decide +kernel)) (fun _ _ _ _ _ => (dg_name 16 sc__law_city.nd)) (tok_name 16) (fun _ _ _ _ _ => dts_nil) (fun _ _ _ _ _ => (de_ix (de_var 16).be (DE.be de_int))) (sw_true rfl rfl rfl (by decide +kernel)))
  (dss_cons (ds_setO 17 sc__law_city.nd (oe_lst da_nil))
  (dss_cons (ds_for po rfl (di_range1 false (DE.be (de_op op_addD ok_add (DE.be de_int) (DE.be (de_ix (de_var 7).be (DE.be (de_op op_addD ok_add (de_var 14).be (DE.be de_int))))))) m_range) (dg_name 11 sc__law_city.nd)
  (dss_one (ds_if (dt_cmp op_gt ok_gt (DE.be (de_call1 call_len ok_len (be_var 15) m_len bt_len)) (DE.be de_int) (nomark _))
  (dss_one (ds_appPop 17 15 (DE.be (de_op op_mod ok_mod (DE.be (de_callT1 call_int1 ok_int (DE.be (de_ix (de_var 7).be (DE.be (de_op op_addD ok_add (DE.be (de_op op_addD ok_add (de_var 14).be (DE.be de_int))) (de_var 11).be)))) m_int bt_int)) (DE.be (de_call1 call_len ok_len (be_var 15) m_len bt_len))))))
  dss_nil)))
  (dss_cons (ds_set 18 sc__law_city.nd (de_ix (de_var 8).be (DE.be (de_op op_sub ok_sub (DE.be (de_op op_sub ok_sub (de_var 2).be (DE.be de_int))) (de_var 13).be))))
  (dss_cons (ds_if (dt_cmp (op_eqP hr.units) ok_eq (DE.be (de_op op_mod ok_mod (de_var 13).be (DE.be de_int))) (DE.be de_int) (nomark _))
  (dss_one (ds_set 18 sc__law_city.nd (de_ix (de_var 8).be (DE.be (de_op op_addD ok_add (de_var 2).be (de_var 13).be)))))
  dss_nil)
  (dss_cons (ds_set 19 sc__law_city.nd (de_ix (de_var 8).be (DE.be (de_ix (de_var 7).be (de_var 14).be))))
  (dss_cons (ds_if (dt_cmp (op_eqP hr.units) ok_eq (DE.be (de_op op_mod ok_mod (DE.be (de_ix (de_var 7).be (de_var 14).be)) (DE.be de_int))) (DE.be de_int) (nomark _))
  (dss_one (ds_set 19 sc__law_city.nd (de_ix (de_var 8).be (DE.be (de_op op_addD ok_add (DE.be (de_op op_addD ok_add (DE.be (de_op op_addD ok_add (de_var 2).be (de_var 3).be)) (DE.be de_int))) (DE.be (de_ix (de_var 7).be (de_var 14).be)))))))
  dss_nil)
  (dss_one (ds_app 12 (de_tup (da_cons (de_var 18) (da_cons (de_var 19) (da_cons (de_callT1 call_tupleN ok_tuple (be_var 17) m_tuple bt_tuple) da_nil)))))))))))))))
  (dss_one (ds_ret (de_tup (da_cons (de_callT1 call_tupleN ok_tuple (be_var 10) m_tuple bt_tuple) (da_cons (de_callT1 call_tupleN ok_tuple (be_var 12) m_tuple bt_tuple) da_nil)))))))))))))))
theorem ok_leg_ring {f : Addr} {fd : FuncData}  (F : L2.Fun K "leg_ring" "leg_ring" s_leg_ring f fd) (bn : Binds K fd ["city", "leg"] []) (hm : mg "leg_ring" = some (.ref f)) (m_max : mg "max" = none)       (c_passed_stops : Fn P w K mg base 3 "passed_stops" S.g_passed_stops) : Fn P w K mg base 4 "leg_ring" S.g_leg_ring :=
  fn_mk F sc_leg_ring bn hm fun cdv A outer s H E hr tk po => (dss_cons (ds_set 2 sc_leg_ring.nd (de_call c_passed_stops (hr.mono (by decide)) tk (da_cons (de_var 0) (da_cons (de_var 1) da_nil))) (hx := .inr rfl))
  (dss_one (ds_ret (de_max1 (DE.be (OE.de (oe_lc [("name", 3), ("ring", 4)] rfl sc_leg_ring.nd (di_anyB (DE.be (de_ix (de_var 0).be (DE.be de_int)))) (blkOk_by (N := ["city", "leg", "passed", "name", "ring"]) (sc := defScope s_leg_ring) (by decide +kernel)) (fun _ _ _ _ _ => (dg_tup (is := [3, 4]) rfl (dgs_cons 3 sc_leg_ring.nd (dgs_cons 4 sc_leg_ring.nd dgs_nil)))) (tok_tup [3, 4]) (fun _ _ _ _ _ => (dts_one (dt_cmp (op_inP hr.units) ok_in (de_var 3).be (de_var 2).be (by rfl)))) (fun _ _ _ _ _ => (de_var 4))))) m_max))))
theorem ok__law_asked {f : Addr} {fd : FuncData}  (F : L2.Fun K "_law_asked" "_law_asked" s__law_asked f fd) (bn : Binds K fd ["which", "city", "step"] []) (hm : mg "_law_asked" = some (.ref f)) (m_ValueError : mg "ValueError" = none) (m_isinstance : mg "isinstance" = none)   (q_FareError : AskC K mg "FareError" tb_FareError) (q_ValueError : IsTbl K (.type "ValueError") tb_ValueError) (w_BadRide : TakeC K mg "BadRide" tb_BadRide) (f_leg : FldOk K rz "leg") (f_row : FldOk K rz "row")  (c_fits : Fn P w K mg base 2 "fits" S.g_fits) (c_leg_carrier : Fn P w K mg base 3 "leg_carrier" S.g_leg_carrier) (c_leg_ring : Fn P w K mg base 4 "leg_ring" S.g_leg_ring) (c_passed_stops : Fn P w K mg base 3 "passed_stops" S.g_passed_stops) : Fn P w K mg base 5 "_law_asked" g__law_asked :=
  fn_mk F sc__law_asked bn hm fun cdv A outer s H E hr tk po => (dss_one (ds_try rfl rfl rfl sc__law_asked.nd tk (fun W1 pn1 xe1 tk1 po1 => (dss_cons (ds_if (dt_cmp (op_eqP hr.units) ok_eq (de_var 0).be (DE.be de_int) (nomark _))
  (dss_one (ds_ret (de_tup (da_cons de_str (da_cons (de_call c_fits (hr.mono (by decide)) tk1 (da_cons (de_var 1) (da_cons (de_var 2) da_nil))) da_nil)))))
  dss_nil)
  (dss_cons (ds_if (dt_cmp (op_eqP hr.units) ok_eq (de_var 0).be (DE.be de_int) (nomark _))
  (dss_one (ds_ret (de_tup (da_cons de_str (da_cons (de_call c_passed_stops (hr.mono (by decide)) tk1 (da_cons (de_var 1) (da_cons (de_var 2) da_nil))) da_nil)))))
  dss_nil)
  (dss_cons (ds_if (dt_cmp (op_eqP hr.units) ok_eq (de_var 0).be (DE.be de_int) (nomark _))
  (dss_one (ds_ret (de_tup (da_cons de_str (da_cons (de_call c_leg_ring (hr.mono (by decide)) tk1 (da_cons (de_var 1) (da_cons (de_var 2) da_nil))) da_nil)))))
  dss_nil)
  (dss_one (ds_ret (de_tup (da_cons de_str (da_cons (de_call c_leg_carrier (hr.mono (by decide)) tk1 (da_cons (de_var 1) (da_cons (de_var 2) da_nil))) da_nil)))))))))
  (cs_as 3 w_BadRide (fun a pn => (dss_one (ds_ret (de_tup (da_cons de_str (da_cons (de_fld f_row (de_var 3)) (da_cons (de_fld f_leg (de_var 3)) (da_cons (de_isC q_FareError (de_var 3) m_isinstance) (da_cons (de_isBlt q_ValueError (de_var 3) m_isinstance m_ValueError PyProof.Rows.Boot.«ValueError») da_nil)))))))))
  .nil)))
theorem ok__law_same {f : Addr} {fd : FuncData}  (F : L2.Fun K "_law_same" "_law_same" s__law_same f fd) (bn : Binds K fd ["actual", "due"] []) (hm : mg "_law_same" = some (.ref f)) (m_bool : mg "bool" = none) (m_int : mg "int" = none) (m_isinstance : mg "isinstance" = none) (m_len : mg "len" = none) (m_range : mg "range" = none) (m_str : mg "str" = none) (m_tuple : mg "tuple" = none)        : ∀ n : Nat, Fn P w K mg base (0 + n) "_law_same" (DL.g_same n)
  | 0 => fn_zero F.kp bn hm
  | n + 1 => by
    have c__law_same := ok__law_same F bn hm m_bool m_int m_isinstance m_len m_range m_str m_tuple n
    exact fn_mk (k := 0 + n) F sc__law_same bn hm fun cdv A outer s H E hr tk po => (dss_cons (ds_if (dt_val (de_isi isi_tup (de_var 1).be m_isinstance m_tuple bt_tuple))
  (dss_cons (ds_if (dt_w (dw_or (dt_not (dt_val (de_isi isi_tup (de_var 0).be m_isinstance m_tuple bt_tuple))) (dw_or1 (dt_cmp (op_neP hr.units) ok_ne (DE.be (de_call1 call_len ok_len (de_var 0).be m_len bt_len)) (DE.be (de_call1 call_len ok_len (de_var 1).be m_len bt_len)) (nomark _)))))
  (dss_one (ds_ret de_bl))
  dss_nil)
  (dss_cons (ds_for po rfl (di_range1 false (DE.be (de_call1 call_len ok_len (de_var 1).be m_len bt_len)) m_range) (dg_name 2 sc__law_same.nd)
  (dss_one (ds_if (dt_not (dt_val (de_call c__law_same (hr.mono (by omega)) tk (da_cons (de_ix (de_var 0).be (de_var 2).be) (da_cons (de_ix (de_var 1).be (de_var 2).be) da_nil)))))
  (dss_one (ds_ret de_bl))
  dss_nil)))
  (dss_one (ds_ret de_bl))))
  dss_nil)
  (dss_cons (ds_if (dt_cmp op_isN ok_is (de_var 1).be (DE.be de_non) (nomark _))
  (dss_one (ds_ret (de_cmp op_isN ok_is (de_var 0).be (DE.be de_non) (nomark _))))
  dss_nil)
  (dss_cons (ds_if (dt_val (de_isi isi_bool (de_var 1).be m_isinstance m_bool bt_bool))
  (dss_one (ds_ret (de_and (de_isi isi_bool (de_var 0).be m_isinstance m_bool bt_bool) (de_one (de_cmp (op_eqP hr.units) ok_eq (de_var 0).be (de_var 1).be (nomark _))))))
  dss_nil)
  (dss_cons (ds_if (dt_val (de_isi isi_int (de_var 1).be m_isinstance m_int bt_int))
  (dss_one (ds_ret (de_and (de_isi isi_int (de_var 0).be m_isinstance m_int bt_int) (de_and (de_not (de_isi isi_bool (de_var 0).be m_isinstance m_bool bt_bool)) (de_one (de_cmp (op_eqP hr.units) ok_eq (de_var 0).be (de_var 1).be (nomark _)))))))
  dss_nil)
  (dss_one (ds_ret (de_and (de_isi isi_str (de_var 0).be m_isinstance m_str bt_str) (de_one (de_cmp (op_eqP hr.units) ok_eq (de_var 0).be (de_var 1).be (nomark _))))))))))
theorem ok_law {f : Addr} {fd : FuncData}  (F : L2.Fun K "law" "law" s_law f fd) (m_int : mg "int" = none) (m_len : mg "len" = none) (m_max : mg "max" = none) (m_min : mg "min" = none) (m_range : mg "range" = none)       (c__law_asked : Fn P w K mg base 5 "_law_asked" g__law_asked) (c__law_cell : Fn P w K mg base 1 "_law_cell" DL.g_cell) (c__law_city : Fn P w K mg base 3 "_law_city" S.g__law_city_v2) (c__law_due : Fn P w K mg base 2 "_law_due" g__law_due) (c__law_same : Fn P w K mg base 6 "_law_same" (DL.g_same 6)) (c__law_step : Fn P w K mg base 2 "_law_step" g__law_step) : FnOk P w K mg base (L2.CX P w) 7 f fd ["script"] (spD K mg g_law) :=
  fnok_mk F sc_law fun cdv A outer s H E hr tk po => (dss_cons (ds_set 1 sc_law.nd de_int)
  (dss_cons (ds_set 2 sc_law.nd de_int)
  (dss_cons (ds_if (dt_cmp (op_eqP hr.units) ok_eq (DE.be (de_op op_mod ok_mod (DE.be (de_callT1 call_int1 ok_int (DE.be (de_call c__law_cell (hr.mono (by decide)) tk (da_cons (de_var 0) (da_cons de_int da_nil)))) m_int bt_int)) (DE.be de_int))) (DE.be de_int) (nomark _))
  (dss_cons (ds_set 1 sc_law.nd de_int)
  (dss_one (ds_set 2 sc_law.nd de_int)))
  dss_nil)
  (dss_cons (ds_set 3 sc_law.nd (de_call c__law_city (hr.mono (by decide)) tk (da_cons (de_call c__law_cell (hr.mono (by decide)) tk (da_cons (de_var 0) (da_cons de_int da_nil))) (da_cons (de_call c__law_cell (hr.mono (by decide)) tk (da_cons (de_var 0) (da_cons de_int da_nil))) (da_cons (de_var 1) (da_cons (de_var 2) da_nil))))))
  (dss_cons (ds_set 4 sc_law.nd (de_call c__law_city (hr.mono (by decide)) tk (da_cons (de_call c__law_cell (hr.mono (by decide)) tk (da_cons (de_var 0) (da_cons de_int da_nil))) (da_cons (de_op op_addD ok_add (DE.be (de_call c__law_cell (hr.mono (by decide)) tk (da_cons (de_var 0) (da_cons de_int da_nil)))) (DE.be (de_op op_mod ok_mod (DE.be (de_callT1 call_int1 ok_int (DE.be (de_call c__law_cell (hr.mono (by decide)) tk (da_cons (de_var 0) (da_cons de_int da_nil)))) m_int bt_int)) (DE.be de_int)))) (da_cons de_int (da_cons de_int da_nil))))))
  (dss_cons (ds_for po rfl (di_range1 false (DE.be (de_call2 (call_max2 rfl) ok_max2 (DE.be de_int) (DE.be (de_call2 (call_min2 rfl) ok_min2 (DE.be (de_call1 call_len ok_len (de_var 0).be m_len bt_len)) (DE.be de_int) m_min bt_min)) m_max bt_max)) m_range) (dg_name 5 sc_law.nd)
  (dss_one (ds_for po rfl (di_any (OE.de (oe_lst (da_cons (de_var 3) (da_cons (de_var 4) (da_cons (de_var 3) da_nil)))))) (dg_name 6 sc_law.nd)
  (dss_cons (ds_set 7 sc_law.nd (de_call c__law_step (hr.mono (by decide)) tk (da_cons (de_op op_addD ok_add (DE.be (de_call c__law_cell (hr.mono (by decide)) tk (da_cons (de_var 0) (da_cons (de_op op_addD ok_add (DE.be de_int) (de_var 5).be) da_nil)))) (de_var 5).be) (da_cons (de_var 6) da_nil))))
  (dss_one (ds_for po rfl (di_range1 false (DE.be de_int) m_range) (dg_name 8 sc_law.nd)
  (dss_one (ds_if (dt_not (dt_val (de_call c__law_same (hr.mono (by decide)) tk (da_cons (de_call c__law_asked (hr.mono (by decide)) tk (da_cons (de_var 8) (da_cons (de_var 6) (da_cons (de_var 7) da_nil)))) (da_cons (de_call c__law_due (hr.mono (by decide)) tk (da_cons (de_var 8) (da_cons (de_var 6) (da_cons (de_var 7) da_nil)))) da_nil)))))
  (dss_one (ds_ret de_bl))
  dss_nil))))))))
  (dss_one (ds_ret de_bl))))))))
end
end K03

namespace K03
open PySem PySem.Spec PyProof.Rows L2 DL S
noncomputable section
def f__law_cell (p_script : (List Int)) (p_k : Int) : Rs Int :=
  (if (decide (p_k < (p_script.length : Int))) then ((ixR p_script p_k).bind fun a1 => .ok a1)
  else (.ok (0 : Int)))
theorem h__law_cell (p_script : (List Int)) (p_k : Int) : Q PyData.int (f__law_cell p_script p_k) (DL.g_cell [(scr p_script), (PyData.int p_k)]) :=
  r_fun rfl (show _ = [(some (.val (scr p_script))), (some (.val (PyData.int p_k)))] from rfl) (by
  unfold f__law_cell
  exact (r_seq (r_if (p_tst (p_b2 (pv (PyData.int p_k)) (p_b1 (pv (scr p_script)) (len_Scr _)) (lt_ii _ _)))
  (r_retFM (q_b1M (q_b2PP (pv (scr p_script)) (pv (PyData.int p_k)) (q_ixScr _ _)) fun a1 => (qp (int_i _))))
  (r_nil (r_retF (pc (.int 0)))))))
def f__law_due (p_which : Int) (p_city : ((List (Str × Int)) × (List (Str × Str × (List Str))))) (p_step : (Str × Str × Str)) : Rs PyData :=
  ((S.f__law_passed p_city p_step.1 p_step.2.1 p_step.2.2).bind fun (passed_1 : (Option (List Str))) =>
  (if (decide (p_which = (0 : Int))) then (.ok ((eP2 PyData.str PyData.bool) (("value" : Str), (passed_1.isSome))))
  else (if (passed_1.isNone) then (.ok ((eP5 PyData.str PyData.int PyData.int PyData.bool PyData.bool) (("refused" : Str), (0 : Int), (0 : Int), true, true)))
  else (if (decide (p_which = (1 : Int))) then (.ok ((eP2 PyData.str (eO (eT PyData.str))) (("value" : Str), passed_1)))
  else (if (decide (p_which = (2 : Int))) then ((S.f__law_rings p_city).bind fun (rings_2 : (List (Str × Int))) =>
  (((((getO passed_1).bind fun a4 => (lcR a4 (fun x3 => (Rs.ok true)) fun x3 => (getA rings_2 x3))).bind fun a5 => (maxR a5)).bind fun a6 => (.ok (("value" : Str), a6))).bind fun a => .ok ((eP2 PyData.str PyData.int) a)))
  else ((((lcP p_city.2 (fun x7 => (decide (x7.1 = p_step.1))) fun x7 => x7.2.1).bind fun a8 => (ixR a8 (0 : Int))).bind fun a9 => (.ok (("value" : Str), a9))).bind fun a => .ok ((eP2 PyData.str PyData.str) a)))))))
theorem h__law_due (p_which : Int) (p_city : ((List (Str × Int)) × (List (Str × Str × (List Str))))) (p_step : (Str × Str × Str)) : Q id (f__law_due p_which p_city p_step) (g__law_due [(PyData.int p_which), ((eP2 (eT (eP2 PyData.str PyData.int)) (eT (eP3 PyData.str PyData.str (eT PyData.str)))) p_city), ((eP3 PyData.str PyData.str PyData.str) p_step)]) :=
  r_fun rfl (show _ = [(some (.val (PyData.int p_which))), (some (.val ((eP2 (eT (eP2 PyData.str PyData.int)) (eT (eP3 PyData.str PyData.str (eT PyData.str)))) p_city))), (some (.val ((eP3 PyData.str PyData.str PyData.str) p_step))), none, none, none, none] from rfl) (by
  unfold f__law_due
  exact (r_seq (r_setM trivial (q_call (q_callP (pv ((eP2 (eT (eP2 PyData.str PyData.int)) (eT (eP3 PyData.str PyData.str (eT PyData.str)))) p_city)) (q_callP (p_b2 (pv ((eP3 PyData.str PyData.str PyData.str) p_step)) (pc (.int 0)) (ix3_0 PyData.str PyData.str PyData.str _)) (q_callP (p_b2 (pv ((eP3 PyData.str PyData.str PyData.str) p_step)) (pc (.int 1)) (ix3_1 PyData.str PyData.str PyData.str _)) (q_callP (p_b2 (pv ((eP3 PyData.str PyData.str PyData.str) p_step)) (pc (.int 2)) (ix3_2 PyData.str PyData.str PyData.str _)) (q_callN (S.h__law_passed p_city p_step.1 p_step.2.1 p_step.2.2))))))) fun passed_1 =>
  (r_seq (r_if (p_tst (p_b2 (pv (PyData.int p_which)) (pc (.int 0)) (eq_ii _ _)))
  (r_retF (p_mkT (v := ((eP2 PyData.str PyData.bool) (("value" : Str), (passed_1.isSome)))) (p_cons (pc (.str "value")) (p_cons (p_b2 (pv ((eO (eT PyData.str)) passed_1)) (pc .none) (isnotN_O (fun _ => rfl) _)) (p_nil tupK_ok)))))
  (r_nil (r_seq (r_if (p_tst (p_b2 (pv ((eO (eT PyData.str)) passed_1)) (pc .none) (isN_O (fun _ => rfl) _)))
  (r_retF (p_mkT (v := ((eP5 PyData.str PyData.int PyData.int PyData.bool PyData.bool) (("refused" : Str), (0 : Int), (0 : Int), true, true))) (p_cons (pc (.str "refused")) (p_cons (pc (.int 0)) (p_cons (pc (.int 0)) (p_cons (pc (.bool true)) (p_cons (pc (.bool true)) (p_nil tupK_ok))))))))
  (r_nil (r_seq (r_if (p_tst (p_b2 (pv (PyData.int p_which)) (pc (.int 1)) (eq_ii _ _)))
  (r_retF (p_mkT (v := ((eP2 PyData.str (eO (eT PyData.str))) (("value" : Str), passed_1))) (p_cons (pc (.str "value")) (p_cons (pv ((eO (eT PyData.str)) passed_1)) (p_nil tupK_ok)))))
  (r_nil (r_seq (r_if (p_tst (p_b2 (pv (PyData.int p_which)) (pc (.int 2)) (eq_ii _ _)))
  (r_seq (r_setM trivial (q_call (q_callP (pv ((eP2 (eT (eP2 PyData.str PyData.int)) (eT (eP3 PyData.str PyData.str (eT PyData.str)))) p_city)) (q_callN (S.h__law_rings p_city)))) fun rings_2 =>
  (r_retFM (q_any (eP2 PyData.str PyData.int) (q_mkT (e := (eP2 PyData.str PyData.int)) (q_callP (pc (.str "value")) (q_callM (q_b1M (q_lcMM PyData.int PyData.str (q_iOfB (q_getO (eT PyData.str) (pv ((eO (eT PyData.str)) passed_1))) fun _ => (any_T PyData.str _)) (no_cons (no_rfl rfl) no_nil) (show wipeE _ _ = [(some (.val (PyData.int p_which))), (some (.val ((eP2 (eT (eP2 PyData.str PyData.int)) (eT (eP3 PyData.str PyData.str (eT PyData.str)))) p_city))), (some (.val ((eP3 PyData.str PyData.str PyData.str) p_step))), (some (.val ((eO (eT PyData.str)) passed_1))), (some (.val ((eD PyData.str PyData.int) rings_2))), none, none] from rfl) (fun x3 => ⟨_, rfl, (qp (e := id) rfl), (q_b2PP (pv ((eD PyData.str PyData.int) rings_2)) (pv (PyData.str x3)) (q_dget kyS _ _))⟩)) fun a5 => (q_max1 _)) fun a6 => (q_callN (qp tupK_ok)))))))))
  (r_nil (r_retFM (q_any (eP2 PyData.str PyData.str) (q_mkT (e := (eP2 PyData.str PyData.str)) (q_callP (pc (.str "value")) (q_callM (q_b2MP (q_lcP PyData.str (eP3 PyData.str PyData.str (eT PyData.str)) (p_iOf (p_b2 (pv ((eP2 (eT (eP2 PyData.str PyData.int)) (eT (eP3 PyData.str PyData.str (eT PyData.str)))) p_city)) (pc (.int 1)) (ix2_1 (eT (eP2 PyData.str PyData.int)) (eT (eP3 PyData.str PyData.str (eT PyData.str))) _)) (any_T (eP3 PyData.str PyData.str (eT PyData.str)) _)) (no_cons (no_rfl rfl) no_nil) (show wipeE _ _ = [(some (.val (PyData.int p_which))), (some (.val ((eP2 (eT (eP2 PyData.str PyData.int)) (eT (eP3 PyData.str PyData.str (eT PyData.str)))) p_city))), (some (.val ((eP3 PyData.str PyData.str PyData.str) p_step))), (some (.val ((eO (eT PyData.str)) passed_1))), none, none, none] from rfl) (fun x7 => ⟨_, rfl, (p_tst (p_b2 (p_b2 (pv ((eP3 PyData.str PyData.str (eT PyData.str)) x7)) (pc (.int 0)) (ix3_0 PyData.str PyData.str (eT PyData.str) _)) (p_b2 (pv ((eP3 PyData.str PyData.str PyData.str) p_step)) (pc (.int 0)) (ix3_0 PyData.str PyData.str PyData.str _)) (eq_ss _ _))), (p_b2 (pv ((eP3 PyData.str PyData.str (eT PyData.str)) x7)) (pc (.int 1)) (ix3_1 PyData.str PyData.str (eT PyData.str) _))⟩)) (pc (.int 0)) fun a8 => (q_ixL PyData.str _ _)) fun a9 => (q_callN (qp tupK_ok))))))))))))))))))))))
def f__law_step (p_cell : Int) (p_city : ((List (Str × Int)) × (List (Str × Str × (List Str))))) : Rs (Str × Str × Str) :=
  ((S.f__law_draws p_cell [(9 : Int), (40 : Int), (40 : Int), (12 : Int), (40 : Int), (40 : Int)]).bind fun (draws_1 : (List Int)) =>
  ((((lcP p_city.1 (fun x2 => true) fun x2 => x2.1).bind fun a4 => (lcP p_city.2 (fun x3 => true) fun x3 => x3.1).bind fun a5 => (catR a4 a5)).bind fun a6 => (catR a6 [("nowhere" : Str), ("" : Str)])).bind fun (names_7 : (List Str)) =>
  ((((ixR draws_1 (1 : Int)).bind fun a8 => (modR a8 (names_7.length : Int))).bind fun a9 => (ixR names_7 a9)).bind fun (line_10 : Str) =>
  ((if (decide ((p_city.2.length : Int) = (0 : Int))) then .ok true else ((ixR draws_1 (0 : Int)).bind fun a11 => (.ok (decide (a11 = (0 : Int)))))).bind fun c52 => if c52 then ((((ixR draws_1 (4 : Int)).bind fun a12 => (modR a12 (names_7.length : Int))).bind fun a13 => (ixR names_7 a13)).bind fun a16 => ((((ixR draws_1 (5 : Int)).bind fun a14 => (modR a14 (names_7.length : Int))).bind fun a15 => (ixR names_7 a15)).bind fun a17 => (.ok (line_10, a16, a17))))
  else ((((ixR draws_1 (1 : Int)).bind fun a18 => (modR a18 (p_city.2.length : Int))).bind fun a19 => (ixR p_city.2 a19)).bind fun (told_20 : (Str × Str × (List Str))) =>
  ((((ixR draws_1 (4 : Int)).bind fun a21 => (modR a21 (told_20.2.2.length : Int))).bind fun a22 => (ixR told_20.2.2 a22)).bind fun (start_23 : Str) =>
  ((((ixR draws_1 (5 : Int)).bind fun a24 => (modR a24 (told_20.2.2.length : Int))).bind fun a25 => (ixR told_20.2.2 a25)).bind fun (end_26 : Str) =>
  (letK (fun (s28 : Str) => ((letK (fun (s32 : Str) => ((((ixR draws_1 (3 : Int)).bind fun a35 => (.ok (decide (a35 = (2 : Int))))).bind fun c39 => if c39 then ((((ixR draws_1 (2 : Int)).bind fun a36 => (modR a36 (names_7.length : Int))).bind fun a37 => (ixR names_7 a37)).bind fun a38 => (.ok (a38, s32, s28)))
  else (.ok (told_20.1, s32, s28))) : Rs (Str × Str × Str))) fun k34 =>
  (((ixR draws_1 (3 : Int)).bind fun a31 => (.ok (decide (a31 = (1 : Int))))).bind fun c45 => if c45 then ((((ixR draws_1 (2 : Int)).bind fun a42 => (modR a42 (names_7.length : Int))).bind fun a43 => (ixR names_7 a43)).bind fun (start_44 : Str) =>
  (k34 start_44))
  else (k34 start_23))) : Rs (Str × Str × Str))) fun k30 =>
  (((ixR draws_1 (3 : Int)).bind fun a27 => (.ok (decide (a27 = (0 : Int))))).bind fun c51 => if c51 then ((((ixR draws_1 (2 : Int)).bind fun a48 => (modR a48 (names_7.length : Int))).bind fun a49 => (ixR names_7 a49)).bind fun (end_50 : Str) =>
  (k30 end_50))
  else (k30 end_26))))))))))
theorem h__law_step (p_cell : Int) (p_city : ((List (Str × Int)) × (List (Str × Str × (List Str))))) : Q (eP3 PyData.str PyData.str PyData.str) (f__law_step p_cell p_city) (g__law_step [(PyData.int p_cell), ((eP2 (eT (eP2 PyData.str PyData.int)) (eT (eP3 PyData.str PyData.str (eT PyData.str)))) p_city)]) :=
  r_fun rfl (show _ = [(some (.val (PyData.int p_cell))), (some (.val ((eP2 (eT (eP2 PyData.str PyData.int)) (eT (eP3 PyData.str PyData.str (eT PyData.str)))) p_city))), none, none, none, none, none, none, none, none] from rfl) (by
  unfold f__law_step
  exact (r_seq (r_setM trivial (q_call (q_callP (pv (PyData.int p_cell)) (q_callP (p_mkL (v := ((eL PyData.int) [(9 : Int), (40 : Int), (40 : Int), (12 : Int), (40 : Int), (40 : Int)])) (p_cons (pc (.int 9)) (p_cons (pc (.int 40)) (p_cons (pc (.int 40)) (p_cons (pc (.int 12)) (p_cons (pc (.int 40)) (p_cons (pc (.int 40)) (p_nil lstK_ok)))))))) (q_callN (S.h__law_draws p_cell [(9 : Int), (40 : Int), (40 : Int), (12 : Int), (40 : Int), (40 : Int)]))))) fun draws_1 =>
  (r_seq (r_setP (p_b2 (pv ((eP2 (eT (eP2 PyData.str PyData.int)) (eT (eP3 PyData.str PyData.str (eT PyData.str)))) p_city)) (pc (.int 1)) (ix2_1 (eT (eP2 PyData.str PyData.int)) (eT (eP3 PyData.str PyData.str (eT PyData.str))) _)) (r_seq (r_setM trivial (q_b2MP (q_b2MM (q_lcP PyData.str (eP2 PyData.str PyData.int) (p_iOf (p_b2 (pv ((eP2 (eT (eP2 PyData.str PyData.int)) (eT (eP3 PyData.str PyData.str (eT PyData.str)))) p_city)) (pc (.int 0)) (ix2_0 (eT (eP2 PyData.str PyData.int)) (eT (eP3 PyData.str PyData.str (eT PyData.str))) _)) (any_T (eP2 PyData.str PyData.int) _)) (no_cons (no_rfl rfl) no_nil) (show wipeE _ _ = [(some (.val (PyData.int p_cell))), (some (.val ((eP2 (eT (eP2 PyData.str PyData.int)) (eT (eP3 PyData.str PyData.str (eT PyData.str)))) p_city))), (some (.val ((eL PyData.int) draws_1))), (some (.val ((eT (eP3 PyData.str PyData.str (eT PyData.str))) p_city.2))), none, none, none, none, none, none] from rfl) (fun x2 => ⟨_, rfl, rfl, (p_b2 (pv ((eP2 PyData.str PyData.int) x2)) (pc (.int 0)) (ix2_0 PyData.str PyData.int _))⟩)) (q_lcP PyData.str (eP3 PyData.str PyData.str (eT PyData.str)) (p_iOf (pv ((eT (eP3 PyData.str PyData.str (eT PyData.str))) p_city.2)) (any_T (eP3 PyData.str PyData.str (eT PyData.str)) _)) (no_cons (no_rfl rfl) no_nil) (show wipeE _ _ = [(some (.val (PyData.int p_cell))), (some (.val ((eP2 (eT (eP2 PyData.str PyData.int)) (eT (eP3 PyData.str PyData.str (eT PyData.str)))) p_city))), (some (.val ((eL PyData.int) draws_1))), (some (.val ((eT (eP3 PyData.str PyData.str (eT PyData.str))) p_city.2))), none, none, none, none, none, none] from rfl) (fun x3 => ⟨_, rfl, rfl, (p_b2 (pv ((eP3 PyData.str PyData.str (eT PyData.str)) x3)) (pc (.int 0)) (ix3_0 PyData.str PyData.str (eT PyData.str) _))⟩)) fun a4 a5 => (q_catL PyData.str _ _)) (p_mkL (v := ((eL PyData.str) [("nowhere" : Str), ("" : Str)])) (p_cons (pc (.str "nowhere")) (p_cons (pc (.str "")) (p_nil lstK_ok)))) fun a6 => (q_catL PyData.str _ _)) fun names_7 =>
  (r_seq (r_setM trivial (q_b2PM (pv ((eL PyData.str) names_7)) (q_b2MP (q_b2PP (pv ((eL PyData.int) draws_1)) (pc (.int 1)) (q_ixL PyData.int _ _)) (p_b1 (pv ((eL PyData.str) names_7)) (len_L PyData.str _)) fun a8 => (q_mod _ _)) fun a9 => (q_ixL PyData.str _ _)) fun line_10 =>
  (r_seq (r_ifM trivial (q_orDP (p_tst (p_b2 (p_b1 (pv ((eT (eP3 PyData.str PyData.str (eT PyData.str))) p_city.2)) (len_T (eP3 PyData.str PyData.str (eT PyData.str)) _)) (pc (.int 0)) (eq_ii _ _))) (q_tst (q_b2MP (q_b2PP (pv ((eL PyData.int) draws_1)) (pc (.int 0)) (q_ixL PyData.int _ _)) (pc (.int 0)) fun a11 => (qp (eq_ii _ _)))))
  (r_retFM (q_mkT (e := (eP3 PyData.str PyData.str PyData.str)) (q_callP (pv (PyData.str line_10)) (q_callM (q_b2PM (pv ((eL PyData.str) names_7)) (q_b2MP (q_b2PP (pv ((eL PyData.int) draws_1)) (pc (.int 4)) (q_ixL PyData.int _ _)) (p_b1 (pv ((eL PyData.str) names_7)) (len_L PyData.str _)) fun a12 => (q_mod _ _)) fun a13 => (q_ixL PyData.str _ _)) fun a16 => (q_callM (q_b2PM (pv ((eL PyData.str) names_7)) (q_b2MP (q_b2PP (pv ((eL PyData.int) draws_1)) (pc (.int 5)) (q_ixL PyData.int _ _)) (p_b1 (pv ((eL PyData.str) names_7)) (len_L PyData.str _)) fun a14 => (q_mod _ _)) fun a15 => (q_ixL PyData.str _ _)) fun a17 => (q_callN (qp tupK_ok)))))))
  (r_nil (r_seq (r_setM trivial (q_b2PM (pv ((eT (eP3 PyData.str PyData.str (eT PyData.str))) p_city.2)) (q_b2MP (q_b2PP (pv ((eL PyData.int) draws_1)) (pc (.int 1)) (q_ixL PyData.int _ _)) (p_b1 (pv ((eT (eP3 PyData.str PyData.str (eT PyData.str))) p_city.2)) (len_T (eP3 PyData.str PyData.str (eT PyData.str)) _)) fun a18 => (q_mod _ _)) fun a19 => (q_ixT (eP3 PyData.str PyData.str (eT PyData.str)) _ _)) fun told_20 =>
  (r_seq (r_setM trivial (q_b2PM (p_b2 (pv ((eP3 PyData.str PyData.str (eT PyData.str)) told_20)) (pc (.int 2)) (ix3_2 PyData.str PyData.str (eT PyData.str) _)) (q_b2MP (q_b2PP (pv ((eL PyData.int) draws_1)) (pc (.int 4)) (q_ixL PyData.int _ _)) (p_b1 (p_b2 (pv ((eP3 PyData.str PyData.str (eT PyData.str)) told_20)) (pc (.int 2)) (ix3_2 PyData.str PyData.str (eT PyData.str) _)) (len_T PyData.str _)) fun a21 => (q_mod _ _)) fun a22 => (q_ixT PyData.str _ _)) fun start_23 =>
  (r_seq (r_setM trivial (q_b2PM (p_b2 (pv ((eP3 PyData.str PyData.str (eT PyData.str)) told_20)) (pc (.int 2)) (ix3_2 PyData.str PyData.str (eT PyData.str) _)) (q_b2MP (q_b2PP (pv ((eL PyData.int) draws_1)) (pc (.int 5)) (q_ixL PyData.int _ _)) (p_b1 (p_b2 (pv ((eP3 PyData.str PyData.str (eT PyData.str)) told_20)) (pc (.int 2)) (ix3_2 PyData.str PyData.str (eT PyData.str) _)) (len_T PyData.str _)) fun a24 => (q_mod _ _)) fun a25 => (q_ixT PyData.str _ _)) fun end_26 =>
  (r_seq (r_joinK (fun (s28 : Str) ρ => ∃ (_ : Unit) (z29 : Option PyData), ρ = [(some (.val (PyData.int p_cell))), (some (.val ((eP2 (eT (eP2 PyData.str PyData.int)) (eT (eP3 PyData.str PyData.str (eT PyData.str)))) p_city))), (some (.val ((eL PyData.int) draws_1))), (some (.val ((eT (eP3 PyData.str PyData.str (eT PyData.str))) p_city.2))), (some (.val ((eL PyData.str) names_7))), (nv z29), (some (.val (PyData.str line_10))), (some (.val ((eP3 PyData.str PyData.str (eT PyData.str)) told_20))), (some (.val (PyData.str start_23))), (some (.val (PyData.str s28)))]) (fun s28 ρ hr => by
  obtain ⟨_, z29, rfl⟩ := hr
  exact (r_seq (r_joinK (fun (s32 : Str) ρ => ∃ (_ : Unit) (z33 : Option PyData), ρ = [(some (.val (PyData.int p_cell))), (some (.val ((eP2 (eT (eP2 PyData.str PyData.int)) (eT (eP3 PyData.str PyData.str (eT PyData.str)))) p_city))), (some (.val ((eL PyData.int) draws_1))), (some (.val ((eT (eP3 PyData.str PyData.str (eT PyData.str))) p_city.2))), (some (.val ((eL PyData.str) names_7))), (nv z33), (some (.val (PyData.str line_10))), (some (.val ((eP3 PyData.str PyData.str (eT PyData.str)) told_20))), (some (.val (PyData.str s32))), (some (.val (PyData.str s28)))]) (fun s32 ρ hr => by
  obtain ⟨_, z33, rfl⟩ := hr
  exact (r_seq (r_ifM trivial (q_tst (q_b2MP (q_b2PP (pv ((eL PyData.int) draws_1)) (pc (.int 3)) (q_ixL PyData.int _ _)) (pc (.int 2)) fun a35 => (qp (eq_ii _ _))))
  (r_retFM (q_mkT (e := (eP3 PyData.str PyData.str PyData.str)) (q_callM (q_b2PM (pv ((eL PyData.str) names_7)) (q_b2MP (q_b2PP (pv ((eL PyData.int) draws_1)) (pc (.int 2)) (q_ixL PyData.int _ _)) (p_b1 (pv ((eL PyData.str) names_7)) (len_L PyData.str _)) fun a36 => (q_mod _ _)) fun a37 => (q_ixL PyData.str _ _)) fun a38 => (q_callP (pv (PyData.str s32)) (q_callP (pv (PyData.str s28)) (q_callN (qp tupK_ok)))))))
  (r_nil (r_retF (p_mkT (v := ((eP3 PyData.str PyData.str PyData.str) (told_20.1, s32, s28))) (p_cons (p_b2 (pv ((eP3 PyData.str PyData.str (eT PyData.str)) told_20)) (pc (.int 0)) (ix3_0 PyData.str PyData.str (eT PyData.str) _)) (p_cons (pv (PyData.str s32)) (p_cons (pv (PyData.str s28)) (p_nil tupK_ok)))))))))) fun K41 hk40 =>
  (r_ifM trivial (q_tst (q_b2MP (q_b2PP (pv ((eL PyData.int) draws_1)) (pc (.int 3)) (q_ixL PyData.int _ _)) (pc (.int 1)) fun a31 => (qp (eq_ii _ _))))
  (r_setM trivial (q_b2PM (pv ((eL PyData.str) names_7)) (q_b2MP (q_b2PP (pv ((eL PyData.int) draws_1)) (pc (.int 2)) (q_ixL PyData.int _ _)) (p_b1 (pv ((eL PyData.str) names_7)) (len_L PyData.str _)) fun a42 => (q_mod _ _)) fun a43 => (q_ixL PyData.str _ _)) fun start_44 =>
  (hk40 start_44 _ ⟨(), z29, rfl⟩))
  (r_nil (hk40 start_23 _ ⟨(), z29, rfl⟩)))))) fun K47 hk46 =>
  (r_ifM trivial (q_tst (q_b2MP (q_b2PP (pv ((eL PyData.int) draws_1)) (pc (.int 3)) (q_ixL PyData.int _ _)) (pc (.int 0)) fun a27 => (qp (eq_ii _ _))))
  (r_setM trivial (q_b2PM (pv ((eL PyData.str) names_7)) (q_b2MP (q_b2PP (pv ((eL PyData.int) draws_1)) (pc (.int 2)) (q_ixL PyData.int _ _)) (p_b1 (pv ((eL PyData.str) names_7)) (len_L PyData.str _)) fun a48 => (q_mod _ _)) fun a49 => (q_ixL PyData.str _ _)) fun end_50 =>
  (hk46 end_50 _ ⟨(), none, rfl⟩))
  (r_nil (hk46 end_26 _ ⟨(), none, rfl⟩)))))))))))))))))))))))
def f__law_asked (p_which : Int) (p_city : ((List (Str × Int)) × (List (Str × Str × (List Str))))) (p_step : (Str × Str × Str)) : Rs PyData :=
  (tryRF tb_BadRide (if (decide (p_which = (0 : Int))) then (((S.f_fits p_city p_step).bind fun a1 => (.ok (("value" : Str), a1))).bind fun a => .ok ((eP2 PyData.str PyData.bool) a))
  else (if (decide (p_which = (1 : Int))) then (((S.f_passed_stops p_city p_step).bind fun a2 => (.ok (("value" : Str), a2))).bind fun a => .ok ((eP2 PyData.str (eT PyData.str)) a))
  else (if (decide (p_which = (2 : Int))) then (((S.f_leg_ring p_city p_step).bind fun a3 => (.ok (("value" : Str), a3))).bind fun a => .ok ((eP2 PyData.str PyData.int) a))
  else (((S.f_leg_carrier p_city p_step).bind fun a4 => (.ok (("value" : Str), a4))).bind fun a => .ok ((eP2 PyData.str PyData.str) a)))))
  fun e5 => (((oFld rz "row" (exD e5)).bind fun a6 => ((oFld rz "leg" (exD e5)).bind fun a7 => (((oIsE tb_FareError (exD e5)).bind asB).bind fun a8 => (((oIsE tb_ValueError (exD e5)).bind asB).bind fun a9 => (.ok (("refused" : Str), a6, a7, a8, a9)))))).bind fun a => .ok ((eP5 PyData.str id id PyData.bool PyData.bool) a)))
theorem h__law_asked (p_which : Int) (p_city : ((List (Str × Int)) × (List (Str × Str × (List Str))))) (p_step : (Str × Str × Str)) : Q id (f__law_asked p_which p_city p_step) (g__law_asked [(PyData.int p_which), ((eP2 (eT (eP2 PyData.str PyData.int)) (eT (eP3 PyData.str PyData.str (eT PyData.str)))) p_city), ((eP3 PyData.str PyData.str PyData.str) p_step)]) :=
  r_fun rfl (show _ = [(some (.val (PyData.int p_which))), (some (.val ((eP2 (eT (eP2 PyData.str PyData.int)) (eT (eP3 PyData.str PyData.str (eT PyData.str)))) p_city))), (some (.val ((eP3 PyData.str PyData.str PyData.str) p_step))), none] from rfl) (by
  unfold f__law_asked
  exact (r_tryF [(some (.val (PyData.int p_which))), (some (.val ((eP2 (eT (eP2 PyData.str PyData.int)) (eT (eP3 PyData.str PyData.str (eT PyData.str)))) p_city))), (some (.val ((eP3 PyData.str PyData.str PyData.str) p_step))), none] (r_seq (r_if (p_tst (p_b2 (pv (PyData.int p_which)) (pc (.int 0)) (eq_ii _ _)))
  (r_retTM rfl (q_any (eP2 PyData.str PyData.bool) (q_mkT (e := (eP2 PyData.str PyData.bool)) (q_callP (pc (.str "value")) (q_callM (q_call (q_callP (pv ((eP2 (eT (eP2 PyData.str PyData.int)) (eT (eP3 PyData.str PyData.str (eT PyData.str)))) p_city)) (q_callP (pv ((eP3 PyData.str PyData.str PyData.str) p_step)) (q_callN (S.h_fits p_city p_step))))) fun a1 => (q_callN (qp tupK_ok)))))))
  (r_nil (r_seq (r_if (p_tst (p_b2 (pv (PyData.int p_which)) (pc (.int 1)) (eq_ii _ _)))
  (r_retTM rfl (q_any (eP2 PyData.str (eT PyData.str)) (q_mkT (e := (eP2 PyData.str (eT PyData.str))) (q_callP (pc (.str "value")) (q_callM (q_call (q_callP (pv ((eP2 (eT (eP2 PyData.str PyData.int)) (eT (eP3 PyData.str PyData.str (eT PyData.str)))) p_city)) (q_callP (pv ((eP3 PyData.str PyData.str PyData.str) p_step)) (q_callN (S.h_passed_stops p_city p_step))))) fun a2 => (q_callN (qp tupK_ok)))))))
  (r_nil (r_seq (r_if (p_tst (p_b2 (pv (PyData.int p_which)) (pc (.int 2)) (eq_ii _ _)))
  (r_retTM rfl (q_any (eP2 PyData.str PyData.int) (q_mkT (e := (eP2 PyData.str PyData.int)) (q_callP (pc (.str "value")) (q_callM (q_call (q_callP (pv ((eP2 (eT (eP2 PyData.str PyData.int)) (eT (eP3 PyData.str PyData.str (eT PyData.str)))) p_city)) (q_callP (pv ((eP3 PyData.str PyData.str PyData.str) p_step)) (q_callN (S.h_leg_ring p_city p_step))))) fun a3 => (q_callN (qp tupK_ok)))))))
  (r_nil (r_retTM rfl (q_any (eP2 PyData.str PyData.str) (q_mkT (e := (eP2 PyData.str PyData.str)) (q_callP (pc (.str "value")) (q_callM (q_call (q_callP (pv ((eP2 (eT (eP2 PyData.str PyData.int)) (eT (eP3 PyData.str PyData.str (eT PyData.str)))) p_city)) (q_callP (pv ((eP3 PyData.str PyData.str PyData.str) p_step)) (q_callN (S.h_leg_carrier p_city p_step))))) fun a4 => (q_callN (qp tupK_ok))))))))))))))))
  (fun e5 => (r_retTM trivial (q_any (eP5 PyData.str id id PyData.bool PyData.bool) (q_mkT (e := (eP5 PyData.str id id PyData.bool PyData.bool)) (q_callP (pc (.str "refused")) (q_callM (q_b1P (pv (exD e5)) (q_id _)) fun a6 => (q_callM (q_b1P (pv (exD e5)) (q_id _)) fun a7 => (q_callM (q_asB (q_b1P (pv (exD e5)) (q_id _))) fun a8 => (q_callM (q_asB (q_b1P (pv (exD e5)) (q_id _))) fun a9 => (q_callN (qp tupK_ok)))))))))))))
def f_law (p_script : (List Int)) : Rs Bool :=
  (letK (fun (s4 : Int × Int) => ((((f__law_cell p_script (0 : Int)).bind fun a12 => ((f__law_cell p_script (1 : Int)).bind fun a13 => (S.f__law_city_v2 a12 a13 s4.2 s4.1))).bind fun (one_14 : ((List (Str × Int)) × (List (Str × Str × (List Str))))) =>
  (((f__law_cell p_script (2 : Int)).bind fun a19 => (((f__law_cell p_script (1 : Int)).bind fun a17 => (((f__law_cell p_script (3 : Int)).bind fun a15 => .ok a15).bind fun a16 => (.ok (a16 % (2 : Int)))).bind fun a18 => (.ok (a17 + a18))).bind fun a20 => (S.f__law_city_v2 a19 a20 (8 : Int) (5 : Int)))).bind fun (two_21 : ((List (Str × Int)) × (List (Str × Str × (List Str))))) =>
  ((rngR 0 (max2 (2 : Int) (min2 (p_script.length : Int) (12 : Int)))).bind fun a43 => (forC (fun (s22 : Unit) (x27 : Int) => (((forC (fun (s28 : Unit) (x32 : ((List (Str × Int)) × (List (Str × Str × (List Str))))) => (((((f__law_cell p_script ((3 : Int) + x27)).bind fun a33 => (.ok (a33 + x27))).bind fun a34 => (f__law_step a34 x32)).bind fun (step_35 : (Str × Str × Str)) =>
  ((forC (fun (s36 : Unit) (x38 : Int) => (((((f__law_asked x38 x32 step_35).bind fun a39 => ((f__law_due x38 x32 step_35).bind fun a40 => (S.f__law_same a39 a40))).bind fun c41 => .ok (!c41)).bind fun c42 => if c42 then (.ok (.ret false))
  else (.ok (.nx ()))) : Rs (Ct (Unit) Bool))) [0, 1, 2, 3] ()).bind fun t => t.nxt (fun (s36 : Unit) =>
  (.ok (.nx ()))) (fun v => .ok (.ret v)))) : Rs (Ct (Unit) Bool))) [one_14, two_21, one_14] ()).bind fun t => t.nxt (fun (s28 : Unit) =>
  (.ok (.nx ()))) (fun v => .ok (.ret v))) : Rs (Ct (Unit) Bool))) a43 ()).bind fun t => t.nxt (fun (s22 : Unit) =>
  (.ok true)) (fun v => .ok v)))) : Rs Bool)) fun k11 =>
  (((((f__law_cell p_script (0 : Int)).bind fun a1 => .ok a1).bind fun a2 => (.ok (a2 % (8 : Int)))).bind fun a3 => (.ok (decide (a3 = (5 : Int))))).bind fun c46 => if c46 then (k11 ((16 : Int), (30 : Int)))
  else (k11 ((5 : Int), (8 : Int)))))
theorem h_law (p_script : (List Int)) : Q PyData.bool (f_law p_script) (g_law [(scr p_script)]) :=
  r_fun rfl (show _ = [(some (.val (scr p_script))), none, none, none, none, none, none, none, none] from rfl) (by
  unfold f_law
  exact (r_seq (r_setP (pc (.int 8)) (r_seq (r_setP (pc (.int 5)) (r_seq (r_joinK (fun (s4 : Int × Int) ρ => ∃ (_ : Unit) (z5 : Option PyData) (z6 : Option PyData) (z7 : Option PyData) (z8 : Option PyData) (z9 : Option PyData) (z10 : Option PyData), ρ = [(some (.val (scr p_script))), (some (.val (PyData.int s4.2))), (some (.val (PyData.int s4.1))), (nv z5), (nv z6), (nv z7), (nv z8), (nv z9), (nv z10)]) (fun s4 ρ hr => by
  obtain ⟨_, z5, z6, z7, z8, z9, z10, rfl⟩ := hr
  exact (r_seq (r_setM trivial (q_call (q_callM (q_call (q_callP (pv (scr p_script)) (q_callP (pc (.int 0)) (q_callN (h__law_cell p_script (0 : Int)))))) fun a12 => (q_callM (q_call (q_callP (pv (scr p_script)) (q_callP (pc (.int 1)) (q_callN (h__law_cell p_script (1 : Int)))))) fun a13 => (q_callP (pv (PyData.int s4.2)) (q_callP (pv (PyData.int s4.1)) (q_callN (S.h__law_city_v2 a12 a13 s4.2 s4.1))))))) fun one_14 =>
  (r_seq (r_setM trivial (q_call (q_callM (q_call (q_callP (pv (scr p_script)) (q_callP (pc (.int 2)) (q_callN (h__law_cell p_script (2 : Int)))))) fun a19 => (q_callM (q_b2MM (q_call (q_callP (pv (scr p_script)) (q_callP (pc (.int 1)) (q_callN (h__law_cell p_script (1 : Int)))))) (q_b2MP (q_b1M (q_call (q_callP (pv (scr p_script)) (q_callP (pc (.int 3)) (q_callN (h__law_cell p_script (3 : Int)))))) fun a15 => (qp (int_i _))) (pc (.int 2)) fun a16 => (qp (mod_c _ _))) fun a17 a18 => (qp (add_ii _ _))) fun a20 => (q_callP (pc (.int 8)) (q_callP (pc (.int 5)) (q_callN (S.h__law_city_v2 a19 a20 (8 : Int) (5 : Int)))))))) fun two_21 =>
  (r_seq (r_forCM (fun (s22 : Unit) ρ => ∃ (_ : Unit) (z23 : Option PyData) (z24 : Option PyData) (z25 : Option PyData) (z26 : Option PyData), ρ = [(some (.val (scr p_script))), (some (.val (PyData.int s4.2))), (some (.val (PyData.int s4.1))), (some (.val ((eP2 (eT (eP2 PyData.str PyData.int)) (eT (eP3 PyData.str PyData.str (eT PyData.str)))) one_14))), (some (.val ((eP2 (eT (eP2 PyData.str PyData.int)) (eT (eP3 PyData.str PyData.str (eT PyData.str)))) two_21))), (nv z23), (nv z24), (nv z25), (nv z26)]) PyData.bool (s0 := ()) trivial (q_range1 (p_b2 (pc (.int 2)) (p_b2 (p_b1 (pv (scr p_script)) (len_Scr _)) (pc (.int 12)) (min2_ii _ _)) (max2_ii _ _))) ⟨(), z7, z8, z9, z10, rfl⟩
  (fun s22 x27 ρ hr => by
  obtain ⟨_, z23, z24, z25, z26, rfl⟩ := hr
  exact ⟨_, rfl, (r_forC (fun (s28 : Unit) ρ => ∃ (_ : Unit) (z29 : Option PyData) (z30 : Option PyData) (z31 : Option PyData), ρ = [(some (.val (scr p_script))), (some (.val (PyData.int s4.2))), (some (.val (PyData.int s4.1))), (some (.val ((eP2 (eT (eP2 PyData.str PyData.int)) (eT (eP3 PyData.str PyData.str (eT PyData.str)))) one_14))), (some (.val ((eP2 (eT (eP2 PyData.str PyData.int)) (eT (eP3 PyData.str PyData.str (eT PyData.str)))) two_21))), (some (.val (PyData.int x27))), (nv z29), (nv z30), (nv z31)]) PyData.bool (s0 := ()) (p_iOf (p_mkL (v := ((eL (eP2 (eT (eP2 PyData.str PyData.int)) (eT (eP3 PyData.str PyData.str (eT PyData.str))))) [one_14, two_21, one_14])) (p_cons (pv ((eP2 (eT (eP2 PyData.str PyData.int)) (eT (eP3 PyData.str PyData.str (eT PyData.str)))) one_14)) (p_cons (pv ((eP2 (eT (eP2 PyData.str PyData.int)) (eT (eP3 PyData.str PyData.str (eT PyData.str)))) two_21)) (p_cons (pv ((eP2 (eT (eP2 PyData.str PyData.int)) (eT (eP3 PyData.str PyData.str (eT PyData.str)))) one_14)) (p_nil lstK_ok))))) (any_L (eP2 (eT (eP2 PyData.str PyData.int)) (eT (eP3 PyData.str PyData.str (eT PyData.str)))) _)) ⟨(), z24, z25, z26, rfl⟩
  (fun s28 x32 ρ hr => by
  obtain ⟨_, z29, z30, z31, rfl⟩ := hr
  exact ⟨_, rfl, (r_seq (r_setM trivial (q_call (q_callM (q_b2MP (q_call (q_callP (pv (scr p_script)) (q_callP (p_b2 (pc (.int 3)) (pv (PyData.int x27)) (add_ii _ _)) (q_callN (h__law_cell p_script ((3 : Int) + x27)))))) (pv (PyData.int x27)) fun a33 => (qp (add_ii _ _))) fun a34 => (q_callP (pv ((eP2 (eT (eP2 PyData.str PyData.int)) (eT (eP3 PyData.str PyData.str (eT PyData.str)))) x32)) (q_callN (h__law_step a34 x32))))) fun step_35 =>
  (r_forC (fun (s36 : Unit) ρ => ∃ (_ : Unit) (z37 : Option PyData), ρ = [(some (.val (scr p_script))), (some (.val (PyData.int s4.2))), (some (.val (PyData.int s4.1))), (some (.val ((eP2 (eT (eP2 PyData.str PyData.int)) (eT (eP3 PyData.str PyData.str (eT PyData.str)))) one_14))), (some (.val ((eP2 (eT (eP2 PyData.str PyData.int)) (eT (eP3 PyData.str PyData.str (eT PyData.str)))) two_21))), (some (.val (PyData.int x27))), (some (.val ((eP2 (eT (eP2 PyData.str PyData.int)) (eT (eP3 PyData.str PyData.str (eT PyData.str)))) x32))), (some (.val ((eP3 PyData.str PyData.str PyData.str) step_35))), (nv z37)]) PyData.bool (s0 := ()) (p_range1 (pc (.int 4)) (by kernel_rfl)) ⟨(), z31, rfl⟩
  (fun s36 x38 ρ hr => by
  obtain ⟨_, z37, rfl⟩ := hr
  exact ⟨_, rfl, (r_ifM trivial (q_notD (q_tst (q_call (q_callM (q_call (q_callP (pv (PyData.int x38)) (q_callP (pv ((eP2 (eT (eP2 PyData.str PyData.int)) (eT (eP3 PyData.str PyData.str (eT PyData.str)))) x32)) (q_callP (pv ((eP3 PyData.str PyData.str PyData.str) step_35)) (q_callN (h__law_asked x38 x32 step_35)))))) fun a39 => (q_callM (q_call (q_callP (pv (PyData.int x38)) (q_callP (pv ((eP2 (eT (eP2 PyData.str PyData.int)) (eT (eP3 PyData.str PyData.str (eT PyData.str)))) x32)) (q_callP (pv ((eP3 PyData.str PyData.str PyData.str) step_35)) (q_callN (h__law_due x38 x32 step_35)))))) fun a40 => (q_callN (S.h__law_same a39 a40)))))))
  (r_retL (pc (.bool false)))
  (r_nil (r_endL (s := ()) ⟨(), (some (PyData.int x38)), rfl⟩)))⟩)
  (fun s36 ρ hr => by
  obtain ⟨_, z37, rfl⟩ := hr
  exact (r_endL (s := ()) ⟨(), (some ((eP2 (eT (eP2 PyData.str PyData.int)) (eT (eP3 PyData.str PyData.str (eT PyData.str)))) x32)), (some ((eP3 PyData.str PyData.str PyData.str) step_35)), z37, rfl⟩)) r_rL)))⟩)
  (fun s28 ρ hr => by
  obtain ⟨_, z29, z30, z31, rfl⟩ := hr
  exact (r_endL (s := ()) ⟨(), (some (PyData.int x27)), z29, z30, z31, rfl⟩)) r_rL)⟩)
  (fun s22 ρ hr => by
  obtain ⟨_, z23, z24, z25, z26, rfl⟩ := hr
  exact (r_retF (pc (.bool true)))) r_rF))))))) fun K45 hk44 =>
  (r_ifM trivial (q_tst (q_b2MP (q_b2MP (q_b1M (q_call (q_callP (pv (scr p_script)) (q_callP (pc (.int 0)) (q_callN (h__law_cell p_script (0 : Int)))))) fun a1 => (qp (int_i _))) (pc (.int 8)) fun a2 => (qp (mod_c _ _))) (pc (.int 5)) fun a3 => (qp (eq_ii _ _))))
  (r_seq (r_setP (pc (.int 30)) (r_setP (pc (.int 16)) (hk44 ((16 : Int), (30 : Int)) _ ⟨(), none, none, none, none, none, none, rfl⟩))))
  (r_nil (hk44 ((5 : Int), (8 : Int)) _ ⟨(), none, none, none, none, none, none, rfl⟩))))))))))
end
end K03

namespace S
open PySem PySem.Spec PyProof.Rows L2 DL
noncomputable section
def f__law_names_c (p_cell : Int) (p_many : Int) : Rs (List Str) :=
  ((((repR [(36 : Int)] (9 : Int)).bind fun a1 => (catR [(4 : Int), (11 : Int), (11 : Int), (26 : Int), (26 : Int)] a1)).bind fun a2 => (S.f__law_draws p_cell a2)).bind fun (draws_3 : (List Int)) =>
  ((((ixR draws_3 (3 : Int)).bind fun a4 => (ixS ("qwertzuiopasdfghjklyxcvbnm" : Str) a4)).bind fun a8 => ((lcR [0, 1, 2, 3, 4, 5, 6, 7, 8] (fun x5 => (Rs.ok true)) fun x5 => ((ixR draws_3 ((5 : Int) + x5)).bind fun a6 => (ixS ("abcdefghijklmnopqrstuvwxyz0123456789" : Str) a6))).bind fun a7 => (joinR ("" : Str) a7)).bind fun a9 => (catS a8 a9)).bind fun (stem_10 : Str) =>
  ((((ixR draws_3 (2 : Int)).bind fun a11 => .ok a11).bind fun a13 => ((ixR draws_3 (1 : Int)).bind fun a12 => (.ok (a12 + (1 : Int)))).bind fun a14 => (modR a13 a14)).bind fun (place_15 : Int) =>
  ((rngR 0 p_many).bind fun a71 => (forB (fun (s16 : (List Str)) (x20 : Int) => (((((((ixR draws_3 (4 : Int)).bind fun a21 => (.ok ((x20 * (5 : Int)) + a21))).bind fun a22 => .ok a22).bind fun a23 => (.ok (a23 % (26 : Int)))).bind fun a24 => (ixS ("qwertzuiopasdfghjklyxcvbnm" : Str) a24)).bind fun a25 => (strR (x20 / (26 : Int))).bind fun a26 => (catS a25 a26)).bind fun (code_27 : Str) =>
  (((((((ixR draws_3 (1 : Int)).bind fun a28 => (.ok (a28 + ((3 : Int) * x20)))).bind fun a29 => .ok a29).bind fun a30 => (.ok (a30 % (11 : Int)))).bind fun i => .ok (some i)).bind fun a33 => (cutSR stem_10 none a33)).bind fun (part_34 : Str) =>
  (letK (fun (s37 : (List Str)) => ((.ok s37) : Rs ((List Str)))) fun k38 =>
  ((((ixR draws_3 (0 : Int)).bind fun a35 => (.ok (decide (a35 = (0 : Int))))).bind fun c36 => (if c36 then (Rs.ok (decide (p_many ≤ (26 : Int)))) else .ok false)).bind fun c70 => if c70 then ((ixS code_27 (0 : Int)).bind fun a42 => (appR s16 a42).bind fun (names_41 : (List Str)) =>
  (k38 names_41))
  else (letK (fun (s44 : (List Str)) => ((k38 s44) : Rs ((List Str)))) fun k45 =>
  (((ixR draws_3 (0 : Int)).bind fun a43 => (.ok (decide (a43 ≤ (1 : Int))))).bind fun c69 => if c69 then ((((cutSR stem_10 none (some place_15)).bind fun a51 => (catS a51 code_27)).bind fun a55 => (((ixR draws_3 (1 : Int)).bind fun i => .ok (some i)).bind fun a54 => (cutSR stem_10 (some place_15) a54)).bind fun a56 => (catS a55 a56)).bind fun a58 => (appR s16 a58).bind fun (names_57 : (List Str)) =>
  (k45 names_57))
  else (letK (fun (s60 : (List Str)) => ((k45 s60) : Rs ((List Str)))) fun k61 =>
  (((ixR draws_3 (0 : Int)).bind fun a59 => (.ok (decide (a59 = (2 : Int))))).bind fun c68 => if c68 then ((catS part_34 code_27).bind fun a65 => (appR s16 a65).bind fun (names_64 : (List Str)) =>
  (k61 names_64))
  else ((catS code_27 part_34).bind fun a67 => (appR s16 a67).bind fun (names_66 : (List Str)) =>
  (k61 names_66))))))))))) a71 []).bind fun (s16 : (List Str)) =>
  (.ok s16)))))
theorem h__law_names_c (p_cell : Int) (p_many : Int) : Q (eL PyData.str) (f__law_names_c p_cell p_many) (DL.g_names [(PyData.int p_cell), (PyData.int p_many)]) :=
  r_fun rfl (show _ = [(some (.val (PyData.int p_cell))), (some (.val (PyData.int p_many))), none, none, none, none, none, none, none, none, none] from rfl) (by
  unfold f__law_names_c
  exact (r_seq (r_setP (pc (.str "qwertzuiopasdfghjklyxcvbnm")) (r_seq (r_setP (pc (.str "abcdefghijklmnopqrstuvwxyz0123456789")) (r_seq (r_setM trivial (q_call (q_callP (pv (PyData.int p_cell)) (q_callM (q_b2PM (p_mkL (v := ((eL PyData.int) [(4 : Int), (11 : Int), (11 : Int), (26 : Int), (26 : Int)])) (p_cons (pc (.int 4)) (p_cons (pc (.int 11)) (p_cons (pc (.int 11)) (p_cons (pc (.int 26)) (p_cons (pc (.int 26)) (p_nil lstK_ok))))))) (q_b2PP (p_mkL (v := ((eL PyData.int) [(36 : Int)])) (p_cons (pc (.int 36)) (p_nil lstK_ok))) (pc (.int 9)) (q_repL PyData.int _ _)) fun a1 => (q_catL PyData.int _ _)) fun a2 => (q_callN (S.h__law_draws p_cell a2))))) fun draws_3 =>
  (r_seq (r_setM trivial (q_b2MM (q_b2PM (pv (PyData.str ("qwertzuiopasdfghjklyxcvbnm" : Str))) (q_b2PP (pv ((eL PyData.int) draws_3)) (pc (.int 3)) (q_ixL PyData.int _ _)) fun a4 => (q_ixS _ _)) (q_strMM (pc (.str "")) (q_lcR PyData.str PyData.int (p_range1 (pc (.int 9)) (by kernel_rfl)) (no_cons (no_rfl rfl) no_nil) (show wipeE _ _ = [(some (.val (PyData.int p_cell))), (some (.val (PyData.int p_many))), (some (.val (PyData.str ("qwertzuiopasdfghjklyxcvbnm" : Str)))), (some (.val (PyData.str ("abcdefghijklmnopqrstuvwxyz0123456789" : Str)))), (some (.val ((eL PyData.int) draws_3))), none, none, none, none, none, none] from rfl) (fun x5 => ⟨_, rfl, (qp (e := id) rfl), (q_b2PM (pv (PyData.str ("abcdefghijklmnopqrstuvwxyz0123456789" : Str))) (q_b2PP (pv ((eL PyData.int) draws_3)) (p_b2 (pc (.int 5)) (pv (PyData.int x5)) (add_ii _ _)) (q_ixL PyData.int _ _)) fun a6 => (q_ixS _ _))⟩)) fun a7 => (q_joinL _ _)) fun a8 a9 => (q_catS _ _)) fun stem_10 =>
  (r_seq (r_setM trivial (q_b2MM (q_b1M (q_b2PP (pv ((eL PyData.int) draws_3)) (pc (.int 2)) (q_ixL PyData.int _ _)) fun a11 => (qp (int_i _))) (q_b2MP (q_b2PP (pv ((eL PyData.int) draws_3)) (pc (.int 1)) (q_ixL PyData.int _ _)) (pc (.int 1)) fun a12 => (qp (add_ii _ _))) fun a13 a14 => (q_mod _ _)) fun place_15 =>
  (r_seq (r_setOP (p_mkL (v := ((eL PyData.str) [])) (p_nil lstK_ok)) (r_seq (r_forBM (fun (s16 : (List Str)) ρ => ∃ (_ : Unit) (z17 : Option PyData) (z18 : Option PyData) (z19 : Option PyData), ρ = [(some (.val (PyData.int p_cell))), (some (.val (PyData.int p_many))), (some (.val (PyData.str ("qwertzuiopasdfghjklyxcvbnm" : Str)))), (some (.val (PyData.str ("abcdefghijklmnopqrstuvwxyz0123456789" : Str)))), (some (.val ((eL PyData.int) draws_3))), (some (.val (PyData.str stem_10))), (nv z17), (some (.val (PyData.int place_15))), (some (.own ((eL PyData.str) s16))), (nv z18), (nv z19)]) (s0 := []) trivial (q_range1 (pv (PyData.int p_many))) ⟨(), none, none, none, rfl⟩
  (fun s16 x20 ρ hr => by
  obtain ⟨_, z17, z18, z19, rfl⟩ := hr
  exact ⟨_, rfl, (r_seq (r_setM trivial (q_b2MM (q_b2PM (pv (PyData.str ("qwertzuiopasdfghjklyxcvbnm" : Str))) (q_b2MP (q_b1M (q_b2PM (p_b2 (pv (PyData.int x20)) (pc (.int 5)) (mul_cr _ _)) (q_b2PP (pv ((eL PyData.int) draws_3)) (pc (.int 4)) (q_ixL PyData.int _ _)) fun a21 => (qp (add_ii _ _))) fun a22 => (qp (int_i _))) (pc (.int 26)) fun a23 => (qp (mod_c _ _))) fun a24 => (q_ixS _ _)) (q_b1P (p_b2 (pv (PyData.int x20)) (pc (.int 26)) (div_c _ _)) (q_str _)) fun a25 a26 => (q_catS _ _)) fun code_27 =>
  (r_seq (r_setM trivial (q_cut (eb := PyData.str) (e := PyData.str) (qp (pv (PyData.str stem_10))) (qp (e := id) p_pNo) (q_pSo (q_b2MP (q_b1M (q_b2MP (q_b2PP (pv ((eL PyData.int) draws_3)) (pc (.int 1)) (q_ixL PyData.int _ _)) (p_b2 (pc (.int 3)) (pv (PyData.int x20)) (mul_cl _ _)) fun a28 => (qp (add_ii _ _))) fun a29 => (qp (int_i _))) (pc (.int 11)) fun a30 => (qp (mod_c _ _)))) fun _ _ _ => (q_cutS _ _ _)) fun part_34 =>
  (r_joinK (fun (s37 : (List Str)) ρ => ∃ (_ : Unit), ρ = [(some (.val (PyData.int p_cell))), (some (.val (PyData.int p_many))), (some (.val (PyData.str ("qwertzuiopasdfghjklyxcvbnm" : Str)))), (some (.val (PyData.str ("abcdefghijklmnopqrstuvwxyz0123456789" : Str)))), (some (.val ((eL PyData.int) draws_3))), (some (.val (PyData.str stem_10))), (some (.val (PyData.int x20))), (some (.val (PyData.int place_15))), (some (.own ((eL PyData.str) s37))), (some (.val (PyData.str code_27))), (some (.val (PyData.str part_34)))]) (fun s37 ρ hr => by
  obtain ⟨_, rfl⟩ := hr
  exact (r_endB (s := s37) ⟨(), (some (PyData.int x20)), (some (PyData.str code_27)), (some (PyData.str part_34)), rfl⟩)) fun K40 hk39 =>
  (r_ifM trivial (q_andD (q_tst (q_b2MP (q_b2PP (pv ((eL PyData.int) draws_3)) (pc (.int 0)) (q_ixL PyData.int _ _)) (pc (.int 0)) fun a35 => (qp (eq_ii _ _)))) (qp (e := id) (p_tst (p_b2 (pv (PyData.int p_many)) (pc (.int 26)) (le_ii _ _)))))
  (r_appM (xs := s16) trivial rfl (q_b2PP (pv (PyData.str code_27)) (pc (.int 0)) (q_ixS _ _)) fun names_41 =>
  (hk39 names_41 _ ⟨(), rfl⟩))
  (r_joinK (fun (s44 : (List Str)) ρ => ∃ (_ : Unit), ρ = [(some (.val (PyData.int p_cell))), (some (.val (PyData.int p_many))), (some (.val (PyData.str ("qwertzuiopasdfghjklyxcvbnm" : Str)))), (some (.val (PyData.str ("abcdefghijklmnopqrstuvwxyz0123456789" : Str)))), (some (.val ((eL PyData.int) draws_3))), (some (.val (PyData.str stem_10))), (some (.val (PyData.int x20))), (some (.val (PyData.int place_15))), (some (.own ((eL PyData.str) s44))), (some (.val (PyData.str code_27))), (some (.val (PyData.str part_34)))]) (fun s44 ρ hr => by
  obtain ⟨_, rfl⟩ := hr
  exact (hk39 s44 _ ⟨(), rfl⟩)) fun K47 hk46 =>
  (r_ifM trivial (q_tst (q_b2MP (q_b2PP (pv ((eL PyData.int) draws_3)) (pc (.int 0)) (q_ixL PyData.int _ _)) (pc (.int 1)) fun a43 => (qp (le_ii _ _))))
  (r_appM (xs := s16) trivial rfl (q_b2MM (q_b2MP (q_cut (eb := PyData.str) (e := PyData.str) (qp (pv (PyData.str stem_10))) (qp (e := id) p_pNo) (qp (e := id) (p_pSo (pv (PyData.int place_15)))) fun _ _ _ => (q_cutS _ _ _)) (pv (PyData.str code_27)) fun a51 => (q_catS _ _)) (q_cut (eb := PyData.str) (e := PyData.str) (qp (pv (PyData.str stem_10))) (qp (e := id) (p_pSo (pv (PyData.int place_15)))) (q_pSo (q_b2PP (pv ((eL PyData.int) draws_3)) (pc (.int 1)) (q_ixL PyData.int _ _))) fun _ _ _ => (q_cutS _ _ _)) fun a55 a56 => (q_catS _ _)) fun names_57 =>
  (hk46 names_57 _ ⟨(), rfl⟩))
  (r_joinK (fun (s60 : (List Str)) ρ => ∃ (_ : Unit), ρ = [(some (.val (PyData.int p_cell))), (some (.val (PyData.int p_many))), (some (.val (PyData.str ("qwertzuiopasdfghjklyxcvbnm" : Str)))), (some (.val (PyData.str ("abcdefghijklmnopqrstuvwxyz0123456789" : Str)))), (some (.val ((eL PyData.int) draws_3))), (some (.val (PyData.str stem_10))), (some (.val (PyData.int x20))), (some (.val (PyData.int place_15))), (some (.own ((eL PyData.str) s60))), (some (.val (PyData.str code_27))), (some (.val (PyData.str part_34)))]) (fun s60 ρ hr => by
  obtain ⟨_, rfl⟩ := hr
  exact (hk46 s60 _ ⟨(), rfl⟩)) fun K63 hk62 =>
  (r_ifM trivial (q_tst (q_b2MP (q_b2PP (pv ((eL PyData.int) draws_3)) (pc (.int 0)) (q_ixL PyData.int _ _)) (pc (.int 2)) fun a59 => (qp (eq_ii _ _))))
  (r_appM (xs := s16) trivial rfl (q_b2PP (pv (PyData.str part_34)) (pv (PyData.str code_27)) (q_catS _ _)) fun names_64 =>
  (hk62 names_64 _ ⟨(), rfl⟩))
  (r_appM (xs := s16) trivial rfl (q_b2PP (pv (PyData.str code_27)) (pv (PyData.str part_34)) (q_catS _ _)) fun names_66 =>
  (hk62 names_66 _ ⟨(), rfl⟩))))))))))))⟩)
  (fun s16 ρ hr => by
  obtain ⟨_, z17, z18, z19, rfl⟩ := hr
  exact (r_frz (r_retF (pv ((eL PyData.str) s16))))))))))))))))))))
end
end S

/-! SM2: cities and runs (laws of timetables). -/
namespace S
open PySem PySem.Spec PyProof.Rows L2 DL
theorem f_draws2_ok (sc : List Int) (k : Nat) (ns : List Int) (hs : Szs ns) (hl : ns.length ≤ 100000) : ∃ os, f__law_draws_v2 sc (k : Int) ns = .ok os ∧ Dr os ns := by
  show Gv (f__law_draws_v2 sc (k : Int) ns) fun os => Dr os ns
  unfold f__law_draws_v2
  refine gv_letK (fun _ => True) (fun c _ => gv_ifd (fun hc => ?_) fun hc => ?_) fun k' hk' => gv_ifd (fun h => ?_) fun h => hk' _ trivial
  · refine gv_forB (fun k s => Dr s.2 (ns.take k)) .nil (fun k x hk s hd => ?_) fun s h => ?_
    · obtain ⟨h1, h2⟩ := hs x (List.mem_of_getElem? hk)
      have hkl := (List.getElem?_eq_some_iff.mp hk).1
      have hdl := hd.length
      rw [List.length_take] at hdl
      simp only [modR_ok h1, bind_ok, appR_le (show s.2.length ≤ 1000000 by omega), divR_ok (show 0 < x ∧ x < 1073741824 by omega)]
      refine gv_ok ?_
      rw [List.take_add_one, hk]
      exact hd.snoc (Int.emod_nonneg _ (by omega)) (Int.emod_lt_of_pos _ h1)
    · rw [List.take_length] at h
      exact gv_ok h
  · rw [bind_ok]
    refine gv_rngB (n := ns.length) (fun k s => Dr s.1 (ns.take k)) (by omega) .nil (fun k hk s hd => ?_) fun s h => ?_
    · have en : ns[k]? = some ns[k] := List.getElem?_eq_getElem hk
      obtain ⟨h1, h2⟩ := hs _ (List.getElem_mem hk)
      have hdl := hd.length
      rw [List.length_take] at hdl
      simp only [bind_ok, ixR_k hk, modR_ok h1, appR_le (show s.1.length ≤ 1000000 by omega)]
      refine gv_ok ?_
      rw [List.take_add_one, en]
      exact hd.snoc (Int.emod_nonneg _ (by omega)) (Int.emod_lt_of_pos _ h1)
    · rw [List.take_length] at h
      exact gv_ok h
  · obtain ⟨c, hc, _⟩ := ixR_lt (xs := sc) (i := (k : Int)) (by omega) h
    rw [hc]
    exact hk' c trivial
/-! ### words -/
theorem app_cps (a b : Str) : (a ++ b).cps.toList = a.cps.toList ++ b.cps.toList := by
  show (a.cps ++ b.cps).toList = _
  simp
theorem cps_len (a : Str) : a.cps.toList.length = a.length := by rw [Array.length_toList]; rfl
theorem gv_ixS {z : Str} {n : Nat} (hz : z.cps.toList.length = n) (hn : n ≤ 1000) {i : Int} (h0 : 0 ≤ i) (h1 : i < n) : Gv (ixS z i) fun w => ∃ c : Nat, w = ⟨#[c]⟩ := by
  have hl : z.length ≤ mx := by
    rw [← cps_len, hz]
    show _ ≤ 16777216
    omega
  unfold ixS
  rw [if_pos hl, at_int _ h0, List.getElem?_eq_getElem (by omega)]
  exact gv_ok ⟨_, rfl⟩
def numS (n : Nat) : Str := (toString (n : Int) : Str)
def WordOf (w : Str) (n : Nat) : Prop := ∃ c t, w.cps.toList = c :: ((numS n).cps.toList ++ t) ∧ t.length ≤ 3
theorem num_len : ∀ n : Nat, n < 100 → (numS n).length ≤ 2 := by decide +kernel
theorem num_log : ∀ n : Nat, n < 100 → ((n : Int).natAbs.log2 < 1920) := by decide +kernel
theorem num_1 : ∀ n : Nat, n < 8 → (numS n).cps.toList = [48 + n] := by decide +kernel
theorem num_2 : ∀ n : Nat, n < 8 → (numS (40 + n)).cps.toList = [52, 48 + n] := by decide +kernel
theorem strR_ok {n : Nat} (h : n < 100) : strR (n : Int) = .ok (numS n) := if_pos (num_log n h)
theorem tails_len : ∀ x ∈ [("" : Str), "b", "x7", "m", "zz", "k0k"], x.length ≤ 3 := by decide +kernel
theorem f_word_ok {a t : Int} {n : Nat} (ha : 0 ≤ a) (ht : 0 ≤ t) (hn : n < 100) : Gv (f__law_word a (n : Int) t) fun w => WordOf w n := by
  unfold f__law_word
  rw [bind_ok]
  have r1 := Int.emod_nonneg a (show (26 : Int) ≠ 0 by decide)
  have r2 := Int.emod_lt_of_pos a (show (0 : Int) < 26 by decide)
  have r3 := Int.emod_nonneg t (show (6 : Int) ≠ 0 by decide)
  have r4 := Int.emod_lt_of_pos t (show (0 : Int) < 6 by decide)
  obtain ⟨w, e1, c, rfl⟩ := gv_ixS (z := ("qwertzuiopasdfghjklyxcvbnm" : Str)) l26 (by decide) r1 r2
  obtain ⟨x, e2, hx⟩ := gv_ix (xs := [("" : Str), "b", "x7", "m", "zz", "k0k"]) r3 r4
  have lx := tails_len x (List.mem_of_getElem? hx)
  have ln := num_len n hn
  have l1 : ((⟨#[c]⟩ : Str) ++ numS n).length ≤ 3 := by rw [len_app, len_one]; omega
  have c1 : catS ⟨#[c]⟩ (numS n) = .ok (⟨#[c]⟩ ++ numS n) := catS_ok (by rw [len_one]; show _ ≤ 16777216; omega)
  have c2 : catS (⟨#[c]⟩ ++ numS n) x = .ok ((⟨#[c]⟩ ++ numS n) ++ x) := catS_ok (by show _ ≤ 16777216; omega)
  rw [e1, strR_ok hn, e2]
  simp only [bind_ok, c1, c2]
  refine gv_ok ⟨c, x.cps.toList, ?_, by rw [cps_len]; exact lx⟩
  rw [app_cps, app_cps, List.append_assoc]
  rfl
theorem word_ne1 {v w : Str} {m n : Nat} (hv : WordOf v m) (hw : WordOf w n) (hm : m < 8) (hn : n < 8) (h : m ≠ n) : v ≠ w := fun e => by
  obtain ⟨c, t, e1, _⟩ := hv
  obtain ⟨d, u, e2, _⟩ := hw
  rw [e, e2, num_1 n hn, num_1 m hm] at e1
  simp at e1
  omega
theorem word_ne2 {v w : Str} {m n : Nat} (hv : WordOf v (40 + m)) (hw : WordOf w (40 + n)) (hm : m < 8) (hn : n < 8) (h : m ≠ n) : v ≠ w := fun e => by
  obtain ⟨c, t, e1, _⟩ := hv
  obtain ⟨d, u, e2, _⟩ := hw
  rw [e, e2, num_2 n hn, num_2 m hm] at e1
  simp at e1
  omega
theorem word_ne3 {v w : Str} {m n : Nat} (hv : WordOf v m) (hw : WordOf w (40 + n)) (hm : m < 4) (hn : n < 8) : v ≠ w := fun e => by
  obtain ⟨c, t, e1, _⟩ := hv
  obtain ⟨d, u, e2, _⟩ := hw
  rw [e, e2, num_2 n hn, num_1 m (by omega)] at e1
  simp at e1
  omega
/-! ### cities -/
abbrev Ln := Str × Str × List Str
abbrev St := Str × Int
abbrev eSt : St → PyData := eP2 PyData.str PyData.int
abbrev eLn : Ln → PyData := eP3 PyData.str PyData.str (eT PyData.str)
theorem eqSt : EqE eSt 1 := eqP2 eqS eqI
theorem eqLn : EqE eLn 2 := eqP3 eqS eqS (eqT eqS)
structure CityOk (ss : List St) (ls : List Ln) : Prop where
  many : 2 ≤ ss.length ∧ ss.length ≤ 8
  names : (ss.map (·.1)).Nodup
  rings : ∀ s ∈ ss, 1 ≤ s.2 ∧ s.2 ≤ 6
  count : 1 ≤ ls.length ∧ ls.length ≤ 4
  lnames : (ls.map (·.1)).Nodup
  paths : ∀ l ∈ ls, 2 ≤ l.2.2.length ∧ l.2.2.length ≤ 5 ∧ l.2.2.Nodup ∧ ∀ x ∈ l.2.2, x ∈ ss.map (·.1)
theorem erase_perm {α : Type} : ∀ (l : List α) (i : Nat) (x : α), l[i]? = some x → (x :: l.eraseIdx i).Perm l
  | [], _, _, h => by simp at h
  | y :: l, 0, x, h => by simp at h; subst h; exact .refl _
  | y :: l, i + 1, x, h => by
    rw [List.eraseIdx_cons_succ]
    exact (List.Perm.swap y x _).trans ((erase_perm l i x (by simpa using h)).cons y)
theorem gv_appPop {α : Type} {ys xs : List α} {i : Int} {P : List α × List α → Prop} (h0 : 0 ≤ i) (h1 : i < (xs.length : Int)) (hl : ys.length ≤ 1000000) (h : ∀ x, xs[i.toNat]? = some x → P (ys ++ [x], xs.eraseIdx i.toNat)) : Gv (appPopR ys xs i) P := by
  have hi : i.toNat < xs.length := by omega
  have e : ixN xs.length i = some i.toNat := by
    unfold ixN
    rw [if_pos h0, if_pos h1]
  unfold appPopR
  rw [e]
  dsimp only
  rw [List.getElem?_eq_getElem hi]
  dsimp only
  rw [if_pos (Nat.lt_of_le_of_lt hl (by decide))]
  exact gv_ok (h _ (List.getElem?_eq_getElem hi))
end S

/-! SN1: the drawn names are different. -/
namespace S
open PySem PySem.Spec PyProof.Rows L2 DL
theorem gv_ixSc {z : Str} {n : Nat} (hz : z.cps.toList.length = n) (hn : n ≤ 1000) {i : Int} (h0 : 0 ≤ i) (h1 : i < n) : Gv (ixS z i) fun w => ∃ c : Nat, w = ⟨#[c]⟩ ∧ z.cps.toList[i.toNat]? = some c := by
  have hl : z.length ≤ mx := by
    rw [← cps_len, hz]
    show _ ≤ 16777216
    omega
  unfold ixS
  rw [if_pos hl, at_int _ h0, List.getElem?_eq_getElem (by omega)]
  exact gv_ok ⟨_, rfl, rfl⟩
theorem l26nd : L26.cps.toList.Nodup := by decide +kernel
/-- the i-th name -/
def Nm (d0 d4 many : Int) (P R : List Nat) (i : Nat) (z : Str) : Prop := ∃ c, L26.cps.toList[(((i : Int) * 5 + d4) % 26).toNat]? = some c ∧
  ((d0 = 0 ∧ many ≤ 26 → z.cps.toList = [c]) ∧ (¬ (d0 = 0 ∧ many ≤ 26) → d0 ≤ 1 → z.cps.toList = (P ++ [c, 48 + i / 26]) ++ R) ∧ (¬ d0 ≤ 1 → d0 = 2 → ∃ p, z.cps.toList = p ++ [c, 48 + i / 26]) ∧ (¬ d0 ≤ 1 → d0 ≠ 2 → ∃ p, z.cps.toList = [c, 48 + i / 26] ++ p))
theorem Nm.code {d0 d4 many : Int} {P R : List Nat} {i j : Nat} {c e : Nat} (h1 : L26.cps.toList[(((i : Int) * 5 + d4) % 26).toNat]? = some c) (h2 : L26.cps.toList[(((j : Int) * 5 + d4) % 26).toNat]? = some e) (h : c = e) : (i : Int) % 26 = (j : Int) % 26 := by
  subst h
  obtain ⟨l1, e1⟩ := List.getElem?_eq_some_iff.mp h1
  obtain ⟨l2, e2⟩ := List.getElem?_eq_some_iff.mp h2
  have := (List.getElem_inj l26nd).mp (e1.trans e2.symm)
  omega
theorem Nm.inj {d0 d4 : Int} {many : Nat} {P R : List Nat} {i j : Nat} {z : Str} (h1 : Nm d0 d4 many P R i z) (h2 : Nm d0 d4 many P R j z) (hi : i < many) (hj : j < many) : i = j := by
  obtain ⟨c, e1, a1, b1, c1, f1⟩ := h1
  obtain ⟨e, e2, a2, b2, c2, f2⟩ := h2
  by_cases q1 : d0 = 0 ∧ (many : Int) ≤ 26
  · have h := (a1 q1).symm.trans (a2 q1)
    have := Nm.code (d0 := d0) (many := many) (P := P) (R := R) e1 e2 (List.cons.inj h).1
    omega
  · have fin : [c, 48 + i / 26] = [e, 48 + j / 26] → i = j := fun h => by
      obtain ⟨h1, h2⟩ := List.cons.inj h
      have h3 := (List.cons.inj h2).1
      have := Nm.code (d0 := d0) (many := many) (P := P) (R := R) e1 e2 h1
      omega
    by_cases q2 : d0 ≤ 1
    · have h := (b1 q1 q2).symm.trans (b2 q1 q2)
      exact fin (List.append_cancel_left (List.append_cancel_right h))
    · by_cases q3 : d0 = 2
      · obtain ⟨p, hp⟩ := c1 q2 q3
        obtain ⟨p', hp'⟩ := c2 q2 q3
        exact fin (List.append_inj' (hp.symm.trans hp') rfl).2
      · obtain ⟨p, hp⟩ := f1 q2 q3
        obtain ⟨p', hp'⟩ := f2 q2 q3
        exact fin (List.append_inj (hp.symm.trans hp') rfl).1
theorem names_at {d0 d4 : Int} {many : Nat} {P R : List Nat} {zs : List Str} (hl : zs.length = many) (h : ∀ i z, zs[i]? = some z → Nm d0 d4 many P R i z) : zs.Nodup := by
  rw [List.nodup_iff_pairwise_ne, List.pairwise_iff_getElem]
  intro i j hi hj hij e
  have h1 := h i _ (List.getElem?_eq_getElem hi)
  have h2 := h j _ (List.getElem?_eq_getElem hj)
  rw [← e] at h2
  have := h1.inj h2 (by omega) (by omega)
  omega
theorem f_names_c_nd (c : Int) (many : Nat) (hm : many ≤ 200) : Gv (f__law_names_c c (many : Int)) fun zs => zs.length = many ∧ zs.Nodup := by
  unfold f__law_names_c
  have em : repR [(36 : Int)] (9 : Int) = .ok [36, 36, 36, 36, 36, 36, 36, 36, 36] := by
    have := repR_n (xs := [(36 : Int)]) (k := 9) (by decide) (by decide)
    exact this
  rw [em]
  simp only [bind_ok]
  rw [catR_le (by decide), bind_ok]
  have hsz : Szs [4, 11, 11, 26, 26, 36, 36, 36, 36, 36, 36, 36, 36, 36] := by intro m hm; simp at hm; omega
  obtain ⟨os, e, d⟩ := f_draws_ok c _ hsz (by decide)
  refine gv_bindE (v := os) e ?_
  obtain ⟨d0, h0, g0, g0'⟩ := gv_dr d (i := 0) 0 rfl rfl
  obtain ⟨d1, h1, g1, g1'⟩ := gv_dr d (i := 1) 1 rfl rfl
  obtain ⟨d2, h2, g2, g2'⟩ := gv_dr d (i := 2) 2 rfl rfl
  obtain ⟨d3, h3, g3, g3'⟩ := gv_dr d (i := 3) 3 rfl rfl
  obtain ⟨d4, h4, g4, g4'⟩ := gv_dr d (i := 4) 4 rfl rfl
  refine gv_bind (P := fun s : Str => s.length ≤ 10) ?_ fun stem hs => ?_
  · obtain ⟨w, ew, a, rfl, _⟩ := gv_ixSc (z := L26) l26 (by decide) g3 g3'
    rw [h3, bind_ok, show ixS ("qwertzuiopasdfghjklyxcvbnm" : Str) d3 = _ from ew, bind_ok]
    refine gv_bind (P := fun s : Str => s.length ≤ 9) (gv_bind (gv_lcR (P := fun y : Str => y.length ≤ 1) (by decide) fun x hx => ⟨rfl, ?_⟩) fun ys ⟨ly, hy⟩ => ?_) fun t ht => ?_
    · obtain ⟨k, rfl, hk⟩ : ∃ k : Nat, x = (k : Int) ∧ k < 9 := ⟨x.toNat, by simp at hx; omega, by simp at hx; omega⟩
      have hx : ([4, 11, 11, 26, 26, 36, 36, 36, 36, 36, 36, 36, 36, 36] : List Int)[5 + k]? = some 36 := by
        have : k = 0 ∨ k = 1 ∨ k = 2 ∨ k = 3 ∨ k = 4 ∨ k = 5 ∨ k = 6 ∨ k = 7 ∨ k = 8 := by omega
        rcases this with rfl | rfl | rfl | rfl | rfl | rfl | rfl | rfl | rfl <;> rfl
      obtain ⟨v, ev, gv, gv'⟩ := gv_dr d (i := 5 + (k : Int)) (5 + k) (by omega) hx
      obtain ⟨w, ew, a, rfl, _⟩ := gv_ixSc (z := S36) s36 (by decide) gv gv'
      rw [ev, bind_ok, show ixS ("abcdefghijklmnopqrstuvwxyz0123456789" : Str) v = _ from ew]
      exact gv_ok (by rw [len_one]; decide)
    · have l9 : ys.length = 9 := ly
      have sm := join_len ys hy
      have tj := txt_join_len "" ys
      have l0 : ("" : Str).length = 0 := by decide
      rw [l0] at tj
      unfold joinR
      rw [if_pos (by rw [l0]; show _ ≤ 16777216; omega)]
      exact gv_ok (by omega)
    · rw [catS_ok (by rw [len_one]; show _ ≤ 16777216; omega)]
      exact gv_ok (by rw [len_app, len_one]; omega)
  rw [h2, h1, h4, h0]
  simp only [bind_ok]
  rw [modR_ok (by omega), bind_ok]
  generalize d2 % (d1 + 1) = pl
  have hsm : stem.length ≤ mx := by show _ ≤ 16777216; omega
  refine gv_rngB (n := many) (fun j (s : List Str) => s.length = j ∧ ∀ i z, s[i]? = some z → Nm d0 d4 many (cutS stem none (some pl)).cps.toList (cutS stem (some pl) (some d1)).cps.toList i z) (by omega) ⟨rfl, fun i w h => by simp at h⟩ (fun j hj s ⟨s1, s2⟩ => ?_) fun zs ⟨s1, s2⟩ => gv_ok ⟨s1, names_at s1 s2⟩
  obtain ⟨w, ew, a, rfl, ea⟩ := gv_ixSc (z := L26) l26 (by decide) (i := ((j : Int) * 5 + d4) % 26) (Int.emod_nonneg _ (by decide)) (Int.emod_lt_of_pos _ (by decide))
  have e26 : ((j : Int) / 26) = ((j / 26 : Nat) : Int) := by omega
  have j26 : j / 26 < 8 := by omega
  rw [show ixS ("qwertzuiopasdfghjklyxcvbnm" : Str) (((j : Int) * 5 + d4) % 26) = _ from ew, e26, strR_ok (by omega)]
  have hn := num_1 _ j26
  have ln : (numS (j / 26)).length = 1 := by rw [← cps_len, hn]; rfl
  have lc : ((⟨#[a]⟩ : Str) ++ numS (j / 26)).length = 2 := by rw [len_app, ln, len_one]
  have cc : ((⟨#[a]⟩ : Str) ++ numS (j / 26)).cps.toList = [a, 48 + j / 26] := by rw [app_cps, hn]; rfl
  simp only [bind_ok]
  rw [catS_ok (by rw [len_one, ln]; decide)]
  simp only [bind_ok]
  generalize hcd : (⟨#[a]⟩ : Str) ++ numS (j / 26) = cd at lc cc
  have q1 := cutS_len stem none (some ((d1 + 3 * (j : Int)) % 11))
  have q2 := cutS_len stem none (some pl)
  have q3 := cutS_len stem (some pl) (some d1)
  rw [cutSR_ok hsm, cutSR_ok hsm, cutSR_ok hsm]
  simp only [bind_ok]
  generalize hp : cutS stem none (some ((d1 + 3 * (j : Int)) % 11)) = part at q1
  generalize hA : cutS stem none (some pl) = A at q2 s2
  generalize hB : cutS stem (some pl) (some d1) = B at q3 s2
  have put : ∀ z : Str, Nm d0 d4 many A.cps.toList B.cps.toList j z → Gv (appR s z) fun s' => s'.length = j + 1 ∧ ∀ i v, s'[i]? = some v → Nm d0 d4 many A.cps.toList B.cps.toList i v := fun z hz => by
    refine gv_app (by omega) ⟨by simp [s1], fun i v hv => ?_⟩
    rcases Nat.lt_or_ge i s.length with h | h
    · rw [List.getElem?_append_left h] at hv
      exact s2 i v hv
    · have hi := (List.getElem?_eq_some_iff.mp hv).1
      simp at hi
      have : i = s.length := by omega
      subst this
      simp at hv
      subst hv
      rw [s1]
      exact hz
  refine gv_letK (fun s' : List Str => s'.length = j + 1 ∧ ∀ i v, s'[i]? = some v → Nm d0 d4 many A.cps.toList B.cps.toList i v) (fun z hz => gv_ok hz) fun k1 hk1 => ?_
  have m1 : ∀ (x y : Str), x.length ≤ 20 → y.length ≤ 20 → catS x y = .ok (x ++ y) := fun x y hx hy => catS_ok (by show _ ≤ 16777216; omega)
  by_cases c1 : d0 = 0 ∧ (many : Int) ≤ 26
  · have cf : (if decide (d0 = 0) = true then (Rs.ok (decide ((many : Int) ≤ 26)) : Rs Bool) else .ok false) = .ok true := by
      rw [if_pos (decide_eq_true c1.1), decide_eq_true c1.2]
    rw [cf]
    simp only [bind_ok, if_true]
    obtain ⟨w, ew, b, rfl, eb⟩ := gv_ixSc (z := cd) (n := 2) (by rw [cc]; rfl) (by decide) (i := 0) (by decide) (by decide)
    rw [cc] at eb
    cases eb
    rw [ew, bind_ok]
    refine gv_bind (put _ ⟨a, ea, fun _ => rfl, fun h => absurd c1 h, fun h => absurd (by omega) h, fun h => absurd (by omega) h⟩) fun z hz => hk1 z hz
  · have cf : (if decide (d0 = 0) = true then (Rs.ok (decide ((many : Int) ≤ 26)) : Rs Bool) else .ok false) = .ok false := by
      by_cases q : d0 = 0
      · rw [if_pos (decide_eq_true q), decide_eq_false (fun z => c1 ⟨q, z⟩)]
      · rw [if_neg (by simpa using q)]
    rw [cf]
    simp only [bind_ok, Bool.false_eq_true, if_false]
    refine gv_letK (fun s' : List Str => s'.length = j + 1 ∧ ∀ i v, s'[i]? = some v → Nm d0 d4 many A.cps.toList B.cps.toList i v) (fun z hz => hk1 z hz) fun k2 hk2 => ?_
    refine gv_ifd (fun c2 => ?_) fun c2 => ?_
    · rw [m1 A cd (by omega) (by omega), bind_ok, m1 _ B (by rw [len_app]; omega) (by omega), bind_ok]
      refine gv_bind (put _ ⟨a, ea, fun h => absurd h c1, fun _ _ => by rw [app_cps, app_cps, cc], fun h => absurd c2 h, fun h => absurd c2 h⟩) fun z hz => hk2 z hz
    · refine gv_letK (fun s' : List Str => s'.length = j + 1 ∧ ∀ i v, s'[i]? = some v → Nm d0 d4 many A.cps.toList B.cps.toList i v) (fun z hz => hk2 z hz) fun k3 hk3 => ?_
      refine gv_ifd (fun c3 => ?_) fun c3 => ?_
      · rw [m1 part cd (by omega) (by omega), bind_ok]
        refine gv_bind (put _ ⟨a, ea, fun h => absurd h c1, fun _ h => absurd h c2, fun _ _ => ⟨part.cps.toList, by rw [app_cps, cc]⟩, fun _ h => absurd c3 h⟩) fun z hz => hk3 z hz
      · rw [m1 cd part (by omega) (by omega), bind_ok]
        refine gv_bind (put _ ⟨a, ea, fun h => absurd h c1, fun _ h => absurd h c2, fun _ h => absurd h c3, fun _ _ => ⟨part.cps.toList, by rw [app_cps, cc]⟩⟩) fun z hz => hk3 z hz
theorem f_names_nd (c : Int) (many : Nat) (hm : many ≤ 200) : ∃ zs, f__law_names c (many : Int) = .ok zs ∧ zs.length = many ∧ (∀ z ∈ zs, name1 z) ∧ zs.Nodup := by
  obtain ⟨zs, e, l, n⟩ := f_names_c_nd c many hm
  have q := (h__law_names_c c (many : Int)).ok e
  have e2 : f__law_names c (many : Int) = .ok zs := by
    unfold f__law_names
    rw [show g_names [.int c, .int (many : Int)] = .ok (eL PyData.str zs) from q]
    exact dcd_ok (EqE.inj (eqL eqS))
  obtain ⟨zs', e3, _, h⟩ := f_names_ok c many hm
  rw [e2] at e3
  cases e3
  exact ⟨zs, e2, l, h, n⟩
end S

/-! SM7: the city that is drawn (by cell, other, most, lines). -/
namespace S
open PySem PySem.Spec PyProof.Rows L2 DL
abbrev Ct2 := List St × List Ln
structure CtOk (c : Ct2) : Prop where
  sl : c.1.length ≤ 30
  ll : c.2.length ≤ 16
  sn : (c.1.map (·.1)).Nodup
  ln : (c.2.map (·.1)).Nodup
  rg : ∀ s ∈ c.1, 1 ≤ s.2 ∧ s.2 ≤ 6
  pt : ∀ l ∈ c.2, 2 ≤ l.2.2.length ∧ l.2.2.length ≤ 12 ∧ l.2.2.Nodup ∧ ∀ x ∈ l.2.2, x ∈ c.1.map (·.1)
section
variable {α β : Type}
theorem gv_lcAt {p : β → Rs Bool} {f : β → Rs α} {R : β → α → Prop} : ∀ {xs : List β}, (∀ x ∈ xs, p x = .ok true ∧ Gv (f x) (R x)) → Gv (lcG p f xs) fun ys => ys.length = xs.length ∧ ∀ (i : Nat) (x : β) (y : α), xs[i]? = some x → ys[i]? = some y → R x y
  | [], _ => gv_ok ⟨rfl, fun i x y h => by simp at h⟩
  | x :: xs, h => by
    obtain ⟨h1, y, e, py⟩ := h x List.mem_cons_self
    obtain ⟨ys, e2, l, q⟩ := gv_lcAt fun z hz => h z (List.mem_cons_of_mem _ hz)
    refine ⟨y :: ys, ?_, by rw [List.length_cons, List.length_cons, l], fun i a b h1 h2 => ?_⟩
    · unfold lcG
      rw [h1]
      dsimp only
      rw [e]
      dsimp only
      rw [e2]
      rfl
    · cases i with
      | zero =>
        simp at h1 h2
        subst h1 h2
        exact py
      | succ i => exact q i a b (by simpa using h1) (by simpa using h2)
theorem gv_lcRAt {p : β → Rs Bool} {f : β → Rs α} {R : β → α → Prop} {xs : List β} (hl : xs.length ≤ 1000000) (h : ∀ x ∈ xs, p x = .ok true ∧ Gv (f x) (R x)) : Gv (lcR xs p f) fun ys => ys.length = xs.length ∧ ∀ (i : Nat) (x : β) (y : α), xs[i]? = some x → ys[i]? = some y → R x y := by
  rw [lcR_le hl]
  exact gv_lcAt h
end
abbrev B14 (m : Int) : List Int := [5, 11, m, m, m, m, m, m, m, m, m, m, m, m]
theorem szC (p q : Int) (a n j : Nat) (m : Int) (hj : j < a) : (([p, q] ++ repB [9] a) ++ repB (B14 m) n)[2 + j]? = some 9 := by
  have l : (repB [(9 : Int)] a).length = a * 1 := repB_len [9] a
  rw [List.getElem?_append_left (by simp; omega), List.getElem?_append_right (by simp)]
  have := repB_at [(9 : Int)] (i := 0) (by decide) a j hj
  rw [show ([(9 : Int)] : List Int)[0]? = some 9 from rfl] at this
  rw [← this]
  congr 1
  simp
theorem szD (p q : Int) (a n j i : Nat) (m : Int) {v : Int} (hj : j < n) (hi : i < 14) (hv : (B14 m)[i]? = some v) : (([p, q] ++ repB [9] a) ++ repB (B14 m) n)[2 + a + 14 * j + i]? = some v := by
  have l : (repB [(9 : Int)] a).length = a * 1 := repB_len [9] a
  rw [List.getElem?_append_right (by simp; omega), ← hv, ← repB_at (B14 m) (i := i) (by simpa using hi) n j hj]
  congr 1
  simp
  omega
theorem zones_in : ∀ y ∈ [(1 : Int), 2, 3, 4, 5, 6, 1, 2, 1], 1 ≤ y ∧ y ≤ 6 := by decide
theorem names_take {names : List Str} {ss : List St} {m : Nat} (hn : m ≤ names.length) (hl : ss.length = m) (h : ∀ (i : Nat) (y : St), ss[i]? = some y → names[i]? = some y.1) : ss.map (·.1) = names.take m := by
  apply List.ext_getElem?
  intro i
  rw [List.getElem?_map]
  rcases Nat.lt_or_ge i m with hi | hi
  · have e : ss[i]? = some ss[i] := List.getElem?_eq_getElem (by omega)
    rw [e, List.getElem?_take_of_lt hi, h i _ e]
    rfl
  · rw [List.getElem?_eq_none (by omega), List.getElem?_eq_none (by rw [List.length_take]; omega)]
    rfl
def lix (most i : Nat) : Nat := if i % 2 = 1 then most + i else most - 1 - i
theorem lines_nodup {names : List Str} {ls : List Ln} {most : Nat} (nd : names.Nodup) (hl : ls.length ≤ most) (h : ∀ (i : Nat) (y : Ln), ls[i]? = some y → names[lix most i]? = some y.1) : (ls.map (·.1)).Nodup := by
  rw [List.nodup_iff_pairwise_ne, List.pairwise_iff_getElem]
  intro i j hi hj hij e
  simp only [List.getElem_map] at e
  simp only [List.length_map] at hi hj
  have h1 := h i _ (List.getElem?_eq_getElem hi)
  have h2 := h j _ (List.getElem?_eq_getElem hj)
  rw [e, ← h2] at h1
  obtain ⟨l1, e1⟩ := List.getElem?_eq_some_iff.mp h2
  have h3 : names[lix most i]? = some ls[j].1 := h1.trans h2
  obtain ⟨l2, e2⟩ := List.getElem?_eq_some_iff.mp h3
  have := (List.getElem_inj nd).mp (e2.trans e1.symm)
  unfold lix at this
  split at this <;> split at this <;> omega
theorem f_city2_ok (cell other : Int) (most lines : Nat) (h1 : 5 ≤ most ∧ most ≤ 30) (h2 : lines ≤ 16 ∧ lines ≤ most) : Gv (f__law_city_v2 cell other (most : Int) (lines : Int)) fun c => CtOk c ∧ c.1.length ≤ most ∧ c.2.length ≤ lines := by
  unfold f__law_city_v2
  obtain ⟨hd, e, d⟩ := f_draws_ok cell [(most : Int) + 1, (lines : Int) + 1] (by intro m hm; simp at hm; omega) (by simp)
  refine gv_bindE e ?_
  obtain ⟨x, y, rfl, hx, hy⟩ := Dr2 d
  simp only [ixR_0, ixR_1, bind_ok]
  obtain ⟨a, ea⟩ : ∃ a : Nat, x = (a : Int) := ⟨x.toNat, by omega⟩
  subst ea
  obtain ⟨n, en, hn, hna⟩ : ∃ n : Nat, (bif decide ((a : Int) < 2) then 0 else y) = (n : Int) ∧ n ≤ lines ∧ (0 < n → 2 ≤ a) := by
    by_cases q : (a : Int) < 2
    · exact ⟨0, by rw [decide_eq_true q]; rfl, by omega, by omega⟩
    · exact ⟨y.toNat, by rw [decide_eq_false q]; show y = _; omega, by omega, by omega⟩
  rw [en]
  have l9 := repB_len [(9 : Int)] a
  have l14 := repB_len (B14 most) n
  simp at l9 l14
  have r1 : repR [(9 : Int)] (a : Int) = .ok (repB [9] a) := repR_n (by simp; omega) (by omega)
  have r2 : repR [(most : Int)] (12 : Int) = .ok [(most : Int), most, most, most, most, most, most, most, most, most, most, most] := repR_n (xs := [(most : Int)]) (k := 12) (by simp) (by decide)
  have r3 : repR (B14 most) (n : Int) = .ok (repB (B14 most) n) := repR_n (by simp; omega) (by omega)
  rw [r1, r2]
  simp only [bind_ok, catR_le (show ([(most : Int) + 1, (lines : Int) + 1] : List Int).length + (repB [9] a).length ≤ 1000000 by simp; omega)]
  rw [catR_le (by simp), bind_ok, show ([5, 11] : List Int) ++ [(most : Int), most, most, most, most, most, most, most, most, most, most, most] = B14 most from rfl, r3, bind_ok, catR_le (by simp; omega), bind_ok]
  obtain ⟨os, e, d⟩ := f_draws_ok cell (([(most : Int) + 1, (lines : Int) + 1] ++ repB [9] a) ++ repB (B14 most) n) (Szs.app (Szs.app (by intro m hm; simp at hm; omega) (repB_szs (by intro m hm; simp at hm; omega) a)) (repB_szs (by intro m hm; simp at hm; omega) n)) (by simp; omega)
  refine gv_bindE e ?_
  obtain ⟨names, e, nl, n1, nd⟩ := f_names_nd other (most + lines + 6) (by omega)
  refine gv_bindE (v := names) (by rw [← e]; congr 1) ?_
  rw [rngR_nat (show a ≤ 1000000000 by omega)]
  simp only [bind_ok]
  have nix : ∀ (i : Int) (k : Nat), i = (k : Int) → k < most + lines + 6 → ∃ w, ixR names i = .ok w ∧ names[k]? = some w := fun i k hi hk => by
    subst hi
    exact ⟨names[k], ixR_k (by omega), List.getElem?_eq_getElem (by omega)⟩
  refine gv_bind (gv_lcRAt (R := fun (x : Int) (y : St) => names[x.toNat]? = some y.1 ∧ 1 ≤ y.2 ∧ y.2 ≤ 6) (by simp; omega) fun z hz => ⟨rfl, ?_⟩) fun ss ⟨sl, sp⟩ => ?_
  · obtain ⟨k, hk, rfl⟩ := List.mem_map.mp hz
    have hk := List.mem_range.mp hk
    obtain ⟨w, ew, hw⟩ := nix k k rfl (by omega)
    obtain ⟨v, ev, bv⟩ := gv_dr d (i := 2 + (k : Int)) (2 + k) (by omega) (szC _ _ a n k most hk)
    obtain ⟨r, er, hr⟩ := gv_ix (xs := [(1 : Int), 2, 3, 4, 5, 6, 1, 2, 1]) bv.1 (by simpa using bv.2)
    rw [ew, ev]
    simp only [bind_ok]
    rw [er]
    exact gv_ok ⟨by rw [Int.toNat_natCast]; exact hw, zones_in r (List.mem_of_getElem? hr)⟩
  have sl' : ss.length = a := by simpa using sl
  have sp' : ∀ (i : Nat) (y : St), ss[i]? = some y → names[i]? = some y.1 ∧ 1 ≤ y.2 ∧ y.2 ≤ 6 := fun i y hy => by
    have hi := (List.getElem?_eq_some_iff.mp hy).1
    have := sp i (i : Int) y (by rw [List.getElem?_map, List.getElem?_range (by omega)]; rfl) hy
    rwa [Int.toNat_natCast] at this
  have esn := names_take (names := names) (m := a) (by omega) sl' fun i y hy => (sp' i y hy).1
  have ssn : (ss.map (·.1)).Nodup := by
    rw [esn]
    exact nd.sublist (List.take_sublist _ _)
  refine gv_rngB (n := n) (fun j (s : List Ln) => s.length = j ∧ (∀ (i : Nat) (y : Ln), s[i]? = some y → names[lix most i]? = some y.1) ∧ ∀ l ∈ s, 2 ≤ l.2.2.length ∧ l.2.2.length ≤ 12 ∧ l.2.2.Nodup ∧ ∀ x ∈ l.2.2, x ∈ ss.map (·.1)) (by omega) ⟨rfl, fun i w h => by simp at h, fun w h => by cases h⟩ (fun j hj s' ⟨t1, t2, t3⟩ => ?_) fun ls ⟨t1, t2, t3⟩ => gv_ok ⟨⟨show ss.length ≤ 30 by omega, show ls.length ≤ 16 by omega, ssn, lines_nodup (ls := ls) (most := most) nd (by omega) t2, fun s hs => ?_, t3⟩, show ss.length ≤ most by omega, show ls.length ≤ lines by omega⟩
  · have dr := fun (i : Nat) (v : Int) (hi : i < 14) (hv : (B14 most)[i]? = some v) => gv_dr d (i := ((2 + a + 14 * j + i : Nat) : Int)) (2 + a + 14 * j + i) rfl (szD _ _ a n j i most hj hi hv)
    obtain ⟨x0, e0, b0⟩ := dr 0 5 (by decide) rfl
    obtain ⟨x1, e1, b1⟩ := dr 1 11 (by decide) rfl
    have q0 : (2 + (a : Int) + 14 * (j : Int)) = ((2 + a + 14 * j + 0 : Nat) : Int) := by omega
    have q1 : (2 + (a : Int) + 14 * (j : Int)) + 1 = ((2 + a + 14 * j + 1 : Nat) : Int) := by omega
    have ha2 : 2 ≤ a := hna (by omega)
    try simp only [bind_ok]
    rw [lcP_all (show ss.length ≤ 1000000 by omega), bind_ok, q1, e1]
    simp only [bind_ok]
    obtain ⟨c, ec⟩ : ∃ c : Nat, 2 + x1 = (c : Int) := ⟨(2 + x1).toNat, by omega⟩
    have hc : 2 ≤ c ∧ c ≤ 12 := by omega
    rw [ec]
    refine gv_rngB (n := c) (fun i (s : List Str × List Str) => (s.2 ++ s.1).Perm (ss.map (·.1)) ∧ s.2.length = min i ss.length) (by omega) ⟨by simp, by simp⟩ (fun i hi s ⟨u1, u2⟩ => ?_) fun s ⟨u1, u2⟩ => ?_
    · have ul := u1.length_eq
      simp at ul
      refine gv_letK (fun z => (z.2 ++ z.1).Perm (ss.map (·.1)) ∧ z.2.length = min (i + 1) ss.length) (fun z hz => gv_ok hz) fun k' hk' => gv_ifd (fun h => ?_) fun h => ?_
      · have hb : (B14 most)[2 + i]? = some (most : Int) := by
          have : i = 0 ∨ i = 1 ∨ i = 2 ∨ i = 3 ∨ i = 4 ∨ i = 5 ∨ i = 6 ∨ i = 7 ∨ i = 8 ∨ i = 9 ∨ i = 10 ∨ i = 11 := by omega
          rcases this with rfl | rfl | rfl | rfl | rfl | rfl | rfl | rfl | rfl | rfl | rfl | rfl <;> rfl
        obtain ⟨v, ev, bv⟩ := dr (2 + i) most (by omega) hb
        have qi : (2 + (a : Int) + 14 * (j : Int)) + 2 + (i : Int) = ((2 + a + 14 * j + (2 + i) : Nat) : Int) := by omega
        rw [qi, ev]
        simp only [bind_ok, modR_ok h]
        have r3 := Int.emod_nonneg v (show (s.1.length : Int) ≠ 0 by omega)
        have r4 := Int.emod_lt_of_pos v h
        refine gv_bind (gv_appPop r3 r4 (by omega) (P := fun z => (z.1 ++ z.2).Perm (ss.map (·.1)) ∧ z.1.length = min (i + 1) ss.length) fun x hx => ⟨?_, by simp; omega⟩) fun z hz => hk' _ hz
        have p := erase_perm s.1 _ x hx
        rw [List.append_assoc]
        exact (List.Perm.append_left _ p).trans u1
      · refine hk' _ ⟨u1, ?_⟩
        dsimp only
        omega
    · have nd2 : s.2.Nodup := ((u1.nodup_iff.mpr ssn).sublist (List.sublist_append_left _ _))
      have sub : ∀ x ∈ s.2, x ∈ ss.map (·.1) := fun x hx => u1.subset (List.mem_append_left _ hx)
      obtain ⟨w, ew, hw⟩ := nix ((most : Int) - 1 - (j : Int)) (most - 1 - j) (by omega) (by omega)
      rw [ew, bind_ok]
      refine gv_letK (fun z => names[lix most j]? = some z) (fun z hz => ?_) fun k1 hk1 => ?_
      · obtain ⟨cr, ecr, _⟩ := nix x0 x0.toNat (by omega) (by omega)
        rw [q0, e0]
        simp only [bind_ok]
        rw [ecr]
        simp only [bind_ok]
        have put : ∀ v : Str, Gv (appR s' (z, v, s.2)) fun t => t.length = j + 1 ∧ (∀ (i : Nat) (y : Ln), t[i]? = some y → names[lix most i]? = some y.1) ∧ ∀ l ∈ t, 2 ≤ l.2.2.length ∧ l.2.2.length ≤ 12 ∧ l.2.2.Nodup ∧ ∀ x ∈ l.2.2, x ∈ ss.map (·.1) := fun v => by
          refine gv_app (by omega) ⟨by simp [t1], fun i y hy => ?_, fun l hl => ?_⟩
          · rcases Nat.lt_or_ge i s'.length with h | h
            · rw [List.getElem?_append_left h] at hy
              exact t2 i y hy
            · have hi := (List.getElem?_eq_some_iff.mp hy).1
              simp at hi
              have : i = s'.length := by omega
              subst this
              simp at hy
              subst hy
              rw [t1]
              exact hz
          · rcases List.mem_append.mp hl with h | h
            · exact t3 l h
            · rw [List.mem_singleton.mp h]
              exact ⟨by dsimp only; omega, by dsimp only; omega, nd2, sub⟩
        refine gv_letK (fun _ => True) (fun v _ => gv_bind (put v) fun t ht => gv_ok ht) fun k2 hk2 => gv_ifd (fun _ => ?_) fun _ => hk2 _ trivial
        obtain ⟨cr2, ecr2, _⟩ := nix ((most : Int) + lines + 1 + x0) (most + lines + 1 + x0.toNat) (by omega) (by omega)
        rw [ecr2, bind_ok]
        exact hk2 _ trivial
      · refine gv_ifd (fun h => ?_) fun h => hk1 _ ?_
        · obtain ⟨w2, ew2, hw2⟩ := nix ((most : Int) + (j : Int)) (most + j) (by omega) (by omega)
          rw [ew2, bind_ok]
          refine hk1 _ ?_
          unfold lix
          rw [if_pos (by omega)]
          exact hw2
        · unfold lix
          rw [if_neg (by omega)]
          exact hw
  · obtain ⟨i, hi⟩ := List.mem_iff_getElem?.mp hs
    exact (sp' i s hi).2
end S

/-! SM8: lines, rings, passed stops, legs. -/
namespace S
open PySem PySem.Spec PyProof.Rows L2 DL
/-! ### places -/
section
variable {α : Type} [DecidableEq α]
def pos (l : List α) (x : α) : Nat := (l.findIdx? fun y => decide (y = x)).getD 0
theorem pos_at {l : List α} {x : α} (h : x ∈ l) : (l.findIdx? fun y => decide (y = x)) = some (pos l x) ∧ pos l x < l.length ∧ l[pos l x]? = some x := by
  unfold pos
  cases e : l.findIdx? fun y => decide (y = x) with
  | none =>
    rw [List.findIdx?_eq_none_iff] at e
    have := e x h
    simp at this
  | some j =>
    obtain ⟨hj, h1, _⟩ := List.findIdx?_eq_some_iff_getElem.mp e
    simp at h1
    exact ⟨rfl, hj, by rw [Option.getD_some, List.getElem?_eq_getElem hj, h1]⟩
theorem indR_mem {l : List α} {x : α} (h : x ∈ l) : indR l x = .ok ((pos l x : Nat) : Int) := by
  unfold indR
  rw [(pos_at h).1]
theorem pos_nd {l : List α} (nd : l.Nodup) {j : Nat} {x : α} (h : l[j]? = some x) : pos l x = j := by
  have hm := List.mem_of_getElem? h
  obtain ⟨_, h2, h3⟩ := pos_at hm
  obtain ⟨l1, e1⟩ := List.getElem?_eq_some_iff.mp h
  obtain ⟨l2, e2⟩ := List.getElem?_eq_some_iff.mp h3
  exact (List.getElem_inj nd).mp (e2.trans e1.symm)
end
section
variable {α : Type}
theorem cutD_mid (xs : List α) {a b : Nat} (hb : b ≤ xs.length) : cutD xs (some (a : Int)) (some (b : Int)) = (xs.drop (min a xs.length)).take (b - min a xs.length) := by
  unfold DL.cutD
  rw [HT.sIx_nat, HT.sIx_nat, Nat.min_eq_left hb]
def segv (l : List α) (i j : Nat) : List α := (l.drop (min i j)).take (max i j + 1 - min i j)
def seg (l : List α) (i j : Nat) : List α := if i < j then segv l i j else (segv l i j).reverse
theorem segv_len {l : List α} {i j : Nat} (hi : i < l.length) (hj : j < l.length) : (segv l i j).length = max i j + 1 - min i j := by
  unfold segv
  rw [List.length_take, List.length_drop]
  omega
theorem segv_at {l : List α} {i j k : Nat} (hk : k < max i j + 1 - min i j) : (segv l i j)[k]? = l[min i j + k]? := by
  unfold segv
  rw [List.getElem?_take_of_lt hk, List.getElem?_drop]
theorem seg_len {l : List α} {i j : Nat} (hi : i < l.length) (hj : j < l.length) : (seg l i j).length = max i j + 1 - min i j := by
  unfold seg
  split
  · exact segv_len hi hj
  · rw [List.length_reverse]; exact segv_len hi hj
theorem segv_mem {l : List α} {i j : Nat} {x : α} (h : x ∈ segv l i j) : x ∈ l := List.mem_of_mem_drop (List.mem_of_mem_take h)
theorem seg_mem {l : List α} {i j : Nat} {x : α} : x ∈ seg l i j ↔ x ∈ segv l i j := by
  unfold seg
  split
  · exact Iff.rfl
  · exact List.mem_reverse
theorem cut_segv (l : List α) {i j : Nat} (hi : i < l.length) (hj : j < l.length) (h : i ≤ j) : cutD l (some (i : Int)) (some ((j : Int) + 1)) = segv l i j := by
  have e : ((j : Int) + 1) = ((j + 1 : Nat) : Int) := by omega
  rw [e, cutD_mid l (by omega)]
  unfold segv
  rw [Nat.min_eq_left (show i ≤ l.length by omega), Nat.min_eq_left h, Nat.max_eq_right h]
theorem segv_map {β : Type} (f : α → β) (l : List α) (i j : Nat) : segv (l.map f) i j = (segv l i j).map f := by
  unfold segv
  rw [← List.map_drop, ← List.map_take]
theorem segv_comm (l : List α) (i j : Nat) : segv l i j = segv l j i := by
  unfold segv
  rw [Nat.min_comm, Nat.max_comm]
theorem comp_up (l : List α) {i j : Nat} (hi : i < l.length) (hj : j < l.length) (h : i < j) (hl : l.length ≤ 1000) : ((rngR (i : Int) ((j : Int) + 1)).bind fun a => lcR a (fun x => (Rs.ok true)) fun x => ixR l x) = .ok (seg l i j) := by
  rw [rngR_ok (by omega) (by omega) (by omega) (by omega), bind_ok, lcR_le (by simp; omega)]
  obtain ⟨ys, e, ly, hy⟩ := gv_lcAt (p := fun _ => (Rs.ok true)) (f := fun x => ixR l x) (R := fun (x : Int) (y : α) => l[x.toNat]? = some y) (xs := (List.range ((j : Int) + 1 - (i : Int)).toNat).map fun (k : Nat) => (i : Int) + (k : Int)) fun x hx => ⟨rfl, by
    obtain ⟨k, hk, rfl⟩ := List.mem_map.mp hx
    have hk := List.mem_range.mp hk
    exact gv_ix (by omega) (by omega)⟩
  rw [e]
  congr 1
  simp at ly
  have e1 : seg l i j = segv l i j := if_pos h
  rw [e1]
  apply List.ext_getElem?
  intro k
  by_cases hk : k < ys.length
  · rw [segv_at (by omega)]
    have e2 := List.getElem?_eq_getElem hk
    have := hy k ((i : Int) + (k : Int)) _ (by rw [List.getElem?_map, List.getElem?_range (by omega)]; rfl) e2
    rw [e2, ← this]
    congr 1
    omega
  · rw [List.getElem?_eq_none (by omega), List.getElem?_eq_none (by rw [segv_len hi hj]; omega)]
theorem comp_down (l : List α) {i j : Nat} (hi : i < l.length) (hj : j < l.length) (h : ¬ i < j) (hl : l.length ≤ 1000) : ((rngR 0 ((i : Int) - (j : Int) + 1)).bind fun a => lcR a (fun x => (Rs.ok true)) fun x => ixR l ((i : Int) - x)) = .ok (seg l i j) := by
  rw [rngR_ok (by omega) (by omega) (by omega) (by omega), bind_ok, lcR_le (by simp; omega)]
  obtain ⟨ys, e, ly, hy⟩ := gv_lcAt (p := fun _ => (Rs.ok true)) (f := fun x => ixR l ((i : Int) - x)) (R := fun (x : Int) (y : α) => l[((i : Int) - x).toNat]? = some y) (xs := (List.range ((i : Int) - (j : Int) + 1 - 0).toNat).map fun (k : Nat) => (0 : Int) + (k : Int)) fun x hx => ⟨rfl, by
    obtain ⟨k, hk, rfl⟩ := List.mem_map.mp hx
    have hk := List.mem_range.mp hk
    exact gv_ix (by omega) (by omega)⟩
  rw [e]
  congr 1
  simp at ly
  have e1 : seg l i j = (segv l i j).reverse := if_neg h
  have sl := segv_len hi hj
  rw [e1]
  apply List.ext_getElem?
  intro k
  by_cases hk : k < ys.length
  · have e2 := List.getElem?_eq_getElem hk
    have := hy k (0 + (k : Int)) _ (by rw [List.getElem?_map, List.getElem?_range (by omega)]; rfl) e2
    rw [e2, ← this, List.getElem?_reverse (by omega), segv_at (by omega)]
    congr 1
    omega
  · rw [List.getElem?_eq_none (by omega), List.getElem?_eq_none (by rw [List.length_reverse]; omega)]
theorem maxL_eq {xs ys : List Int} (h : xs ≠ []) (hm : ∀ y, y ∈ xs ↔ y ∈ ys) : maxL xs = maxL ys := by
  have h2 : ys ≠ [] := fun z => by
    obtain ⟨h1, _⟩ := maxL_spec h
    rw [hm, z] at h1
    cases h1
  obtain ⟨a1, a2⟩ := maxL_spec h
  obtain ⟨b1, b2⟩ := maxL_spec h2
  have := a2 _ ((hm _).mpr b1)
  have := b2 _ ((hm _).mp a1)
  omega
theorem maxR_ok {xs : List Int} (h : xs ≠ []) : maxR xs = .ok (maxL xs) := if_pos (List.length_pos_iff.mpr h)
theorem seg_ne {l : List α} {i j : Nat} (hi : i < l.length) (hj : j < l.length) : seg l i j ≠ [] := fun z => by
  have := seg_len hi hj
  rw [z] at this
  simp at this
  omega
end
/-! ### rings -/
theorem lookA_none {κ β : Type} [DecidableEq κ] : ∀ {xs : List (κ × β)} {k : κ}, k ∉ xs.map (·.1) → lookA xs k = none
  | [], k, _ => rfl
  | x :: xs, k, h => by
    rw [List.map_cons, List.mem_cons, not_or] at h
    unfold lookA
    rw [if_neg fun z => h.1 z.symm]
    exact lookA_none h.2
theorem dcA_nd {κ β : Type} [DecidableEq κ] : ∀ (xs es : List (κ × β)), ((es ++ xs).map (·.1)).Nodup → dcA (·.1) (·.2) xs es = es ++ xs
  | [], es, _ => by rw [List.append_nil]; rfl
  | x :: xs, es, h => by
    have e1 : dcA (fun p : κ × β => p.1) (fun p => p.2) (x :: xs) es = dcA (·.1) (·.2) xs (putA es x.1 x.2) := rfl
    have e2 : putA es x.1 x.2 = es ++ [x] := by
      unfold putA hasA
      have : lookA es x.1 = none := by
        rw [List.map_append, List.map_cons, List.nodup_append] at h
        exact lookA_none fun z => h.2.2 x.1 z x.1 List.mem_cons_self rfl
      rw [this]
      rfl
    rw [e1, e2, dcA_nd xs (es ++ [x]) (by rw [List.append_assoc]; exact h), List.append_assoc]
    rfl
theorem dcG_dcA {α κ β : Type} [DecidableEq κ] (key : α → κ) (val : α → β) : ∀ (xs : List α) (es : List (κ × β)), dcG (fun _ => .ok true) (fun x => .ok (key x)) (fun x => .ok (val x)) xs es = .ok (dcA key val xs es)
  | [], es => rfl
  | x :: xs, es => by
    unfold dcG
    exact dcG_dcA key val xs _
theorem lookA_mem {κ β : Type} [DecidableEq κ] : ∀ {xs : List (κ × β)} {p : κ × β}, (xs.map (·.1)).Nodup → p ∈ xs → lookA xs p.1 = some p.2
  | x :: xs, p, nd, h => by
    unfold lookA
    rw [List.map_cons, List.nodup_cons] at nd
    rcases List.mem_cons.mp h with rfl | h
    · rw [if_pos rfl]
    · rw [if_neg fun z => nd.1 (by rw [z]; exact List.mem_map_of_mem h)]
      exact lookA_mem nd.2 h
theorem lookA_in {κ β : Type} [DecidableEq κ] : ∀ {xs : List (κ × β)} {k : κ}, k ∈ xs.map (·.1) → ∃ v, lookA xs k = some v ∧ (k, v) ∈ xs
  | x :: xs, k, h => by
    unfold lookA
    by_cases c : x.1 = k
    · rw [if_pos c]
      exact ⟨x.2, rfl, by rw [← c]; exact List.mem_cons_self⟩
    · rw [if_neg c]
      rcases List.mem_cons.mp (show k ∈ x.1 :: xs.map (·.1) from h) with h | h
      · exact absurd h.symm c
      · obtain ⟨v, e, m⟩ := lookA_in (xs := xs) h
        exact ⟨v, e, List.mem_cons_of_mem _ m⟩
theorem find_lookA {κ β : Type} [DecidableEq κ] (xs : List (κ × β)) (k : κ) : (xs.find? fun x => decide (x.1 = k)).map (·.2) = lookA xs k := by
  induction xs with
  | nil => rfl
  | cons x xs ih =>
    rw [List.find?_cons]
    unfold lookA
    by_cases c : x.1 = k
    · rw [if_pos c, decide_eq_true c]; rfl
    · rw [if_neg c, decide_eq_false c]; exact ih
abbrev Lg := Str × Str × Str
abbrev eLg : Lg → PyData := eP3 PyData.str PyData.str PyData.str
theorem eqLg : EqE eLg 1 := eqP3 eqS eqS eqS
def lineO (c : Ct2) (n : Str) : Option Ln := c.2.find? fun l => decide (l.1 = n)
theorem f_line (c : Ct2) (n : Str) : f_line_of_c c n = .ok (lineO c n) := by
  unfold f_line_of_c lineO
  rw [forC_find' (p := fun l : Ln => decide (l.1 = n)) (f := fun l => some l) fun x _ => rfl]
  cases List.find? _ c.2 <;> rfl
theorem f_ring (c : Ct2) (n : Str) : f_ring_of c n = .ok (lookA c.1 n) := by
  unfold f_ring_of
  rw [forC_find' (p := fun l : St => decide (l.1 = n)) (f := fun l => some l.2) fun x _ => rfl, ← find_lookA]
  cases List.find? _ c.1 <;> rfl
theorem find_nd {α : Type} {l : List α} {f : α → Str} (nd : (l.map f).Nodup) {x : α} (h : x ∈ l) : (l.find? fun y => decide (f y = f x)) = some x := by
  induction l with
  | nil => cases h
  | cons y l ih =>
    rw [List.map_cons, List.nodup_cons] at nd
    rw [List.find?_cons]
    rcases List.mem_cons.mp h with rfl | h
    · rw [decide_eq_true rfl]
    · rw [decide_eq_false fun z => nd.1 (by rw [z]; exact List.mem_map_of_mem h)]
      exact ih nd.2 h
section
variable {c : Ct2} (C : CtOk c)
include C
theorem line_mem {l : Ln} (h : l ∈ c.2) : lineO c l.1 = some l := find_nd C.ln h
theorem line_some {l : Ln} {n : Str} (h : lineO c n = some l) : l ∈ c.2 ∧ l.1 = n := ⟨List.mem_of_find?_eq_some h, by simpa using List.find?_some h⟩
theorem rings_law : f__law_rings c = .ok c.1 := by
  unfold f__law_rings
  have e : ∀ (xs es : List St), es.length + xs.length ≤ 1000 → forB (fun (s1 : (List (Str × Int))) (x3 : (Str × Int)) => ((Rs.ok x3.2).bind fun a5 => (Rs.ok x3.1).bind fun a6 => (putR s1 a6 a5).bind fun (rings_4 : (List (Str × Int))) => (.ok rings_4))) xs es = .ok (dcA (·.1) (·.2) xs es) := by
    intro xs
    induction xs with
    | nil => intro es _; rfl
    | cons x xs ih =>
      intro es h
      simp only [List.length_cons] at h
      rw [forB_cons]
      simp only [bind_ok]
      rw [putR_ok (show es.length < mx by show _ < 16777216; omega), bind_ok, bind_ok]
      have := putA_len es x.1 x.2
      exact ih _ (by omega)
  have sl := C.sl
  rw [e _ _ (by simp; omega), bind_ok, dcA_nd _ _ (by simpa using C.sn)]
  rfl
theorem rings_prog : dcR c.1 (fun x1 => (Rs.ok true)) (fun x1 => (Rs.ok x1.1)) (fun x1 => (Rs.ok x1.2)) = .ok c.1 := by
  have sl := C.sl
  unfold dcR
  rw [if_pos (show c.1.length ≤ mx by show _ ≤ 16777216; omega), dcG_dcA, dcA_nd _ _ (by simpa using C.sn)]
  rfl
end
def rv (c : Ct2) (n : Str) : Int := (lookA c.1 n).getD 0
theorem get_rv {c : Ct2} {n : Str} (h : n ∈ c.1.map (·.1)) : getA c.1 n = .ok (rv c n) := by
  obtain ⟨v, e, _⟩ := lookA_in h
  unfold rv
  rw [getA_ok e, e]
  rfl
/-! ### passed stops -/
def psd (c : Ct2) (ln st en : Str) : Option (List Str) := (lineO c ln).bind fun l => if st = en ∨ st ∉ l.2.2 ∨ en ∉ l.2.2 then none else some (seg l.2.2 (pos l.2.2 st) (pos l.2.2 en))
theorem f_passed {c : Ct2} (C : CtOk c) (ln st en : Str) : f__law_passed c ln st en = .ok (psd c ln st en) := by
  unfold f__law_passed psd lineO
  rw [forC_find' (p := fun l : Ln => decide (l.1 = ln)) (f := fun l => if st = en ∨ st ∉ l.2.2 ∨ en ∉ l.2.2 then none else some (seg l.2.2 (pos l.2.2 st) (pos l.2.2 en))) fun x hx => ?_]
  · cases List.find? _ c.2 <;> rfl
  · by_cases c1 : x.1 = ln
    · simp only [c1, decide_true, if_true]
      by_cases c2 : st = en ∨ st ∉ x.2.2 ∨ en ∉ x.2.2
      · rw [if_pos c2, if_pos (by simpa using c2)]
      · rw [if_neg c2, if_neg (by simpa using c2)]
        simp only [not_or, Decidable.not_not] at c2
        obtain ⟨_, h1, h2⟩ := c2
        have hl := (C.pt x hx).2.1
        rw [indR_mem h1, indR_mem h2]
        simp only [bind_ok]
        obtain ⟨_, l1, _⟩ := pos_at h1
        obtain ⟨_, l2, _⟩ := pos_at h2
        by_cases c3 : pos x.2.2 st < pos x.2.2 en
        · rw [if_pos (decide_eq_true (by omega)), comp_up x.2.2 l1 l2 c3 (by omega)]
          rfl
        · rw [if_neg (by simp; omega), comp_down x.2.2 l1 l2 c3 (by omega)]
          rfl
    · simp only [c1, decide_false, Bool.false_eq_true, if_false]
/-- the greatest ring that is passed -/
def top (c : Ct2) (p : List Str) (i j : Nat) : Int := maxL ((segv p i j).map (rv c))
theorem top_comm (c : Ct2) (p : List Str) (i j : Nat) : top c p i j = top c p j i := by unfold top; rw [segv_comm]
theorem top_seg (c : Ct2) {p : List Str} {i j : Nat} (hi : i < p.length) (hj : j < p.length) : maxL ((seg p i j).map (rv c)) = top c p i j := by
  refine maxL_eq (fun z => seg_ne hi hj (List.map_eq_nil_iff.mp z)) fun y => ?_
  simp only [List.mem_map, seg_mem]
theorem comp_rv {c : Ct2} {p : List Str} (hl : p.length ≤ 1000) (h : ∀ x ∈ p, x ∈ c.1.map (·.1)) : lcR p (fun _ => (Rs.ok true)) (fun x => getA c.1 x) = .ok (p.map (rv c)) := by
  rw [lcR_le (by omega)]
  exact lcG_map fun x hx => ⟨rfl, get_rv (h x hx)⟩
end S

/-! SM9: legs within a ring. -/
namespace S
open PySem PySem.Spec PyProof.Rows L2 DL
theorem min2_nat (a b : Nat) : min2 (a : Int) (b : Int) = ((min a b : Nat) : Int) := by
  unfold min2
  split <;> omega
theorem max2_nat (a b : Nat) : max2 (a : Int) (b : Int) = ((max a b : Nat) : Int) := by
  unfold max2
  split <;> omega
theorem cut_min {α : Type} (l : List α) {i j : Nat} (hi : i < l.length) (hj : j < l.length) : cutD l (some (min2 (i : Int) (j : Int))) (some (max2 (i : Int) (j : Int) + 1)) = segv l i j := by
  rw [min2_nat, max2_nat]
  have := cut_segv l (i := min i j) (j := max i j) (by omega) (by omega) (by omega)
  rw [this]
  unfold segv
  rw [show min (min i j) (max i j) = min i j by omega, show max (min i j) (max i j) = max i j by omega]
def legG (c : Ct2) (l : Ln) (st : Str) (zone : Int) (j : Nat) : Option Lg := (l.2.2[j]?).bind fun x => if j ≠ pos l.2.2 st ∧ top c l.2.2 (pos l.2.2 st) j ≤ zone then some (l.1, st, x) else none
def legsL (c : Ct2) (l : Ln) (st : Str) (zone : Int) : List Lg := if st ∈ l.2.2 then (List.range l.2.2.length).filterMap (legG c l st zone) else []
def legsW (c : Ct2) (st : Str) (zone : Int) : List Lg := (c.2.map fun l => legsL c l st zone).flatten
theorem range_fm {α : Type} (g : Nat → Option α) (k : Nat) : (List.range (k + 1)).filterMap g = (List.range k).filterMap g ++ (g k).toList := by
  rw [List.range_succ, List.filterMap_append]
  (congr 1) <;> (cases e : g k <;> simp [e])
theorem flat_at {α β : Type} (f : α → List β) {xs : List α} {k : Nat} {x : α} (h : xs[k]? = some x) : ((xs.take (k + 1)).map f).flatten = ((xs.take k).map f).flatten ++ f x := by
  rw [take_at h, List.map_append, List.flatten_append]
  simp
theorem flat_len {α β : Type} (f : α → List β) (n : Nat) : ∀ xs : List α, (∀ x ∈ xs, (f x).length ≤ n) → ((xs.map f).flatten).length ≤ n * xs.length
  | [], _ => by simp
  | x :: xs, h => by
    have h1 := h x List.mem_cons_self
    have h2 := flat_len f n xs fun y hy => h y (List.mem_cons_of_mem _ hy)
    rw [List.map_cons, List.flatten_cons, List.length_append, List.length_cons, Nat.mul_succ]
    omega
theorem legsL_len (c : Ct2) (l : Ln) (st : Str) (zone : Int) : (legsL c l st zone).length ≤ l.2.2.length := by
  unfold legsL
  split
  · refine Nat.le_trans (List.length_filterMap_le _ _) ?_
    rw [List.length_range]
    exact Nat.le_refl _
  · exact Nat.zero_le _
section
variable {c : Ct2} (C : CtOk c)
include C
theorem legsT_len (st : Str) (zone : Int) (k : Nat) : (((c.2.take k).map fun l => legsL c l st zone).flatten).length ≤ 192 := by
  have h1 := flat_len (fun l => legsL c l st zone) 12 (c.2.take k) fun l hl => Nat.le_trans (legsL_len c l st zone) (C.pt l (List.mem_of_mem_take hl)).2.1
  have h2 : (c.2.take k).length ≤ 16 := by
    have := C.ll
    rw [List.length_take]
    omega
  omega
theorem legsW_len (st : Str) (zone : Int) : (legsW c st zone).length ≤ 192 := by
  have := legsT_len C st zone c.2.length
  rwa [List.take_length] at this
/-- one turn over the lines -/
theorem f_legs (st : Str) (zone : Int) : f_legs_within c st zone = .ok (legsW c st zone) := by
  refine gv_is ?_
  unfold f_legs_within
  rw [rings_prog C, bind_ok]
  refine gv_forB (fun j (s : List Lg) => s = ((c.2.take j).map fun l => legsL c l st zone).flatten) (by simp) (fun j l hl s hs => ?_) fun s hs => ?_
  · have lm := List.mem_of_getElem? hl
    obtain ⟨p1, p2, p3, p4⟩ := C.pt l lm
    have len := legsT_len C st zone j
    rw [← hs] at len
    refine gv_letK (fun z => z = ((c.2.take (j + 1)).map fun l => legsL c l st zone).flatten) (fun z hz => gv_ok hz) fun k1 hk1 => ?_
    replace hk1 := fun z (hz : z = s ++ legsL c l st zone) => hk1 z (by rw [flat_at _ hl, ← hs]; exact hz)
    refine gv_ifd (fun hm => ?_) fun hm => hk1 _ (by unfold legsL; rw [if_neg hm, List.append_nil])
    rw [comp_rv (by omega) p4, bind_ok, indR_mem hm, bind_ok, List.length_map]
    obtain ⟨_, i1, i2⟩ := pos_at hm
    refine gv_rngB (n := l.2.2.length) (fun k (t : List Lg) => t = s ++ (List.range k).filterMap (legG c l st zone)) (by omega) (by simp) (fun k hk t ht => ?_) fun t ht => hk1 _ (by unfold legsL; rw [if_pos hm]; exact ht)
    have len2 : t.length ≤ 204 := by
      have := List.length_filterMap_le (legG c l st zone) (List.range k)
      rw [List.length_range] at this
      rw [ht, List.length_append]
      omega
    rw [cut_min _ (by rw [List.length_map]; exact i1) (by rw [List.length_map]; exact hk)]
    simp only [bind_ok]
    refine gv_letK (fun z => z = s ++ (List.range (k + 1)).filterMap (legG c l st zone)) (fun z hz => gv_ok hz) fun k2 hk2 => ?_
    replace hk2 := fun z (hz : z = t ++ (legG c l st zone k).toList) => hk2 z (by rw [range_fm, ← List.append_assoc, ← ht]; exact hz)
    have ek : l.2.2[k]? = some l.2.2[k] := List.getElem?_eq_getElem hk
    by_cases c1 : k = pos l.2.2 st
    · have e1 : (!decide ((k : Int) = ((pos l.2.2 st : Nat) : Int))) = false := by simp [c1]
      rw [e1]
      simp only [Bool.false_eq_true, if_false, bind_ok]
      refine hk2 _ ?_
      unfold legG
      rw [ek]
      simp [c1]
    · have e1 : (!decide ((k : Int) = ((pos l.2.2 st : Nat) : Int))) = true := by simp; omega
      rw [e1, segv_map, maxR_ok (fun z => by
        have := segv_len i1 hk
        rw [List.map_eq_nil_iff.mp z] at this
        simp at this
        omega)]
      simp only [if_true, bind_ok]
      refine gv_ifd (fun c2 => ?_) fun c2 => hk2 _ ?_
      · rw [ixR_k hk]
        simp only [bind_ok]
        refine gv_bind (gv_app (P := fun z => z = t ++ (legG c l st zone k).toList) (by omega) ?_) fun z hz => hk2 z hz
        unfold legG
        rw [ek]
        simp [c1, show top c l.2.2 (pos l.2.2 st) k ≤ zone from c2]
      · unfold legG
        rw [ek]
        simp [c1, show ¬ top c l.2.2 (pos l.2.2 st) k ≤ zone from c2]
  · rw [List.take_length] at hs
    exact gv_ok hs
end
end S

/-! SM10: legs that fit. -/
namespace S
open PySem PySem.Spec PyProof.Rows L2 DL
def exBR : Exn := exnOf "BadRide" ["row", "leg"] [.int 0, .int 0]
theorem f_fit (c : Ct2) (g : Lg) : f_fits c g = .ok (psd c g.1 g.2.1 g.2.2).isSome := by
  unfold f_fits psd
  rw [f_line, bind_ok]
  cases e : lineO c g.1 with
  | none => rfl
  | some l =>
    simp only [Option.isNone_some, Bool.false_eq_true, if_false, getO_some, bind_ok, Option.bind_some]
    by_cases h1 : g.2.1 ∈ l.2.2 <;> by_cases h2 : g.2.2 ∈ l.2.2 <;> by_cases h3 : g.2.1 = g.2.2 <;> simp [h1, h2, h3]
theorem psd_some {c : Ct2} {ln st en : Str} {p : List Str} (h : psd c ln st en = some p) : ∃ l, lineO c ln = some l ∧ st ∈ l.2.2 ∧ en ∈ l.2.2 ∧ st ≠ en ∧ p = seg l.2.2 (pos l.2.2 st) (pos l.2.2 en) := by
  unfold psd at h
  cases e : lineO c ln with
  | none => rw [e] at h; cases h
  | some l =>
    rw [e] at h
    simp only [Option.bind_some] at h
    split at h
    · cases h
    · rename_i q
      simp only [not_or, Decidable.not_not] at q
      cases h
      exact ⟨l, rfl, q.2.1, q.2.2, q.1, rfl⟩
section
variable {c : Ct2} (C : CtOk c)
include C
theorem f_passed_p (g : Lg) : f_passed_stops c g = match psd c g.1 g.2.1 g.2.2 with
    | none => .ex exBR
    | some p => .ok p := by
  unfold f_passed_stops
  rw [f_fit]
  cases e : psd c g.1 g.2.1 g.2.2 with
  | none => rfl
  | some p =>
    obtain ⟨l, hl, h1, h2, h3, rfl⟩ := psd_some e
    simp only [bind_ok, Option.isSome_some, Bool.not_true, Bool.false_eq_true, if_false]
    rw [f_line, hl]
    simp only [bind_ok, getO_some]
    rw [indR_mem h1, indR_mem h2]
    simp only [bind_ok]
    obtain ⟨_, l1, _⟩ := pos_at h1
    obtain ⟨_, l2, _⟩ := pos_at h2
    by_cases q : pos l.2.2 g.2.1 < pos l.2.2 g.2.2
    · rw [if_pos (decide_eq_true (by omega)), cut_segv _ l1 l2 (by omega)]
      unfold seg
      rw [if_pos q]
    · rw [if_neg (by simp; omega), cut_segv _ l2 l1 (by omega)]
      unfold seg
      rw [if_neg q, segv_comm]
theorem psd_in {ln st en : Str} {p : List Str} (h : psd c ln st en = some p) : p ≠ [] ∧ (∀ x ∈ p, x ∈ c.1.map (·.1)) ∧ p.length ≤ 12 := by
  obtain ⟨l, hl, h1, h2, h3, rfl⟩ := psd_some h
  obtain ⟨lm, _⟩ := line_some C hl
  obtain ⟨_, l1, _⟩ := pos_at h1
  obtain ⟨_, l2, _⟩ := pos_at h2
  obtain ⟨_, p2, _, p4⟩ := C.pt l lm
  exact ⟨seg_ne l1 l2, fun x hx => p4 x (segv_mem (seg_mem.mp hx)), by rw [seg_len l1 l2]; omega⟩
/-- the ring of what is passed -/
def ringP (c : Ct2) (p : List Str) : Int := maxL (p.map (rv c))
theorem rv_mem {s : St} (h : s ∈ c.1) : rv c s.1 = s.2 := by
  unfold rv
  rw [lookA_mem C.sn h]
  rfl
theorem f_ring_p (g : Lg) : f_leg_ring c g = match psd c g.1 g.2.1 g.2.2 with
    | none => .ex exBR
    | some p => .ok (ringP c p) := by
  unfold f_leg_ring
  rw [f_passed_p C]
  cases e : psd c g.1 g.2.1 g.2.2 with
  | none => rfl
  | some p =>
    obtain ⟨h1, h2, h3⟩ := psd_in C e
    have := C.sl
    simp only [bind_ok]
    rw [lcP_le (by omega), bind_ok]
    have hm : ∀ y, y ∈ (c.1.filter fun x2 => decide (x2.1 ∈ p)).map (fun x2 => x2.2) ↔ y ∈ p.map (rv c) := fun y => by
      simp only [List.mem_map, List.mem_filter, decide_eq_true_eq]
      constructor
      · rintro ⟨s, ⟨a, b⟩, rfl⟩
        exact ⟨s.1, b, rv_mem C a⟩
      · rintro ⟨x, hx, rfl⟩
        obtain ⟨s, hs, rfl⟩ := List.mem_map.mp (h2 x hx)
        exact ⟨s, ⟨hs, hx⟩, (rv_mem C hs).symm⟩
    have hne : (c.1.filter fun x2 => decide (x2.1 ∈ p)).map (fun x2 => x2.2) ≠ [] := fun z => by
      obtain ⟨x, hx⟩ := List.exists_mem_of_ne_nil p h1
      have := (hm (rv c x)).mpr (List.mem_map_of_mem hx)
      rw [z] at this
      cases this
    rw [maxR_ok hne]
    unfold ringP
    rw [maxL_eq hne hm]
theorem f_carrier_p (g : Lg) : f_leg_carrier c g = match psd c g.1 g.2.1 g.2.2 with
    | none => .ex exBR
    | some _ => match lineO c g.1 with
      | some l => .ok l.2.1
      | none => .bad := by
  unfold f_leg_carrier
  rw [f_fit]
  cases e : psd c g.1 g.2.1 g.2.2 with
  | none => rfl
  | some p =>
    obtain ⟨l, hl, h1, h2, h3, rfl⟩ := psd_some e
    simp only [bind_ok, Option.isSome_some, Bool.not_true, Bool.false_eq_true, if_false]
    rw [f_line, hl]
    rfl
end
end S

namespace K03
open PySem PySem.Spec PyProof.Rows L2 DL S
theorem cell (ns : List Int) (k : Nat) : ∃ c, f__law_cell ns (k : Int) = .ok c := by
  unfold f__law_cell
  by_cases h : k < ns.length
  · rw [if_pos (decide_eq_true (by omega)), ixR_k h]
    exact ⟨_, rfl⟩
  · rw [if_neg (by simp; omega)]
    exact ⟨_, rfl⟩
theorem cell' (ns : List Int) {i : Int} (h : 0 ≤ i) : ∃ c, f__law_cell ns i = .ok c := by
  obtain ⟨c, e⟩ := cell ns i.toNat
  exact ⟨c, by rw [← e]; congr 1; omega⟩
def ref : PyData := eP5 PyData.str PyData.int PyData.int PyData.bool PyData.bool ("refused", 0, 0, true, true)
theorem hand : (((oFld rz "row" (exD exBR)).bind fun a6 => ((oFld rz "leg" (exD exBR)).bind fun a7 => (((oIsE tb_FareError (exD exBR)).bind asB).bind fun a8 => (((oIsE tb_ValueError (exD exBR)).bind asB).bind fun a9 => (.ok (("refused" : Str), a6, a7, a8, a9)))))).bind fun a => .ok ((eP5 PyData.str id id PyData.bool PyData.bool) a)) = .ok ref := by kernel_rfl
theorem tbB : tb_BadRide.lookup exBR.cls = some true := by kernel_rfl
theorem ref_ok : okD 6 ref = true := by decide
theorem head_filter {α β : Type} {l : List α} {p : α → Bool} {x : α} (f : α → β) (h : l.find? p = some x) : ixR ((l.filter p).map f) 0 = .ok (f x) := by
  have := List.head?_filter (l := l) (p := p)
  rw [h] at this
  cases e : l.filter p with
  | nil => rw [e] at this; cases this
  | cons y ys =>
    rw [e] at this
    cases this
    rw [List.map_cons, ixR_0]
theorem asked {c : Ct2} (C : CtOk c) (g : Lg) (w : Int) (hw : w = 0 ∨ w = 1 ∨ w = 2 ∨ w = 3) : ∃ d, f__law_asked w c g = .ok d ∧ f__law_due w c g = .ok d ∧ okD 6 d = true := by
  unfold f__law_asked f__law_due
  rw [f_fit, f_passed_p C, f_ring_p C, f_carrier_p C, f_passed C, rings_law C]
  have s2 := C.ll
  cases e : psd c g.1 g.2.1 g.2.2 with
  | none =>
    rcases hw with rfl | rfl | rfl | rfl
    · exact ⟨eP2 PyData.str PyData.bool ("value", false), rfl, rfl, by decide⟩
    · exact ⟨ref, tryRF_ex tbB hand, rfl, ref_ok⟩
    · exact ⟨ref, tryRF_ex tbB hand, rfl, ref_ok⟩
    · exact ⟨ref, tryRF_ex tbB hand, rfl, ref_ok⟩
  | some p =>
    obtain ⟨h1, h2, h3⟩ := psd_in C e
    obtain ⟨l, hl, _⟩ := psd_some e
    rcases hw with rfl | rfl | rfl | rfl
    · exact ⟨eP2 PyData.str PyData.bool ("value", true), rfl, rfl, by decide⟩
    · exact ⟨eP2 PyData.str (eT PyData.str) ("value", p), rfl, rfl, okD_P2 rfl (okD_T (fun _ _ => rfl) (by dsimp only; omega))⟩
    · refine ⟨eP2 PyData.str PyData.int ("value", ringP c p), rfl, ?_, rfl⟩
      simp only [bind_ok, getO_some, Option.isNone_some, Bool.false_eq_true, if_false]
      rw [comp_rv (by omega) h2]
      simp only [bind_ok]
      rw [maxR_ok (fun z => h1 (List.map_eq_nil_iff.mp z))]
      rfl
    · refine ⟨eP2 PyData.str PyData.str ("value", l.2.1), ?_, ?_, rfl⟩
      · rw [hl]
        rfl
      · simp only [bind_ok, Option.isNone_some, Bool.false_eq_true, if_false]
        rw [lcP_le (by omega)]
        simp only [bind_ok]
        rw [head_filter (fun x7 : Ln => x7.2.1) hl]
        rfl
theorem nix {names : List Str} (h : 0 < names.length) (d : Int) : Gv ((modR d (names.length : Int)).bind fun a => ixR names a) fun _ => True := by
  have hp : (0 : Int) < (names.length : Int) := by omega
  rw [modR_ok hp, bind_ok]
  obtain ⟨x, e, _⟩ := gv_ix (xs := names) (Int.emod_nonneg d (by omega)) (Int.emod_lt_of_pos d hp)
  exact ⟨x, e, trivial⟩
theorem step_ok {c : Ct2} (C : CtOk c) (cell : Int) : Gv (f__law_step cell c) fun _ => True := by
  unfold f__law_step
  have s1 := C.sl
  have s2 := C.ll
  obtain ⟨os, e, d⟩ := f_draws_ok cell [9, 40, 40, 12, 40, 40] (by intro m hm; simp at hm; omega) (by decide)
  refine gv_bindE e ?_
  obtain ⟨d0, e0, _⟩ := gv_dr d (i := 0) 0 rfl rfl
  obtain ⟨d1, e1, _⟩ := gv_dr d (i := 1) 1 rfl rfl
  obtain ⟨d2, e2, _⟩ := gv_dr d (i := 2) 2 rfl rfl
  obtain ⟨d3, e3, _⟩ := gv_dr d (i := 3) 3 rfl rfl
  obtain ⟨d4, e4, _⟩ := gv_dr d (i := 4) 4 rfl rfl
  obtain ⟨d5, e5, _⟩ := gv_dr d (i := 5) 5 rfl rfl
  rw [lcP_all (by omega), lcP_all (by omega), e0, e1, e2, e3, e4, e5]
  simp only [bind_ok]
  rw [catR_le (by simp; omega), bind_ok, catR_le (by simp; omega), bind_ok]
  generalize hN : ((c.1.map fun x => x.1) ++ c.2.map fun x => x.1) ++ [("nowhere" : Str), ""] = N
  have lN : 0 < N.length := by
    rw [← hN]
    simp
    omega
  obtain ⟨n1, f1, _⟩ := nix lN d1
  obtain ⟨n2, f2, _⟩ := nix lN d2
  obtain ⟨n4, f4, _⟩ := nix lN d4
  obtain ⟨n5, f5, _⟩ := nix lN d5
  rw [f1, f2, f4, f5]
  simp only [bind_ok]
  by_cases hl : (c.2.length : Int) = 0
  · rw [if_pos (decide_eq_true hl)]
    simp only [bind_ok, if_true]
    exact gv_ok trivial
  · rw [if_neg (by simpa using hl), bind_ok]
    refine gv_ifd (fun _ => gv_ok trivial) fun _ => ?_
    have hp : (0 : Int) < (c.2.length : Int) := by omega
    rw [modR_ok hp, bind_ok]
    obtain ⟨l, el, hl2⟩ := gv_ix (xs := c.2) (Int.emod_nonneg d1 (by omega)) (Int.emod_lt_of_pos d1 hp)
    have pl := (C.pt l (List.mem_of_getElem? hl2)).1
    obtain ⟨m4, g4, _⟩ := nix (names := l.2.2) (by omega) d4
    obtain ⟨m5, g5, _⟩ := nix (names := l.2.2) (by omega) d5
    rw [el, bind_ok, g4, bind_ok, g5, bind_ok]
    refine gv_letK (fun _ => True) (fun z _ => gv_letK (fun _ => True) (fun w _ => gv_ifd (fun _ => gv_ok trivial) fun _ => gv_ok trivial) fun k hk => gv_ifd (fun _ => hk _ trivial) fun _ => hk _ trivial) fun k hk => gv_ifd (fun _ => hk _ trivial) fun _ => hk _ trivial
theorem law_typed (ns : List Int) (h : ns.length ≤ 63) : f_law ns = .ok true := by
  refine gv_is ?_
  unfold f_law
  obtain ⟨c0, e0⟩ := cell' ns (show (0 : Int) ≤ 0 by decide)
  obtain ⟨c1, e1⟩ := cell' ns (show (0 : Int) ≤ 1 by decide)
  obtain ⟨c2, e2⟩ := cell' ns (show (0 : Int) ≤ 2 by decide)
  obtain ⟨c3, e3⟩ := cell' ns (show (0 : Int) ≤ 3 by decide)
  refine gv_letK (fun z => z = (16, 30) ∨ z = (5, 8)) (fun z hz => ?_) fun k hk => ?_
  · obtain ⟨lines, most, rfl, hb1, hb2⟩ : ∃ lines most : Nat, z = ((lines : Int), (most : Int)) ∧ (5 ≤ most ∧ most ≤ 30) ∧ (lines ≤ 16 ∧ lines ≤ most) := by
      rcases hz with rfl | rfl
      · exact ⟨16, 30, rfl, by omega, by omega⟩
      · exact ⟨5, 8, rfl, by omega, by omega⟩
    rw [e0, e1, e2, e3]
    simp only [bind_ok]
    refine gv_bind (f_city2_ok c0 c1 most lines hb1 hb2) fun a ⟨A, _, _⟩ => ?_
    refine gv_bind (f_city2_ok c2 (c1 + c3 % 2) 8 5 (by decide) (by decide)) fun b ⟨B, _, _⟩ => ?_
    obtain ⟨n, en, hn⟩ : ∃ n : Nat, max2 (2 : Int) (min2 (ns.length : Int) 12) = (n : Int) ∧ n ≤ 12 := by
      refine ⟨(max2 (2 : Int) (min2 (ns.length : Int) 12)).toNat, ?_, ?_⟩ <;> (unfold max2 min2; split <;> split <;> omega)
    rw [en, rngR_nat (by omega), bind_ok, forC_all]
    · exact gv_ok rfl
    · intro x hx
      obtain ⟨k, _, rfl⟩ := List.mem_map.mp hx
      obtain ⟨cx, ex⟩ := cell' ns (show 0 ≤ 3 + (k : Int) by omega)
      rw [ex]
      simp only [bind_ok]
      rw [forC_all]
      · rfl
      · intro c hc
        have C : CtOk c := by
          simp at hc
          rcases hc with rfl | rfl | rfl
          · exact A
          · exact B
          · exact A
        obtain ⟨g, eg, _⟩ := step_ok C (cx + (k : Int))
        rw [eg, bind_ok, forC_all]
        · rfl
        · intro w hw
          obtain ⟨d, q1, q2, q3⟩ := asked C g w (by simp at hw; omega)
          rw [q1, q2]
          simp only [bind_ok]
          rw [f_same_ok q3]
          rfl
  · rw [e0]
    simp only [bind_ok]
    exact gv_ifd (fun _ => hk _ (.inl rfl)) fun _ => hk _ (.inr rfl)
theorem law_true (ns : List Int) (h : ns.length ≤ 63) : g_law [scr ns] = .ok (.bool true) := (h_law ns).ok (law_typed ns h)
end K03

namespace K03
open PySem PySem.Spec PyProof.Rows L2 DL S
/-! ### what the top has written -/
theorem all_mk {l : PySem.W.OpenLaw} {w : World} {K : PySem.W.Frag} {h : Heap} {mg : Str → Option Value} {fa f0 f1 f2 f3 f4 f5 f6 f7 f8 f9 f10 f11 f12 f13 f14 f15 : Addr} (X : K.In h) (G : h.Ns mainGlobals mg) (hfa : mg "law" = some (.ref fa))
    {od0 an0 : Option Addr} {sl0 : Array (Option Value)} {oc0 kV0 dc0 pm0 cd0 ct0 : Value}
    {od1 an1 : Option Addr} {sl1 : Array (Option Value)} {oc1 kV1 dc1 pm1 cd1 ct1 : Value}
    {od2 an2 : Option Addr} {sl2 : Array (Option Value)} {oc2 kV2 dc2 pm2 cd2 ct2 : Value}
    {od3 an3 : Option Addr} {sl3 : Array (Option Value)} {oc3 kV3 dc3 pm3 cd3 ct3 : Value}
    {od4 an4 : Option Addr} {sl4 : Array (Option Value)} {oc4 kV4 dc4 pm4 cd4 ct4 : Value}
    {od5 an5 : Option Addr} {sl5 : Array (Option Value)} {oc5 kV5 dc5 pm5 cd5 ct5 : Value}
    {od6 an6 : Option Addr} {sl6 : Array (Option Value)} {oc6 kV6 dc6 pm6 cd6 ct6 : Value}
    {od7 an7 : Option Addr} {sl7 : Array (Option Value)} {oc7 kV7 dc7 pm7 cd7 ct7 : Value}
    {od8 an8 : Option Addr} {sl8 : Array (Option Value)} {oc8 kV8 dc8 pm8 cd8 ct8 : Value}
    {od9 an9 : Option Addr} {sl9 : Array (Option Value)} {oc9 kV9 dc9 pm9 cd9 ct9 : Value}
    {od10 an10 : Option Addr} {sl10 : Array (Option Value)} {oc10 kV10 dc10 pm10 cd10 ct10 : Value}
    {od11 an11 : Option Addr} {sl11 : Array (Option Value)} {oc11 kV11 dc11 pm11 cd11 ct11 : Value}
    {od12 an12 : Option Addr} {sl12 : Array (Option Value)} {oc12 kV12 dc12 pm12 cd12 ct12 : Value}
    {od13 an13 : Option Addr} {sl13 : Array (Option Value)} {oc13 kV13 dc13 pm13 cd13 ct13 : Value}
    {od14 an14 : Option Addr} {sl14 : Array (Option Value)} {oc14 kV14 dc14 pm14 cd14 ct14 : Value}
    {od15 an15 : Option Addr} {sl15 : Array (Option Value)} {oc15 kV15 dc15 pm15 cd15 ct15 : Value}
    {C0 : Addr}
    {C1 : Addr}
    {I0 cc0 cda0 Nc0 : Addr} {nm0 q0 : Str} {bs0 bm0 sub0 : List Value} {sn0 : List Str} {ab0 : Bool} {col0 : Option Bool} {dd0 : Option Addr} {ka0 kb0 kc0 kd0 ke0 : Option Value}
    {io0 ik0 ix0 ip0 it0 if0 ig0 : Value} {id0 ia0 ih0 ii0 : Option Addr} {is0 ij0 il0 : Array (Option Value)} {vs0 : Array Value} {file0 : Str} {tf0 : Tok}
    (a0 : PySem.W.nsIn K mainGlobals "line_of" = some (some (.ref f0))) (l0 : K.lookup f0 = some ⟨oc0, od0, .func (PySem.W.fnOf "line_of" "line_of" (defArgs s_line_of) (defBody s_line_of) (defScope s_line_of) .none kV0 dc0 pm0 an0 cd0 ct0), sl0⟩) (c0 : PySem.W.codeIn K cd0 "line_of" = true) (k0 : PySem.W.keepIn K (.ref f0) = true)
    (a1 : PySem.W.nsIn K mainGlobals "_law_cell" = some (some (.ref f1))) (l1 : K.lookup f1 = some ⟨oc1, od1, .func (PySem.W.fnOf "_law_cell" "_law_cell" (defArgs s__law_cell) (defBody s__law_cell) (defScope s__law_cell) .none kV1 dc1 pm1 an1 cd1 ct1), sl1⟩) (c1 : PySem.W.codeIn K cd1 "_law_cell" = true) (k1 : PySem.W.keepIn K (.ref f1) = true)
    (a2 : PySem.W.nsIn K mainGlobals "_law_draws" = some (some (.ref f2))) (l2 : K.lookup f2 = some ⟨oc2, od2, .func (PySem.W.fnOf "_law_draws" "_law_draws" (defArgs s__law_draws) (defBody s__law_draws) (defScope s__law_draws) .none kV2 dc2 pm2 an2 cd2 ct2), sl2⟩) (c2 : PySem.W.codeIn K cd2 "_law_draws" = true) (k2 : PySem.W.keepIn K (.ref f2) = true)
    (a3 : PySem.W.nsIn K mainGlobals "_law_rings" = some (some (.ref f3))) (l3 : K.lookup f3 = some ⟨oc3, od3, .func (PySem.W.fnOf "_law_rings" "_law_rings" (defArgs s__law_rings) (defBody s__law_rings) (defScope s__law_rings) .none kV3 dc3 pm3 an3 cd3 ct3), sl3⟩) (c3 : PySem.W.codeIn K cd3 "_law_rings" = true) (k3 : PySem.W.keepIn K (.ref f3) = true)
    (a4 : PySem.W.nsIn K mainGlobals "_law_passed" = some (some (.ref f4))) (l4 : K.lookup f4 = some ⟨oc4, od4, .func (PySem.W.fnOf "_law_passed" "_law_passed" (defArgs s__law_passed) (defBody s__law_passed) (defScope s__law_passed) .none kV4 dc4 pm4 an4 cd4 ct4), sl4⟩) (c4 : PySem.W.codeIn K cd4 "_law_passed" = true) (k4 : PySem.W.keepIn K (.ref f4) = true)
    (a5 : PySem.W.nsIn K mainGlobals "fits" = some (some (.ref f5))) (l5 : K.lookup f5 = some ⟨oc5, od5, .func (PySem.W.fnOf "fits" "fits" (defArgs s_fits) (defBody s_fits) (defScope s_fits) .none kV5 dc5 pm5 an5 cd5 ct5), sl5⟩) (c5 : PySem.W.codeIn K cd5 "fits" = true) (k5 : PySem.W.keepIn K (.ref f5) = true)
    (a6 : PySem.W.nsIn K mainGlobals "_law_names" = some (some (.ref f6))) (l6 : K.lookup f6 = some ⟨oc6, od6, .func (PySem.W.fnOf "_law_names" "_law_names" (defArgs s__law_names) (defBody s__law_names) (defScope s__law_names) .none kV6 dc6 pm6 an6 cd6 ct6), sl6⟩) (c6 : PySem.W.codeIn K cd6 "_law_names" = true) (k6 : PySem.W.keepIn K (.ref f6) = true)
    (a7 : PySem.W.nsIn K mainGlobals "_law_due" = some (some (.ref f7))) (l7 : K.lookup f7 = some ⟨oc7, od7, .func (PySem.W.fnOf "_law_due" "_law_due" (defArgs s__law_due) (defBody s__law_due) (defScope s__law_due) .none kV7 dc7 pm7 an7 cd7 ct7), sl7⟩) (c7 : PySem.W.codeIn K cd7 "_law_due" = true) (k7 : PySem.W.keepIn K (.ref f7) = true)
    (a8 : PySem.W.nsIn K mainGlobals "_law_step" = some (some (.ref f8))) (l8 : K.lookup f8 = some ⟨oc8, od8, .func (PySem.W.fnOf "_law_step" "_law_step" (defArgs s__law_step) (defBody s__law_step) (defScope s__law_step) .none kV8 dc8 pm8 an8 cd8 ct8), sl8⟩) (c8 : PySem.W.codeIn K cd8 "_law_step" = true) (k8 : PySem.W.keepIn K (.ref f8) = true)
    (a9 : PySem.W.nsIn K mainGlobals "passed_stops" = some (some (.ref f9))) (l9 : K.lookup f9 = some ⟨oc9, od9, .func (PySem.W.fnOf "passed_stops" "passed_stops" (defArgs s_passed_stops) (defBody s_passed_stops) (defScope s_passed_stops) .none kV9 dc9 pm9 an9 cd9 ct9), sl9⟩) (c9 : PySem.W.codeIn K cd9 "passed_stops" = true) (k9 : PySem.W.keepIn K (.ref f9) = true)
    (a10 : PySem.W.nsIn K mainGlobals "leg_carrier" = some (some (.ref f10))) (l10 : K.lookup f10 = some ⟨oc10, od10, .func (PySem.W.fnOf "leg_carrier" "leg_carrier" (defArgs s_leg_carrier) (defBody s_leg_carrier) (defScope s_leg_carrier) .none kV10 dc10 pm10 an10 cd10 ct10), sl10⟩) (c10 : PySem.W.codeIn K cd10 "leg_carrier" = true) (k10 : PySem.W.keepIn K (.ref f10) = true)
    (a11 : PySem.W.nsIn K mainGlobals "_law_city" = some (some (.ref f11))) (l11 : K.lookup f11 = some ⟨oc11, od11, .func (PySem.W.fnOf "_law_city" "_law_city" (defArgs s__law_city) (defBody s__law_city) (defScope s__law_city) .none kV11 dc11 pm11 an11 cd11 ct11), sl11⟩) (c11 : PySem.W.codeIn K cd11 "_law_city" = true) (k11 : PySem.W.keepIn K (.ref f11) = true)
    (a12 : PySem.W.nsIn K mainGlobals "leg_ring" = some (some (.ref f12))) (l12 : K.lookup f12 = some ⟨oc12, od12, .func (PySem.W.fnOf "leg_ring" "leg_ring" (defArgs s_leg_ring) (defBody s_leg_ring) (defScope s_leg_ring) .none kV12 dc12 pm12 an12 cd12 ct12), sl12⟩) (c12 : PySem.W.codeIn K cd12 "leg_ring" = true) (k12 : PySem.W.keepIn K (.ref f12) = true)
    (a13 : PySem.W.nsIn K mainGlobals "_law_asked" = some (some (.ref f13))) (l13 : K.lookup f13 = some ⟨oc13, od13, .func (PySem.W.fnOf "_law_asked" "_law_asked" (defArgs s__law_asked) (defBody s__law_asked) (defScope s__law_asked) .none kV13 dc13 pm13 an13 cd13 ct13), sl13⟩) (c13 : PySem.W.codeIn K cd13 "_law_asked" = true) (k13 : PySem.W.keepIn K (.ref f13) = true)
    (a14 : PySem.W.nsIn K mainGlobals "_law_same" = some (some (.ref f14))) (l14 : K.lookup f14 = some ⟨oc14, od14, .func (PySem.W.fnOf "_law_same" "_law_same" (defArgs s__law_same) (defBody s__law_same) (defScope s__law_same) .none kV14 dc14 pm14 an14 cd14 ct14), sl14⟩) (c14 : PySem.W.codeIn K cd14 "_law_same" = true) (k14 : PySem.W.keepIn K (.ref f14) = true)
    (a15 : PySem.W.nsIn K mainGlobals "law" = some (some (.ref f15))) (l15 : K.lookup f15 = some ⟨oc15, od15, .func (PySem.W.fnOf "law" "law" (defArgs s_law) (defBody s_law) (defScope s_law) .none kV15 dc15 pm15 an15 cd15 ct15), sl15⟩) (c15 : PySem.W.codeIn K cd15 "law" = true) (k15 : PySem.W.keepIn K (.ref f15) = true)
    (z_ValueError : PySem.W.nsIn K mainGlobals "ValueError" = some none)
    (z_bool : PySem.W.nsIn K mainGlobals "bool" = some none)
    (z_int : PySem.W.nsIn K mainGlobals "int" = some none)
    (z_isinstance : PySem.W.nsIn K mainGlobals "isinstance" = some none)
    (z_len : PySem.W.nsIn K mainGlobals "len" = some none)
    (z_max : PySem.W.nsIn K mainGlobals "max" = some none)
    (z_min : PySem.W.nsIn K mainGlobals "min" = some none)
    (z_range : PySem.W.nsIn K mainGlobals "range" = some none)
    (z_str : PySem.W.nsIn K mainGlobals "str" = some none)
    (z_tuple : PySem.W.nsIn K mainGlobals "tuple" = some none)
    (zz_super : PySem.W.nsIn K mainGlobals "super" = some none)
    (zz_noc : PySem.W.nsIn K cStatics "thirdparty.any" = some none)
    (zz_top : (l.prog.main.scope.names.lookup ("super" : Str)).isSome = false)
    (zz_sp : PySem.W.specialIn K (.builtin "object.__class__") "__get__" = some (some (.builtin "getset_descriptor.__get__")))
    (zz_tk : PySem.W.takesIn K (.builtin "object.__class__") = some true)
    (ca0 : PySem.W.nsIn K mainGlobals "BadRide" = some (some (.ref C0)))
    (ca1 : PySem.W.nsIn K mainGlobals "FareError" = some (some (.ref C1)))
    (cx0 : excAt K "BadRide" = some C0)
    (cl0 : K.lookup C0 = some (excClassObj nm0 q0 C0 Nc0 bs0 bm0 true sn0 sub0 ab0 col0 dd0 ka0 kb0 kc0 kd0 ke0 "ValueError.__new__"))
    (cr0 : PySem.HandSPX.refsVE bm0 = true)
    (cs0 : PySem.W.findIn K (.ref C0) "__setattr__" = some (some (.builtin "object.__setattr__")))
    (cb0 : PySem.W.subIn K (.ref C0) (.type "BaseException") = some true)
    (cT0 : PySem.W.typeIn K (.ref C0) = some (.type "type"))
    (ck0 : PySem.W.keepIn K (.ref C0) = true)
    (ci0 : PySem.W.findIn K (.ref C0) "__init__" = some (some (.ref I0)))
    (cj0 : PySem.W.typeIn K (.ref I0) = some (.type "function"))
    (cm0 : K.lookup I0 = some ⟨io0, id0, .func (PySem.W.fnX "__init__" "BadRide.__init__" (defArgs s_i_BadRide) (defBody s_i_BadRide) (defScope s_i_BadRide) [(("__class__" : Str), cc0)] .none ik0 ix0 ip0 ia0 (.ref cda0) it0), is0⟩)
    (cn0 : PySem.W.codeIn K (.ref cda0) "BadRide.__init__" = true)
    (co0 : K.lookup cda0 = some ⟨if0, ih0, .fields vs0, ij0⟩)
    (cp0 : vs0[2]? = some (.str file0 tf0))
    (cq0 : ((l.prog.main.file : Str) == file0) = true)
    (cv0 : K.lookup cc0 = some ⟨ig0, ii0, .cell (some (.ref C0)), il0⟩)
    (cw0 : PySem.W.ks_superIn K C0 C0 "__init__" = some (some (.builtin "ValueError.__init__")))
    (cy0 : PySem.W.mroIn K C0 (.ref C0) = some true)
    (cz0 : PySem.W.subIn K (.ref C0) (.type "ValueError") = some true)
    (cf0_row : PySem.W.findIn K (.ref C0) "row" = some none)
    (cf0_leg : PySem.W.findIn K (.ref C0) "leg" = some none)
    (ei0 : (PySem.W.clsIn K C0).isSome = true)
    (eg0 : PySem.W.findIn K (.ref C0) "__getattribute__" = some (some (.builtin "BaseException.__getattribute__")))
    (ek0 : PySem.W.findIn K (.ref C0) "__getattr__" = some none)
    (eh0 : PySem.W.hasDictIn K C0 = true)
    (ec0 : PySem.W.findIn K (.ref C0) "__class__" = some (some (.builtin "object.__class__")))
    (eo0 : PySem.W.mroIn K C0 (.type "object") = some true)
    (pq0_FareError : PySem.W.kitOne K (.ref C0) (.ref C1) = some true)
    (pq0_ValueError : PySem.W.kitOne K (.ref C0) (.type "ValueError") = some true)
    (pw0_BadRide : PySem.W.exmOne K (.ref C0) (.ref C0) = some true) :
    ∃ fd : FuncData, (∀ (s : Shared) (v : Value), BindsTo s fd ⟨[v], []⟩ [("script", v)]) ∧ ∀ base : Heap, K.In base → base.Ns mainGlobals mg → FnOk l.prog w K mg base (L2.CX l.prog w) 7 fa fd ["script"] (spD K mg g_law) := by
  have e := hfa.symm.trans (PySem.W.mg_of X G a15)
  cases e
  have F0 := fun_mk (st := s_line_of) l0 c0 k0
  have b0 := F0.binds (ps := ["city", "name"]) fun _ _ _ _ _ _ us hl => match us, hl with | [_, _], _ => rfl
  have F1 := fun_mk (st := s__law_cell) l1 c1 k1
  have b1 := F1.binds (ps := ["script", "k"]) fun _ _ _ _ _ _ us hl => match us, hl with | [_, _], _ => rfl
  have F2 := fun_mk (st := s__law_draws) l2 c2 k2
  have b2 := F2.binds (ps := ["cell", "sizes"]) fun _ _ _ _ _ _ us hl => match us, hl with | [_, _], _ => rfl
  have F3 := fun_mk (st := s__law_rings) l3 c3 k3
  have b3 := F3.binds (ps := ["city"]) fun _ _ _ _ _ _ us hl => match us, hl with | [_], _ => rfl
  have F4 := fun_mk (st := s__law_passed) l4 c4 k4
  have b4 := F4.binds (ps := ["city", "line", "start", "end"]) fun _ _ _ _ _ _ us hl => match us, hl with | [_, _, _, _], _ => rfl
  have F5 := fun_mk (st := s_fits) l5 c5 k5
  have b5 := F5.binds (ps := ["city", "leg"]) fun _ _ _ _ _ _ us hl => match us, hl with | [_, _], _ => rfl
  have F6 := fun_mk (st := s__law_names) l6 c6 k6
  have b6 := F6.binds (ps := ["cell", "many"]) fun _ _ _ _ _ _ us hl => match us, hl with | [_, _], _ => rfl
  have F7 := fun_mk (st := s__law_due) l7 c7 k7
  have b7 := F7.binds (ps := ["which", "city", "step"]) fun _ _ _ _ _ _ us hl => match us, hl with | [_, _, _], _ => rfl
  have F8 := fun_mk (st := s__law_step) l8 c8 k8
  have b8 := F8.binds (ps := ["cell", "city"]) fun _ _ _ _ _ _ us hl => match us, hl with | [_, _], _ => rfl
  have F9 := fun_mk (st := s_passed_stops) l9 c9 k9
  have b9 := F9.binds (ps := ["city", "leg"]) fun _ _ _ _ _ _ us hl => match us, hl with | [_, _], _ => rfl
  have F10 := fun_mk (st := s_leg_carrier) l10 c10 k10
  have b10 := F10.binds (ps := ["city", "leg"]) fun _ _ _ _ _ _ us hl => match us, hl with | [_, _], _ => rfl
  have F11 := fun_mk (st := s__law_city) l11 c11 k11
  have b11 := F11.binds (ps := ["cell", "other", "most", "lines"]) fun _ _ _ _ _ _ us hl => match us, hl with | [_, _, _, _], _ => rfl
  have F12 := fun_mk (st := s_leg_ring) l12 c12 k12
  have b12 := F12.binds (ps := ["city", "leg"]) fun _ _ _ _ _ _ us hl => match us, hl with | [_, _], _ => rfl
  have F13 := fun_mk (st := s__law_asked) l13 c13 k13
  have b13 := F13.binds (ps := ["which", "city", "step"]) fun _ _ _ _ _ _ us hl => match us, hl with | [_, _, _], _ => rfl
  have F14 := fun_mk (st := s__law_same) l14 c14 k14
  have b14 := F14.binds (ps := ["actual", "due"]) fun _ _ _ _ _ _ us hl => match us, hl with | [_, _], _ => rfl
  have F15 := fun_mk (st := s_law) l15 c15 k15
  have b15 := F15.binds (ps := ["script"]) fun _ _ _ _ _ _ us hl => match us, hl with | [_], _ => rfl
  refine ⟨PySem.W.fnOf "law" "law" (defArgs s_law) (defBody s_law) (defScope s_law) .none kV15 dc15 pm15 an15 cd15 ct15, fun s v => .of_eq rfl, fun base _ _ => ?_⟩
  have m_ValueError := PySem.W.mg_none_of X G z_ValueError
  have m_bool := PySem.W.mg_none_of X G z_bool
  have m_int := PySem.W.mg_none_of X G z_int
  have m_isinstance := PySem.W.mg_none_of X G z_isinstance
  have m_len := PySem.W.mg_none_of X G z_len
  have m_max := PySem.W.mg_none_of X G z_max
  have m_min := PySem.W.mg_none_of X G z_min
  have m_range := PySem.W.mg_none_of X G z_range
  have m_str := PySem.W.mg_none_of X G z_str
  have m_tuple := PySem.W.mg_none_of X G z_tuple
  have m_super := PySem.W.mg_none_of X G zz_super
  have O0 := oexc_mk cl0 cr0 cs0 cb0 cT0 ck0
  have J0 := initk_mk (P := l.prog) (mg := mg) (C := C0) cm0 cn0 co0 cp0 cq0 cv0 m_super zz_top zz_noc cw0 cy0 cz0
  have x_BadRide := exck2 (w := w) (base := base) tx_BadRide (PySem.W.mg_of X G ca0) cx0 O0 ci0 cj0 J0 cf0_row cf0_leg (Binds.all fun us hl => match us, hl with | [_, _, _], _ => rfl)
  have E0 : ExcF K C0 := ⟨ei0, eg0, ek0, cb0, eh0, ec0, zz_sp, zz_tk, eo0⟩
  have q_FareError : AskC K mg "FareError" tb_FareError := ⟨_, PySem.W.mg_of X G ca1, (isTbl_cons cx0 E0 pq0_FareError isTbl_nil)⟩
  have q_ValueError : IsTbl K (.type "ValueError") tb_ValueError := (isTbl_cons cx0 E0 pq0_ValueError isTbl_nil)
  have w_BadRide : TakeC K mg "BadRide" tb_BadRide := ⟨_, PySem.W.mg_of X G ca0, (tblOk_cons cx0 pw0_BadRide tblOk_nil)⟩
  have f_leg : FldOk K rz "leg" := (fldOk_cons cx0 E0 cf0_leg fldOk_nil)
  have f_row : FldOk K rz "row" := (fldOk_cons cx0 E0 cf0_row fldOk_nil)
  have c_line_of := ok_line_of (P := l.prog) (w := w) (K := K) (mg := mg) (base := base) F0 b0 (PySem.W.mg_of X G a0)
  have c__law_cell := ok__law_cell (P := l.prog) (w := w) (K := K) (mg := mg) (base := base) F1 b1 (PySem.W.mg_of X G a1) m_int m_len
  have c__law_draws := ok__law_draws (P := l.prog) (w := w) (K := K) (mg := mg) (base := base) F2 b2 (PySem.W.mg_of X G a2) m_int m_len m_range
  have c__law_rings := ok__law_rings (P := l.prog) (w := w) (K := K) (mg := mg) (base := base) F3 b3 (PySem.W.mg_of X G a3)
  have c__law_passed := ok__law_passed (P := l.prog) (w := w) (K := K) (mg := mg) (base := base) F4 b4 (PySem.W.mg_of X G a4) m_range m_tuple
  have c_fits := ok_fits (P := l.prog) (w := w) (K := K) (mg := mg) (base := base) F5 b5 (PySem.W.mg_of X G a5) c_line_of
  have c__law_names := ok__law_names (P := l.prog) (w := w) (K := K) (mg := mg) (base := base) F6 b6 (PySem.W.mg_of X G a6) m_int m_range m_str c__law_draws
  have c__law_due := ok__law_due (P := l.prog) (w := w) (K := K) (mg := mg) (base := base) F7 b7 (PySem.W.mg_of X G a7) m_max c__law_passed c__law_rings
  have c__law_step := ok__law_step (P := l.prog) (w := w) (K := K) (mg := mg) (base := base) F8 b8 (PySem.W.mg_of X G a8) m_len c__law_draws
  have c_passed_stops := ok_passed_stops (P := l.prog) (w := w) (K := K) (mg := mg) (base := base) F9 b9 (PySem.W.mg_of X G a9) x_BadRide c_fits c_line_of
  have c_leg_carrier := ok_leg_carrier (P := l.prog) (w := w) (K := K) (mg := mg) (base := base) F10 b10 (PySem.W.mg_of X G a10) x_BadRide c_fits c_line_of
  have c__law_city := ok__law_city (P := l.prog) (w := w) (K := K) (mg := mg) (base := base) F11 b11 (PySem.W.mg_of X G a11) m_int m_len m_range m_tuple c__law_draws c__law_names
  have c_leg_ring := ok_leg_ring (P := l.prog) (w := w) (K := K) (mg := mg) (base := base) F12 b12 (PySem.W.mg_of X G a12) m_max c_passed_stops
  have c__law_asked := ok__law_asked (P := l.prog) (w := w) (K := K) (mg := mg) (base := base) F13 b13 (PySem.W.mg_of X G a13) m_ValueError m_isinstance q_FareError q_ValueError w_BadRide f_leg f_row c_fits c_leg_carrier c_leg_ring c_passed_stops
  have c__law_same := ok__law_same (P := l.prog) (w := w) (K := K) (mg := mg) (base := base) F14 b14 (PySem.W.mg_of X G a14) m_bool m_int m_isinstance m_len m_range m_str m_tuple 6
  exact ok_law (P := l.prog) (w := w) (K := K) (mg := mg) (base := base) F15 m_int m_len m_max m_min m_range c__law_asked c__law_cell c__law_city c__law_due c__law_same c__law_step
end K03
open PySem PySem.W PyProof.Rows
set_option maxHeartbeats 0 in
theorem PySem.Challenge.cw_roundsfare_k03_legs_of_lines_holds : PySem.Challenge.rw_roundsfare_k03_legs_of_lines.Holds := by
  w_on; o_law; k_head; (case hw => w_witness2)
  k_fill
  refine L2.walk_of (l := PySem.Challenge.rw_roundsfare_k03_legs_of_lines) (n := 63) (k := 7) (x := "script") (CX := fun w => L2.CX (PySem.Challenge.rw_roundsfare_k03_legs_of_lines).prog w) (sp := fun w => DL.spL _) rfl (by decide) rfl ⟨rfl, by decide, by decide⟩ (fun w h Y => PySem.W.kIn_of Y) ?F (fun _ _ a ns hl _ hS => ⟨a, ns, rfl, hS, hl, fun _ => rfl⟩) (fun _ _ _ _ _ h => DL.cx_no h)
  case F =>
    intro w mg fa h KX G hmg
    refine' DL.law_end (K03.all_mk (l := PySem.Challenge.rw_roundsfare_k03_legs_of_lines) (w := w) KX G hmg ?a0 ?l0 ?c0 ?k0 ?a1 ?l1 ?c1 ?k1 ?a2 ?l2 ?c2 ?k2 ?a3 ?l3 ?c3 ?k3 ?a4 ?l4 ?c4 ?k4 ?a5 ?l5 ?c5 ?k5 ?a6 ?l6 ?c6 ?k6 ?a7 ?l7 ?c7 ?k7 ?a8 ?l8 ?c8 ?k8 ?a9 ?l9 ?c9 ?k9 ?a10 ?l10 ?c10 ?k10 ?a11 ?l11 ?c11 ?k11 ?a12 ?l12 ?c12 ?k12 ?a13 ?l13 ?c13 ?k13 ?a14 ?l14 ?c14 ?k14 ?a15 ?l15 ?c15 ?k15 ?z_ValueError ?z_bool ?z_int ?z_isinstance ?z_len ?z_max ?z_min ?z_range ?z_str ?z_tuple ?zz_super ?zz_noc ?zz_top ?zz_sp ?zz_tk ?ca0 ?ca1 ?cx0 ?cl0 ?cr0 ?cs0 ?cb0 ?cT0 ?ck0 ?ci0 ?cj0 ?cm0 ?cn0 ?co0 ?cp0 ?cq0 ?cv0 ?cw0 ?cy0 ?cz0 ?cf0_row ?cf0_leg ?ei0 ?eg0 ?ek0 ?eh0 ?ec0 ?eo0 ?pq0_FareError ?pq0_ValueError ?pw0_BadRide) K03.law_true
    (case a0 => k_is); (case l0 => k_is); (case c0 => k_is); (case k0 => k_is); (case a1 => k_is); (case l1 => k_is); (case c1 => k_is); (case k1 => k_is); (case a2 => k_is); (case l2 => k_is); (case c2 => k_is); (case k2 => k_is); (case a3 => k_is); (case l3 => k_is); (case c3 => k_is); (case k3 => k_is); (case a4 => k_is); (case l4 => k_is); (case c4 => k_is); (case k4 => k_is); (case a5 => k_is); (case l5 => k_is); (case c5 => k_is); (case k5 => k_is); (case a6 => k_is); (case l6 => k_is); (case c6 => k_is); (case k6 => k_is); (case a7 => k_is); (case l7 => k_is); (case c7 => k_is); (case k7 => k_is); (case a8 => k_is); (case l8 => k_is); (case c8 => k_is); (case k8 => k_is); (case a9 => k_is); (case l9 => k_is); (case c9 => k_is); (case k9 => k_is); (case a10 => k_is); (case l10 => k_is); (case c10 => k_is); (case k10 => k_is); (case a11 => k_is); (case l11 => k_is); (case c11 => k_is); (case k11 => k_is); (case a12 => k_is); (case l12 => k_is); (case c12 => k_is); (case k12 => k_is); (case a13 => k_is); (case l13 => k_is); (case c13 => k_is); (case k13 => k_is); (case a14 => k_is); (case l14 => k_is); (case c14 => k_is); (case k14 => k_is); (case a15 => k_is); (case l15 => k_is); (case c15 => k_is); (case k15 => k_is); (case z_ValueError => k_is); (case z_bool => k_is); (case z_int => k_is); (case z_isinstance => k_is); (case z_len => k_is); (case z_max => k_is); (case z_min => k_is); (case z_range => k_is); (case z_str => k_is); (case z_tuple => k_is); (case zz_super => k_is); (case zz_noc => k_is); (case zz_top => kernel_rfl); (case zz_sp => k_is); (case zz_tk => k_is); (case ca0 => k_is); (case ca1 => k_is); (case cx0 => kernel_rfl); (case cl0 => k_is); (case cr0 => kernel_rfl); (case cs0 => k_is); (case cb0 => k_is); (case cT0 => k_is); (case ck0 => k_is); (case ci0 => k_is); (case cj0 => k_is); (case cm0 => k_is); (case cn0 => k_is); (case co0 => k_is); (case cp0 => exact rfl); (case cq0 => kernel_rfl); (case cv0 => k_is); (case cw0 => kernel_rfl); (case cy0 => k_is); (case cz0 => k_is); (case cf0_row => k_is); (case cf0_leg => k_is); (case ei0 => kernel_rfl); (case eg0 => k_is); (case ek0 => k_is); (case eh0 => k_is); (case ec0 => k_is); (case eo0 => k_is); (case pq0_FareError => kernel_rfl); (case pq0_ValueError => kernel_rfl); (case pw0_BadRide => kernel_rfl)
