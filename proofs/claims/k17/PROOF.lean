import PyProof.Rows.All
import Wide.All
import OpenK.AllK
import Wide.FinOn
import HandS.ForMost
import HandS.Lambda
import HandS.IsInst
import HandS.TupAny
import HandS.Deep
import HandS.Conv
import KE.GoesEnum
import KE.SortData
import HandS.ListItems
import HandS.DictTup
import HandS.NoneIn
import HandS.DictComp
import HandS.SetKeys
import HandS.Zip
import HandS.Strs
import HandS.SetFor
import HandS.TupSets
import HandS.RaiseMore
import KE.SortLaws
import HandS.Style
import KE.KSortTup
import PySem.Challenge.RW_foursfold_k17_whole_one_folded_queue_and
set_option Elab.async false
set_option linter.all false
set_option maxRecDepth 100000
section
/-! DH: values as trees, a store of lists that change; expressions and statements by rules on their syntax. -/
namespace DH
open PySem L2

/-- a value as a tree; `acc k` is the k-th list of the store -/
inductive D where
  | non | bl (b : Bool) | int (i : Int) | str (x : Str)
  | lst (ds : List D) | tup (ds : List D)
  /-- a list that is read alone -/
  | fix (ds : List D)
  /-- a tuple without attributes of its own -/
  | pt (ds : List D)
  | obj (C : Addr) (ns : List Str) (ds : List D)
  | acc (k : Nat)
  | raw (v : V)
  /-- a caught exception: its address, its own dict's, its one field -/
  | exc (a dd : Addr) (att : Str) (d : D)
/-- a cell: a list that changes, an instance that changes -/
inductive Cl where
  | l (ds : List D)
  | o (C : Addr) (ns : List Str) (ds : List D)
  /-- a dict: int tuples to texts -/
  | d (es : List (List Int × Str))
  /-- dicts by ints and texts, by tuples of them -/
  | kd (es : List (L2.Key × D))
  | td (es : List (List L2.Key × D))
  /-- the table at P of code objects of the name q -/
  | tb (P : Addr) (q : Str)
abbrev Sto := List Cl
abbrev Rho := List (Option D)

/-- a list that may be read and is none of A; or one of the module's own -/
def Rl (K : PySem.W.Frag) (A : List Addr) (H : Hp) (a : Addr) (xs : List V) : Prop :=
  (a ∉ A ∧ Rd H a (.lst xs)) ∨ SqL K (fun _ => none) a xs
def Rt (K : PySem.W.Frag) (A : List Addr) (H : Hp) (a : Addr) (xs : List V) : Prop :=
  (a ∉ A ∧ Rd H a (.tup xs)) ∨ SqT K (fun _ => none) a xs
theorem rd_none {a : Addr} {u : HO} (h : Rd (fun _ => none) a u) : False := by
  rcases h with h | ⟨_, h⟩ <;> cases h
theorem Rl.sq {K : PySem.W.Frag} {A : List Addr} {H : Hp} {a : Addr} {xs : List V} (h : Rl K A H a xs) : SqL K H a xs := by
  rcases h with ⟨_, h⟩ | h | h
  · exact .inl h
  · exact (rd_none h).elim
  · exact .inr h
theorem Rt.sq {K : PySem.W.Frag} {A : List Addr} {H : Hp} {a : Addr} {xs : List V} (h : Rt K A H a xs) : SqT K H a xs := by
  rcases h with ⟨_, h⟩ | h | h
  · exact .inl h
  · exact (rd_none h).elim
  · exact .inr h

mutual
inductive Da (K : PySem.W.Frag) (A : List Addr) (H : Hp) : V → D → Prop
  | non : Da K A H .non .non
  | bl (b : Bool) : Da K A H (.bl b) (.bl b)
  | int (i : Int) : Da K A H (.int i) (.int i)
  | str (x : Str) : Da K A H (.str x) (.str x)
  | lst {a : Addr} {xs : List V} {ds : List D} : a ∉ A → H a = some (.lst xs) → Das K A H xs ds → Da K A H (.ref a) (.lst ds)
  | fix {a : Addr} {xs : List V} {ds : List D} : Rl K A H a xs → Das K A H xs ds → Da K A H (.ref a) (.fix ds)
  | tup {a : Addr} {xs : List V} {ds : List D} : a ∉ A → H a = some (.tup xs) → Das K A H xs ds → Da K A H (.ref a) (.tup ds)
  | pt {a : Addr} {o : Obj} {xs : List V} {ds : List D} : a ∉ A → H a = some (.frz o (.tup xs)) → o.cls = .type "tuple" → o.dict = none → Das K A H xs ds → Da K A H (.ref a) (.pt ds)
  | obj {a C dx : Addr} {ns : List Str} {xs : List V} {ds : List D} : a ∉ A → H a = some (.ins C dx (ns.zip xs)) → Das K A H xs ds → Da K A H (.ref a) (.obj C ns ds)
  | acc {a : Addr} {k : Nat} : A[k]? = some a → Da K A H (.ref a) (.acc k)
  | raw (v : V) : Da K A H v (.raw v)
  | exc {a dd : Addr} {att : Str} {v : V} {d : D} : dd ∉ A → H dd = some (.xd [(att, v)]) → Da K A H v d → Da K A H (.ref a) (.exc a dd att d)
inductive Das (K : PySem.W.Frag) (A : List Addr) (H : Hp) : List V → List D → Prop
  | nil : Das K A H [] []
  | cons {v : V} {vs : List V} {d : D} {ds : List D} : Da K A H v d → Das K A H vs ds → Das K A H (v :: vs) (d :: ds)
end

/-- what stands behind: new cells B, all that is none of A as it was -/
def NoTb (o : HO) : Prop := ∀ ps, o ≠ .tbl ps
structure Gr (A : List Addr) (H : Hp) (B : List Addr) (H' : Hp) : Prop where
  new : ∀ b ∈ B, b ∉ A ∧ ∀ o, H b = some o → ¬ NoTb o
  old : ∀ a o, a ∉ A → H a = some o → NoTb o → H' a = some o
theorem Gr.refl (A : List Addr) (H : Hp) : Gr A H [] H := ⟨fun _ h => absurd h (by simp), fun _ _ _ h _ => h⟩
theorem Gr.at_ {A B : List Addr} {H H' : Hp} (g : Gr A H B H') (a : Addr) (o : HO) (ha : a ∉ A) (h : H a = some o) (n : NoTb o := by intro _ z; cases z) : H' a = some o := g.old a o ha h n

section
variable {K : PySem.W.Frag} {A B : List Addr} {H H' : Hp}
theorem rd_mono {a : Addr} {u : HO} (g : Gr A H B H') (ha : a ∉ A) (h : Rd H a u) (n : NoTb u := by intro _ z; cases z) : Rd H' a u := by
  rcases h with h | ⟨o, h⟩
  · exact .inl (g.at_ _ _ ha h n)
  · exact .inr ⟨o, g.at_ _ _ ha h⟩
theorem not_new {a : Addr} {o : HO} (g : Gr A H B H') (ha : a ∉ A) (h : H a = some o) (n : NoTb o := by intro _ z; cases z) : a ∉ A ++ B := by
  intro z
  rcases List.mem_append.mp z with z | z
  · exact ha z
  · exact (g.new a z).2 o h n
theorem rd_new {a : Addr} {u : HO} (g : Gr A H B H') (ha : a ∉ A) (h : Rd H a u) (n : NoTb u := by intro _ z; cases z) : a ∉ A ++ B := by
  rcases h with h | ⟨o, h⟩
  · exact not_new g ha h n
  · exact not_new g ha h
theorem Rl.mono {a : Addr} {xs : List V} (g : Gr A H B H') (h : Rl K A H a xs) : Rl K (A ++ B) H' a xs := by
  rcases h with ⟨h1, h2⟩ | h
  · exact .inl ⟨rd_new g h1 h2, rd_mono g h1 h2⟩
  · exact .inr h
theorem Rt.mono {a : Addr} {xs : List V} (g : Gr A H B H') (h : Rt K A H a xs) : Rt K (A ++ B) H' a xs := by
  rcases h with ⟨h1, h2⟩ | h
  · exact .inl ⟨rd_new g h1 h2, rd_mono g h1 h2⟩
  · exact .inr h
theorem ix_app {k : Nat} {a : Addr} (h : A[k]? = some a) : (A ++ B)[k]? = some a := by
  have hk := (List.getElem?_eq_some_iff.mp h).1
  rw [List.getElem?_append_left hk]; exact h
mutual
theorem Da.mono (g : Gr A H B H') : ∀ {v : V} {d : D}, Da K A H v d → Da K (A ++ B) H' v d
  | _, _, .non => .non
  | _, _, .bl b => .bl b
  | _, _, .int i => .int i
  | _, _, .str x => .str x
  | _, _, .lst n e h => .lst (not_new g n e) (g.at_ _ _ n e) (Das.mono g h)
  | _, _, .fix r h => .fix (r.mono g) (Das.mono g h)
  | _, _, .tup n e h => .tup (not_new g n e) (g.at_ _ _ n e) (Das.mono g h)
  | _, _, .pt n e c d h => .pt (not_new g n e) (g.at_ _ _ n e) c d (Das.mono g h)
  | _, _, .obj n e h => .obj (not_new g n e) (g.at_ _ _ n e) (Das.mono g h)
  | _, _, .acc e => .acc (ix_app e)
  | _, _, .raw v => .raw v
  | _, _, .exc n e h => .exc (not_new g n e) (g.at_ _ _ n e) (Da.mono g h)
theorem Das.mono (g : Gr A H B H') : ∀ {vs : List V} {ds : List D}, Das K A H vs ds → Das K (A ++ B) H' vs ds
  | _, _, .nil => .nil
  | _, _, .cons h t => .cons (Da.mono g h) (Das.mono g t)
end
theorem Das.length : ∀ {vs : List V} {ds : List D}, Das K A H vs ds → vs.length = ds.length
  | _, _, .nil => rfl
  | _, _, .cons _ t => congrArg (· + 1) t.length
theorem Das.get : ∀ {vs : List V} {ds : List D} {i : Nat} {d : D}, Das K A H vs ds → ds[i]? = some d → ∃ v, vs[i]? = some v ∧ Da K A H v d
  | _, _, _, _, .nil, e => by simp at e
  | _, _, 0, _, .cons h _, e => by simp at e; subst e; exact ⟨_, rfl, h⟩
  | _, _, i + 1, d, .cons _ t, e => by
    obtain ⟨v, h1, h2⟩ := Das.get (i := i) (d := d) t (by simpa using e)
    exact ⟨v, by simpa using h1, h2⟩
theorem Das.app : ∀ {vs ws : List V} {ds es : List D}, Das K A H vs ds → Das K A H ws es → Das K A H (vs ++ ws) (ds ++ es)
  | _, _, _, _, .nil, s => s
  | _, _, _, _, .cons h t, s => .cons h (Das.app t s)
theorem Das.take : ∀ {vs : List V} {ds : List D} (n : Nat), Das K A H vs ds → Das K A H (vs.take n) (ds.take n)
  | _, _, 0, _ => .nil
  | _, _, _ + 1, .nil => .nil
  | _, _, n + 1, .cons r t => .cons r (Das.take n t)
theorem Das.drop : ∀ {vs : List V} {ds : List D} (n : Nat), Das K A H vs ds → Das K A H (vs.drop n) (ds.drop n)
  | _, _, 0, r => r
  | _, _, _ + 1, .nil => .nil
  | _, _, n + 1, .cons _ t => Das.drop n t
theorem Das.set {v : V} {d : D} (r : Da K A H v d) : ∀ {vs : List V} {ds : List D} (i : Nat), Das K A H vs ds → Das K A H (vs.set i v) (ds.set i d)
  | _, _, _, .nil => .nil
  | _, _, 0, .cons _ t => .cons r t
  | _, _, i + 1, .cons q t => .cons q (Das.set r i t)
theorem Das.ints : ∀ ns : List Int, Das K A H (ns.map V.int) (ns.map D.int)
  | [] => .nil
  | n :: r => .cons (.int n) (Das.ints r)

/-- pairs and their trees -/
inductive Pr (K : PySem.W.Frag) (A : List Addr) (H : Hp) {κ : Type} : List (κ × V) → List (κ × D) → Prop
  | nil : Pr K A H [] []
  | cons {k : κ} {v : V} {d : D} {vs : List (κ × V)} {ds : List (κ × D)} : Da K A H v d → Pr K A H vs ds → Pr K A H ((k, v) :: vs) ((k, d) :: ds)
theorem Pr.mono {κ : Type} (g : Gr A H B H') : ∀ {vs : List (κ × V)} {ds : List (κ × D)}, Pr K A H vs ds → Pr K (A ++ B) H' vs ds
  | _, _, .nil => .nil
  | _, _, .cons h t => .cons (h.mono g) (Pr.mono g t)

/-- the object of a cell -/
def CellIs (K : PySem.W.Frag) (A : List Addr) (H : Hp) (o : HO) : Cl → Prop
  | .l ds => ∃ xs, o = .lst xs ∧ Das K A H xs ds
  | .o C ns ds => ∃ dx xs, o = .ins C dx (ns.zip xs) ∧ xs.length = ns.length ∧ Das K A H xs ds
  | .d es => o = .dT (es.map fun p => (p.1.map Sum.inl, V.str p.2))
  | .kd es => ∃ vs, o = .dK vs ∧ Pr K A H vs es
  | .td es => ∃ vs, o = .dT vs ∧ Pr K A H vs es
  | .tb _ q => ∃ ps : Array Value, o = .tbl ps ∧ TriplesOk ps.toList ∧ ∀ (pos : Pos) (cv : Value), codeAmong pos ps.toList = some cv → ∃ c, cv = .ref c ∧ c ∉ A ∧ H c = some (LamX.CodeO c q)
def CellOk (K : PySem.W.Frag) (A : List Addr) (H : Hp) (a : Addr) (c : Cl) : Prop := ∃ o, H a = some o ∧ CellIs K A H o c
theorem CellIs.mono {o : HO} (g : Gr A H B H') : ∀ {c : Cl}, CellIs K A H o c → CellIs K (A ++ B) H' o c
  | .l _, ⟨xs, e, q⟩ => ⟨xs, e, q.mono g⟩
  | .o _ _ _, ⟨dx, xs, e, l, q⟩ => ⟨dx, xs, e, l, q.mono g⟩
  | .d _, e => e
  | .kd _, ⟨vs, e, q⟩ => ⟨vs, e, q.mono g⟩
  | .td _, ⟨vs, e, q⟩ => ⟨vs, e, q.mono g⟩
  | .tb _ _, ⟨ps, e, t, h⟩ => ⟨ps, e, t, fun pos cv hc => let ⟨c, e1, n, e2⟩ := h pos cv hc; ⟨c, e1, not_new g n e2, g.at_ _ _ n e2⟩⟩
theorem CellOk.mono {a : Addr} (g : Gr A H B H') (h : ∀ o, H a = some o → H' a = some o) {c : Cl} : CellOk K A H a c → CellOk K (A ++ B) H' a c
  | ⟨o, e, q⟩ => ⟨o, h _ e, q.mono g⟩
/-- the store's cells as they stand -/
structure So (K : PySem.W.Frag) (A : List Addr) (H : Hp) (α : Sto) : Prop where
  len : A.length = α.length
  nd : A.Nodup
  cell : ∀ (k : Nat) (a : Addr) (c : Cl), A[k]? = some a → α[k]? = some c → CellOk K A H a c
  own : ∀ (k : Nat) (a P : Addr) (q : Str), A[k]? = some a → α[k]? = some (.tb P q) → a = P
theorem So.getC {α : Sto} {k : Nat} {c : Cl} (s : So K A H α) (h : α[k]? = some c) : ∃ a, A[k]? = some a ∧ CellOk K A H a c := by
  have hk := (List.getElem?_eq_some_iff.mp h).1
  have hA : k < A.length := by rw [s.len]; exact hk
  exact ⟨_, by simp [hA], s.cell k A[k] c (by simp [hA]) h⟩
theorem So.get {α : Sto} {k : Nat} {ds : List D} (s : So K A H α) (h : α[k]? = some (.l ds)) : ∃ a xs, A[k]? = some a ∧ H a = some (.lst xs) ∧ Das K A H xs ds := by
  obtain ⟨a, e, _, h1, xs, rfl, h2⟩ := s.getC h
  exact ⟨a, xs, e, h1, h2⟩
theorem So.there {α : Sto} {a : Addr} (s : So K A H α) (h : a ∈ A) : ∃ o, H a = some o := by
  obtain ⟨k, hk, e⟩ := List.mem_iff_getElem.mp h
  have hα : k < α.length := by rw [← s.len]; exact hk
  obtain ⟨o, h, _⟩ := s.cell k a α[k] (by simp [hk, e]) (by simp [hα])
  exact ⟨o, h⟩
theorem Gr.trans {A B C : List Addr} {H H1 H2 : Hp} {α : Sto} (g : Gr A H B H1) (s : So K (A ++ B) H1 α) (g' : Gr (A ++ B) H1 C H2) : Gr A H (B ++ C) H2 := by
  refine ⟨fun b hb => ?_, fun a o ha h n => g'.old a o (not_new g ha h n) (g.old a o ha h n) n⟩
  rcases List.mem_append.mp hb with hb | hb
  · exact g.new b hb
  · obtain ⟨n1, n2⟩ := g'.new b hb
    have nA : b ∉ A := fun z => n1 (List.mem_append_left _ z)
    exact ⟨nA, fun o e n => n2 o (g.old b o nA e n) n⟩
/-- nothing of the store's lists has changed -/
theorem So.same {α : Sto} (s : So K A H α) (g : ∀ a o, H a = some o → H' a = some o) : So K A H' α := by
  refine ⟨s.len, s.nd, fun k a c h1 h2 => ?_, s.own⟩
  have := (s.cell k a c h1 h2).mono (B := []) ⟨fun _ h => absurd h (by simp), fun a o _ h _ => g a o h⟩ (g a)
  rwa [List.append_nil] at this
theorem gr_same (g : ∀ a o, H a = some o → H' a = some o) : Gr A H [] H' := ⟨fun _ h => absurd h (by simp), fun a o _ h _ => g a o h⟩
theorem gr_new {p : Addr} {o : HO} (h : H p = none) : ∀ a u, H a = some u → upd H p o a = some u := fun a u e => by
  rw [upd_ne (ne_of_none e h)]; exact e
/-- a new object becomes a cell -/
theorem So.cellNew {α : Sto} {p : Addr} {o : HO} {c : Cl} (s : So K A H α) (h : H p = none) (q : CellIs K A H o c) (hw : ∀ P q, c ≠ .tb P q := by intro _ _ z; cases z) : So K (A ++ [p]) (upd H p o) (α ++ [c]) ∧ Gr A H [p] (upd H p o) := by
  have np : p ∉ A := fun z => by
    obtain ⟨ys, e⟩ := s.there z
    rw [h] at e; cases e
  have g : Gr A H [p] (upd H p o) := ⟨fun b hb => by simp at hb; subst hb; exact ⟨np, fun o e => by rw [h] at e; cases e⟩, fun a u _ e _ => gr_new h a u e⟩
  refine ⟨⟨by simp [s.len], ?_, fun k a es h1 h2 => ?_, fun k a P q h1 h2 => ?_⟩, g⟩
  rotate_left 2
  · by_cases hk : k < A.length
    · rw [List.getElem?_append_left hk] at h1
      rw [List.getElem?_append_left (by rw [← s.len]; exact hk)] at h2
      exact s.own k a P q h1 h2
    · have hk' : k = A.length := by
        have := (List.getElem?_eq_some_iff.mp h1).1
        simp at this; omega
      subst hk'
      rw [s.len, List.getElem?_append_right (Nat.le_refl _)] at h2
      simp at h2
      exact absurd h2 (hw P q)
  · rw [List.nodup_append]
    exact ⟨s.nd, by simp, fun a ha b hb => by simp at hb; subst hb; exact fun e => np (e ▸ ha)⟩
  · by_cases hk : k < A.length
    · rw [List.getElem?_append_left hk] at h1
      rw [List.getElem?_append_left (by rw [← s.len]; exact hk)] at h2
      exact (s.cell k a es h1 h2).mono g (gr_new h a)
    · have hk' : k = A.length := by
        have := (List.getElem?_eq_some_iff.mp h1).1
        simp at this; omega
      subst hk'
      rw [List.getElem?_append_right (Nat.le_refl _)] at h1
      rw [s.len, List.getElem?_append_right (Nat.le_refl _)] at h2
      simp at h1 h2
      subst h1; subst h2
      exact ⟨o, upd_same, q.mono g⟩
/-- a cell is written -/
theorem So.put {α : Sto} {k : Nat} {a : Addr} {o : HO} {c : Cl} (s : So K A H α) (hk : A[k]? = some a) (q : CellIs K A H o c) (hw : ∀ P q, c ≠ .tb P q := by intro _ _ z; cases z) : So K A (upd H a o) (α.set k c) ∧ Gr A H [] (upd H a o) := by
  have ha : a ∈ A := List.mem_of_getElem? hk
  have g : Gr A H [] (upd H a o) := ⟨fun _ h => absurd h (by simp), fun b u hb e _ => by
    have nb : b ≠ a := fun z => hb (by rw [z]; exact ha)
    rw [upd_ne nb]; exact e⟩
  refine ⟨⟨by simp [s.len], s.nd, fun j b es h1 h2 => ?_, fun j b P q h1 h2 => ?_⟩, g⟩
  rotate_left
  · by_cases hj : j = k
    · subst hj
      have hl : j < α.length := by rw [← s.len]; exact (List.getElem?_eq_some_iff.mp hk).1
      rw [List.getElem?_set_self hl] at h2
      exact absurd (Option.some.inj h2) (hw P q)
    · rw [List.getElem?_set_ne (Ne.symm hj)] at h2
      exact s.own j b P q h1 h2
  by_cases hj : j = k
  · subst hj
    rw [hk] at h1; cases h1
    have hl : j < α.length := by rw [← s.len]; exact (List.getElem?_eq_some_iff.mp hk).1
    rw [List.getElem?_set_self hl] at h2
    cases h2
    have := q.mono g
    rw [List.append_nil] at this
    exact ⟨o, upd_same, this⟩
  · rw [List.getElem?_set_ne (Ne.symm hj)] at h2
    have hne : b ≠ a := fun z => by
      subst z
      obtain ⟨l1, e1⟩ := List.getElem?_eq_some_iff.mp h1
      obtain ⟨l2, e2⟩ := List.getElem?_eq_some_iff.mp hk
      exact hj ((List.getElem_inj s.nd).mp (e1.trans e2.symm))
    have := (s.cell j b es h1 h2).mono g fun u e => by rw [upd_ne hne]; exact e
    rwa [List.append_nil] at this
end

/-- the slots and the store as they are told -/
structure Rep (K : PySem.W.Frag) (A : List Addr) (H : Hp) (σ : L2.St) (ρ : Rho) (α : Sto) : Prop where
  so : So K A H α
  len : σ.length = ρ.length
  slot : ∀ (i : Nat) (d : D), ρ[i]? = some (some d) → ∃ v, σ[i]? = some (some v) ∧ Da K A H v d
section
variable {K : PySem.W.Frag} {A B : List Addr} {H H' : Hp} {σ : L2.St} {ρ : Rho} {α α' : Sto}
theorem Rep.mono (r : Rep K A H σ ρ α) (g : Gr A H B H') (s : So K (A ++ B) H' α') : Rep K (A ++ B) H' σ ρ α' :=
  ⟨s, r.len, fun i d h => let ⟨v, e, q⟩ := r.slot i d h; ⟨v, e, q.mono g⟩⟩
theorem Rep.put {i : Nat} {v : V} {d : D} (r : Rep K A H σ ρ α) (q : Da K A H v d) : Rep K A H (σ.set i (some v)) (ρ.set i (some d)) α := by
  refine ⟨r.so, by simp [r.len], fun j e h => ?_⟩
  by_cases hj : j = i
  · subst hj
    have hl := (List.getElem?_eq_some_iff.mp h).1
    simp at hl
    rw [List.getElem?_set_self hl] at h
    cases h
    exact ⟨v, List.getElem?_set_self (by rw [r.len]; exact hl), q⟩
  · rw [List.getElem?_set_ne (Ne.symm hj)] at h ⊢
    exact r.slot j e h
theorem Rep.app0 (r : Rep K (A ++ []) H σ ρ α) : Rep K A H σ ρ α := by rwa [List.append_nil] at r
end
end DH

end

section
/-! DH, expressions and tests. -/
namespace DH
open PySem L2
abbrev RE := D → Sto → Prop
/-- what is wanted of a value, told of its tree -/
def Con (K : PySem.W.Frag) (A : List Addr) (H : Hp) (R : RE) (Q : VK) : Prop :=
  ∀ v d B α' H', R d α' → Gr A H B H' → So K (A ++ B) H' α' → Da K (A ++ B) H' v d → Q v H'
def ConA (K : PySem.W.Frag) (A : List Addr) (H : Hp) (R : List D → Sto → Prop) (Q : List V → Hp → Prop) : Prop :=
  ∀ v d B α' H', R d α' → Gr A H B H' → So K (A ++ B) H' α' → Das K (A ++ B) H' v d → Q v H'
def ConT (K : PySem.W.Frag) (A : List Addr) (H : Hp) (R : Bool → Sto → Prop) (Q : Bool → Hp → Prop) : Prop :=
  ∀ b B α' H', R b α' → Gr A H B H' → So K (A ++ B) H' α' → Q b H'
section
variable {K : PySem.W.Frag} {A B : List Addr} {H H1 : Hp} {α1 : Sto}
theorem Con.step {R : RE} {Q : VK} (c : Con K A H R Q) (g : Gr A H B H1) (s : So K (A ++ B) H1 α1) : Con K (A ++ B) H1 R Q :=
  fun v d B' α' H' r g' s' q => c v d (B ++ B') α' H' r (g.trans s g') (by rw [← List.append_assoc]; exact s') (by rw [← List.append_assoc]; exact q)
theorem ConA.step {R : List D → Sto → Prop} {Q : List V → Hp → Prop} (c : ConA K A H R Q) (g : Gr A H B H1) (s : So K (A ++ B) H1 α1) : ConA K (A ++ B) H1 R Q :=
  fun v d B' α' H' r g' s' q => c v d (B ++ B') α' H' r (g.trans s g') (by rw [← List.append_assoc]; exact s') (by rw [← List.append_assoc]; exact q)
theorem ConT.step {R : Bool → Sto → Prop} {Q : Bool → Hp → Prop} (c : ConT K A H R Q) (g : Gr A H B H1) (s : So K (A ++ B) H1 α1) : ConT K (A ++ B) H1 R Q :=
  fun b B' α' H' r g' s' => c b (B ++ B') α' H' r (g.trans s g') (by rw [← List.append_assoc]; exact s')
/-- at once -/
theorem Con.now {R : RE} {Q : VK} {α : Sto} {v : V} {d : D} (c : Con K A H R Q) (s : So K A H α) (q : Da K A H v d) (r : R d α) : Q v H :=
  c v d [] α H r (Gr.refl A H) (by rw [List.append_nil]; exact s) (by rw [List.append_nil]; exact q)
theorem ConA.now {R : List D → Sto → Prop} {Q : List V → Hp → Prop} {α : Sto} {v : List V} {d : List D} (c : ConA K A H R Q) (s : So K A H α) (q : Das K A H v d) (r : R d α) : Q v H :=
  c v d [] α H r (Gr.refl A H) (by rw [List.append_nil]; exact s) (by rw [List.append_nil]; exact q)
theorem ConT.now {R : Bool → Sto → Prop} {Q : Bool → Hp → Prop} {α : Sto} {b : Bool} (c : ConT K A H R Q) (s : So K A H α) (r : R b α) : Q b H :=
  c b [] α H r (Gr.refl A H) (by rw [List.append_nil]; exact s)
/-- a new object that is no cell -/
theorem Con.new {R : RE} {Q : VK} {α : Sto} {d : D} {p : Addr} {o : HO} (c : Con K A H R Q) (s : So K A H α) (hp : H p = none) (q : Da K A (upd H p o) (.ref p) d) (r : R d α) : Q (.ref p) (upd H p o) := by
  have g := gr_new (o := o) hp
  exact c _ d [] α _ r (gr_same g) (by rw [List.append_nil]; exact s.same g) (by rw [List.append_nil]; exact q)
theorem not_cell {α : Sto} {p : Addr} (s : So K A H α) (hp : H p = none) : p ∉ A := fun z => by
  obtain ⟨xs, e⟩ := s.there z
  rw [hp] at e; cases e
theorem Das.new {p : Addr} {o : HO} {xs : List V} {ds : List D} (hp : H p = none) (q : Das K A H xs ds) : Das K A (upd H p o) xs ds := by
  have := Das.mono (B := []) (gr_same (A := A) (gr_new (o := o) hp)) q
  rwa [List.append_nil] at this
theorem Da.new {p : Addr} {o : HO} {v : V} {d : D} (hp : H p = none) (q : Da K A H v d) : Da K A (upd H p o) v d := by
  have := Da.mono (B := []) (gr_same (A := A) (gr_new (o := o) hp)) q
  rwa [List.append_nil] at this
theorem Con.newL {R : RE} {Q : VK} {α : Sto} {xs : List V} {ds : List D} {p : Addr} (c : Con K A H R Q) (s : So K A H α) (hp : H p = none) (q : Das K A H xs ds) (r : R (.lst ds) α) : Q (.ref p) (upd H p (.lst xs)) :=
  c.new s hp (.lst (not_cell s hp) upd_same (q.new hp)) r
theorem Con.newT {R : RE} {Q : VK} {α : Sto} {xs : List V} {ds : List D} {p : Addr} (c : Con K A H R Q) (s : So K A H α) (hp : H p = none) (q : Das K A H xs ds) (r : R (.tup ds) α) : Q (.ref p) (upd H p (.tup xs)) :=
  c.new s hp (.tup (not_cell s hp) upd_same (q.new hp)) r
/-- a new list as a cell -/
theorem Con.newC {R : RE} {Q : VK} {α : Sto} {xs : List V} {ds : List D} {p : Addr} (c : Con K A H R Q) (s : So K A H α) (hp : H p = none) (q : Das K A H xs ds) (r : R (.acc α.length) (α ++ [.l ds])) : Q (.ref p) (upd H p (.lst xs)) := by
  obtain ⟨s', g⟩ := s.cellNew (c := .l ds) hp ⟨xs, rfl, q⟩
  refine c _ _ [p] _ _ r g s' (.acc ?_)
  rw [← s.len, List.getElem?_append_right (Nat.le_refl _)]
  simp
end

/-- the list of a cell -/
def cellL : Option Cl → Option (List D)
  | some (.l ds) => some ds
  | _ => none
theorem cellL_iff {c : Option Cl} {ds : List D} : cellL c = some ds ↔ c = some (.l ds) := by
  cases c with
  | none => simp [cellL]
  | some c => cases c <;> simp [cellL]
/-- what stands in a list or tuple -/
def cont (α : Sto) : D → Option (List D)
  | .lst ds => some ds
  | .fix ds => some ds
  | .tup ds => some ds
  | .pt ds => some ds
  | .acc k => cellL α[k]?
  | _ => none
theorem cont_acc {α : Sto} {k : Nat} {ds : List D} : cont α (.acc k) = some ds ↔ α[k]? = some (.l ds) := cellL_iff
def isT : D → Bool
  | .tup _ => true
  | .pt _ => true
  | _ => false
section
variable {K : PySem.W.Frag} {A : List Addr} {H : Hp} {α : Sto}
theorem readSeq {v : V} {d : D} {ds : List D} (s : So K A H α) (q : Da K A H v d) (h : cont α d = some ds) : ∃ a xs, v = .ref a ∧ ((isT d = false ∧ SqL K H a xs) ∨ (isT d = true ∧ SqT K H a xs)) ∧ Das K A H xs ds := by
  cases q with
  | lst n e r => cases h; exact ⟨_, _, rfl, .inl ⟨rfl, .inl (.inl e)⟩, r⟩
  | fix r q => cases h; exact ⟨_, _, rfl, .inl ⟨rfl, r.sq⟩, q⟩
  | tup n e q => cases h; exact ⟨_, _, rfl, .inr ⟨rfl, .inl (.inl e)⟩, q⟩
  | pt n e _ _ q => cases h; exact ⟨_, _, rfl, .inr ⟨rfl, .inl (.inr ⟨_, e⟩)⟩, q⟩
  | acc e =>
    obtain ⟨a, xs, h1, h2, h3⟩ := s.get (cont_acc.mp h)
    rw [e] at h1; cases h1
    exact ⟨_, xs, rfl, .inl ⟨rfl, .inl (.inl h2)⟩, h3⟩
  | non => cases h
  | bl => cases h
  | int => cases h
  | str => cases h
  | obj => cases h
  | raw => cases h
  | exc => cases h
theorem readSeq' {v : V} {d : D} {ds : List D} (s : So K A H α) (q : Da K A H v d) (h : cont α d = some ds) : ∃ a xs, v = .ref a ∧ (SqL K H a xs ∨ SqT K H a xs) ∧ Das K A H xs ds := by
  obtain ⟨a, xs, e, h, r⟩ := readSeq s q h
  exact ⟨a, xs, e, h.elim (fun z => .inl z.2) (fun z => .inr z.2), r⟩
theorem atI_das {xs : List V} {ds : List D} {i : Int} {d : D} (q : Das K A H xs ds) (h : atI ds i = some d) : ∃ v, atI xs i = some v ∧ Da K A H v d := by
  unfold atI at h ⊢
  rw [q.length]
  cases e : ixN ds.length i with
  | none => rw [e] at h; cases h
  | some j =>
    rw [e] at h
    exact q.get h
end

/-- two operands, three, by values -/
def OD (K : PySem.W.Frag) (r : R2) (d1 d2 : D) (α : Sto) (R : RE) : Prop :=
  ∀ A H x y, So K A H α → Da K A H x d1 → Da K A H y d2 → ∀ Q, Con K A H R Q → r x y H Q
def CD (K : PySem.W.Frag) (r : List V → Hp → VK → Prop) (ds : List D) (α : Sto) (R : RE) : Prop :=
  ∀ A H xs, So K A H α → Das K A H xs ds → ∀ Q, Con K A H R Q → r xs H Q

section
variable {X : Cx}
def wpE (X : Cx) (e : Expr) : TE := fun σ H Q => ∀ pins s, Inv X pins σ H s → wpAny (model X.prog X.w) X.A (eval e X.env) (EP X pins σ Q) X.xe s
def wpA (X : Cx) (es : List Expr) : TA := fun σ H Q => ∀ pos pins s, Inv X pins σ H s → wpAny (model X.prog X.w) X.A (spliced (backTo pos (starEach es X.env))) (AP X pins σ Q) X.xe s
def wpT (X : Cx) (e : Expr) : TT := fun σ H Q => ∀ pins s, Inv X pins σ H s → wpAny (model X.prog X.w) X.A (isTrue e X.env (eval e X.env)) (TP X pins σ Q) X.xe s
def wpW (X : Cx) (e : Expr) : TT := fun σ H Q => ∀ whole pins s, Inv X pins σ H s → wpAny (model X.prog X.w) X.A (isTrue e X.env whole) (TP X pins σ Q) X.xe s
theorem pe_wp {e : Expr} : PE X e (wpE X e) := ⟨fun pins s _ _ _ I h => h pins s I⟩
theorem pa_wp {es : List Expr} : PA X es (wpA X es) := ⟨fun pos pins s _ _ _ I h => h pos pins s I⟩
theorem pt_wp {e : Expr} : PT X e (wpT X e) := ⟨fun pins s _ _ _ I h => h pins s I⟩
theorem pw_wp {e : Expr} : PW X e (wpW X e) := ⟨fun w pins s _ _ _ I h => h w pins s I⟩
theorem wp_of {e : Expr} {t : TE} {σ : L2.St} {H : Hp} {Q : VK} (h : PE X e t) (q : t σ H Q) : wpE X e σ H Q := fun pins s I => h.run pins s σ H Q I q
theorem wpa_of {es : List Expr} {t : TA} {σ : L2.St} {H : Hp} {Q : List V → Hp → Prop} (h : PA X es t) (q : t σ H Q) : wpA X es σ H Q := fun pos pins s I => h.run pos pins s σ H Q I q
theorem wpt_of {e : Expr} {t : TT} {σ : L2.St} {H : Hp} {Q : Bool → Hp → Prop} (h : PT X e t) (q : t σ H Q) : wpT X e σ H Q := fun pins s I => h.run pins s σ H Q I q
theorem wpw_of {e : Expr} {t : TT} {σ : L2.St} {H : Hp} {Q : Bool → Hp → Prop} (h : PW X e t) (q : t σ H Q) : wpW X e σ H Q := fun w pins s I => h.run w pins s σ H Q I q

def DE (X : Cx) (e : Expr) (ρ : Rho) (α : Sto) (R : RE) : Prop := ∀ A σ H Q, Rep X.K A H σ ρ α → Con X.K A H R Q → wpE X e σ H Q
def DA (X : Cx) (es : List Expr) (ρ : Rho) (α : Sto) (R : List D → Sto → Prop) : Prop := ∀ A σ H Q, Rep X.K A H σ ρ α → ConA X.K A H R Q → wpA X es σ H Q
def DT (X : Cx) (e : Expr) (ρ : Rho) (α : Sto) (R : Bool → Sto → Prop) : Prop := ∀ A σ H Q, Rep X.K A H σ ρ α → ConT X.K A H R Q → wpT X e σ H Q
def DW (X : Cx) (e : Expr) (ρ : Rho) (α : Sto) (R : Bool → Sto → Prop) : Prop := ∀ A σ H Q, Rep X.K A H σ ρ α → ConT X.K A H R Q → wpW X e σ H Q
variable {ρ : Rho} {α : Sto} {R : RE} {a b c e : Expr} {es rest : List Expr} {pos p : Pos} {x : Str}
theorem DE.imp {R' : RE} (h : DE X e ρ α R) (i : ∀ d α', R d α' → R' d α') : DE X e ρ α R' := fun A σ H Q r c => h A σ H Q r fun v d B α' H' z => c v d B α' H' (i _ _ z)
theorem DT.imp {R R' : Bool → Sto → Prop} (h : DT X e ρ α R) (i : ∀ d α', R d α' → R' d α') : DT X e ρ α R' := fun A σ H Q r c => h A σ H Q r fun b B α' H' z => c b B α' H' (i _ _ z)

/-! ### names, constants -/
theorem de_var (i : Nat) {d : D} (hρ : ρ[i]? = some (some d)) (hR : R d α) (hN : X.N[i]? = some x := by rfl)
    (hv : Vis X.env.scope x := by first | exact Or.inl rfl | exact Or.inr (Or.inl rfl) | exact Or.inr (Or.inr rfl))
    (hd : (x == ("__debug__" : Str)) = false := by decide) (hcd : (x == ("__classdict__" : Str)) = false := by decide) : DE X (.Name x pos) ρ α R := by
  intro A σ H Q r c
  obtain ⟨v, e, q⟩ := r.slot i d hρ
  exact wp_of (pe_var hN hv hd hcd) ⟨v, e, c.now r.so q hR⟩
theorem de_int {i : Int} {j} (hR : R (.int i) α) : DE X (.Constant (.int i) j pos) ρ α R := fun A σ H Q r c => wp_of pe_int (c.now r.so (.int i) hR)
theorem de_bl {i : Bool} {j} (hR : R (.bl i) α) : DE X (.Constant (.bool i) j pos) ρ α R := fun A σ H Q r c => wp_of pe_bl (c.now r.so (.bl i) hR)
theorem de_non {j} (hR : R .non α) : DE X (.Constant .none j pos) ρ α R := fun A σ H Q r c => wp_of pe_non (c.now r.so .non hR)
theorem de_str {i : Str} {j} (hR : R (.str i) α) : DE X (.Constant (.str i) j pos) ρ α R := fun A σ H Q r c => wp_of pe_str (c.now r.so (.str i) hR)
/-- a constant of the module, told as a tree -/
theorem de_glob {v : V} {u : Value} {d : D} (hg : Gl X x) (hm : X.mg x = some u) (r : RelV v u) (q : ∀ A H, Da X.K A H v d) (hR : R d α) (hd : (x == ("__debug__" : Str)) = false := by decide) : DE X (.Name x pos) ρ α R :=
  fun A σ H Q rr c => wp_of (pe_glob hg hm r hd) (c.now rr.so (q A H) hR)
theorem de_bltn {v : V} {u : Value} (hg : Gl X x) (hm : X.mg x = none) (hv : bootBuiltins x = some u) (r : RelV v u) (hR : R (.raw v) α) (hn : x ≠ "__name__" := by decide) (hd : (x == ("__debug__" : Str)) = false := by decide) : DE X (.Name x pos) ρ α R :=
  fun A σ H Q rr c => wp_of (pe_bltn hg hm hv r hn hd) (c.now rr.so (.raw v) hR)

/-! ### operators -/
theorem de_op {op : Operator} {r : R2} (ho : OpR X (binaryOp op) r) (h : DE X a ρ α fun d1 α1 => DE X b ρ α1 fun d2 α2 => OD X.K r d1 d2 α2 R) : DE X (.BinOp a op b pos) ρ α R := by
  intro A σ H Q rep con
  refine wp_of (pe_op ho pe_wp pe_wp) (h A σ H _ rep fun x d1 B1 α1 H1 h1 g1 s1 q1 => ?_)
  refine h1 _ σ H1 _ (rep.mono g1 s1) fun y d2 B2 α2 H2 h2 g2 s2 q2 => ?_
  exact h2 _ H2 x y s2 (q1.mono g2) q2 Q ((con.step g1 s1).step g2 s2)
theorem de_cmp {op : CmpOp} {r : R2} (ho : OpR X (compareOp op) r) (hm : behindInMarks op b = false) (h : DE X a ρ α fun d1 α1 => DE X b ρ α1 fun d2 α2 => OD X.K r d1 d2 α2 R) : DE X (.Compare a [op] [b] pos) ρ α R := by
  intro A σ H Q rep con
  refine wp_of (pe_cmpR ho pe_wp pe_wp hm) (h A σ H _ rep fun x d1 B1 α1 H1 h1 g1 s1 q1 => ?_)
  refine h1 _ σ H1 _ (rep.mono g1 s1) fun y d2 B2 α2 H2 h2 g2 s2 q2 => ?_
  exact h2 _ H2 x y s2 (q1.mono g2) q2 Q ((con.step g1 s1).step g2 s2)
theorem de_ix {r : R2} (hr : IxR X r) (h : DE X a ρ α fun d1 α1 => DE X b ρ α1 fun d2 α2 => OD X.K r d1 d2 α2 R) (hs : PlainIx b := by exact fun _ _ => rfl) : DE X (.Subscript a b pos) ρ α R := by
  intro A σ H Q rep con
  refine wp_of (pe_ix hr pe_wp pe_wp hs) (h A σ H _ rep fun x d1 B1 α1 H1 h1 g1 s1 q1 => ?_)
  refine h1 _ σ H1 _ (rep.mono g1 s1) fun y d2 B2 α2 H2 h2 g2 s2 q2 => ?_
  exact h2 _ H2 x y s2 (q1.mono g2) q2 Q ((con.step g1 s1).step g2 s2)
theorem Da.bl_inv {K : PySem.W.Frag} {A : List Addr} {H : Hp} {v : V} {k : Bool} (q : Da K A H v (.bl k)) : v = .bl k := by cases q; rfl
theorem Da.int_inv {K : PySem.W.Frag} {A : List Addr} {H : Hp} {v : V} {k : Int} (q : Da K A H v (.int k)) : v = .int k := by cases q; rfl
theorem Da.str_inv {K : PySem.W.Frag} {A : List Addr} {H : Hp} {v : V} {k : Str} (q : Da K A H v (.str k)) : v = .str k := by cases q; rfl
theorem Da.non_inv {K : PySem.W.Frag} {A : List Addr} {H : Hp} {v : V} (q : Da K A H v .non) : v = .non := by cases q; rfl
theorem Da.raw_inv {K : PySem.W.Frag} {A : List Addr} {H : Hp} {v w : V} (q : Da K A H v (.raw w)) : v = w := by cases q; rfl
/-- a op b op' c -/
abbrev CH (X : Cx) (r r' : R2) (ρ : Rho) (c : Expr) (d1 d2 : D) (α : Sto) (R : RE) : Prop :=
  OD X.K r d1 d2 α fun z α3 => ∃ k, z = .bl k ∧ if k = true then DE X c ρ α3 fun d3 α4 => OD X.K r' d2 d3 α4 R else R (.bl false) α3
theorem de_chain {op op' : CmpOp} {r r' : R2} (ho : OpR X (compareOp op) r) (ho' : OpR X (compareOp op') r') (h : DE X a ρ α fun d1 α1 => DE X b ρ α1 fun d2 α2 => CH X r r' ρ c d1 d2 α2 R)
    (hm : lastMarks [op, op'] [b, c] = false := by with_unfolding_all rfl) : DE X (.Compare a [op, op'] [b, c] pos) ρ α R := by
  intro A σ H Q rep con
  refine wp_of (pe_chain ho ho' pe_wp pe_wp pe_wp hm) (h A σ H _ rep fun x d1 B1 α1 H1 h1 g1 s1 q1 => ?_)
  refine h1 _ σ H1 _ (rep.mono g1 s1) fun y d2 B2 α2 H2 h2 g2 s2 q2 => ?_
  have rep2 := (rep.mono g1 s1).mono g2 s2
  have con2 := (con.step g1 s1).step g2 s2
  refine h2 _ H2 x y s2 (q1.mono g2) q2 _ fun z d B3 α3 H3 h3 g3 s3 q3 => ?_
  obtain ⟨k, e, h3⟩ := h3
  subst e
  refine ⟨k, q3.bl_inv, ?_⟩
  cases k with
  | false =>
    rw [if_neg Bool.false_ne_true] at h3 ⊢
    exact (con2.step g3 s3).now s3 (.bl false) h3
  | true =>
    rw [if_pos rfl] at h3 ⊢
    refine h3 _ σ H3 _ (rep2.mono g3 s3) fun w d3 B4 α4 H4 h4 g4 s4 q4 => ?_
    exact h4 _ H4 y w s4 ((q2.mono g3).mono g4) q4 Q ((con2.step g3 s3).step g4 s4)
theorem dt_chain {op op' : CmpOp} {r r' : R2} {R : Bool → Sto → Prop} (ho : OpR X (compareOp op) r) (ho' : OpR X (compareOp op') r') (h : DE X a ρ α fun d1 α1 => DE X b ρ α1 fun d2 α2 => CH X r r' ρ c d1 d2 α2 fun z α' => ∃ k, z = .bl k ∧ R k α')
    (hm : lastMarks [op, op'] [b, c] = false := by with_unfolding_all rfl) : DT X (.Compare a [op, op'] [b, c] pos) ρ α R := by
  intro A σ H Q rep con
  refine wpt_of (pt_chain ho ho' pe_wp pe_wp pe_wp hm) (h A σ H _ rep fun x d1 B1 α1 H1 h1 g1 s1 q1 => ?_)
  refine h1 _ σ H1 _ (rep.mono g1 s1) fun y d2 B2 α2 H2 h2 g2 s2 q2 => ?_
  have rep2 := (rep.mono g1 s1).mono g2 s2
  have con2 := (con.step g1 s1).step g2 s2
  refine h2 _ H2 x y s2 (q1.mono g2) q2 _ fun z d B3 α3 H3 h3 g3 s3 q3 => ?_
  obtain ⟨k, e, h3⟩ := h3
  subst e
  refine ⟨k, q3.bl_inv, ?_⟩
  cases k with
  | false =>
    rw [if_neg Bool.false_ne_true] at h3 ⊢
    obtain ⟨k, e, h3⟩ := h3
    cases e
    exact ⟨false, rfl, (con2.step g3 s3).now s3 h3⟩
  | true =>
    rw [if_pos rfl] at h3 ⊢
    refine h3 _ σ H3 _ (rep2.mono g3 s3) fun w d3 B4 α4 H4 h4 g4 s4 q4 => ?_
    refine h4 _ H4 y w s4 ((q2.mono g3).mono g4) q4 _ fun z' d' B5 α5 H5 h5 g5 s5 q5 => ?_
    obtain ⟨k, e, h5⟩ := h5
    subst e
    exact ⟨k, q5.bl_inv, (((con2.step g3 s3).step g4 s4).step g5 s5).now s5 h5⟩

/-! ### tests -/
theorem dt_cmp {op : CmpOp} {r : R2} {R : Bool → Sto → Prop} (ho : OpR X (compareOp op) r) (hm : behindInMarks op b = false) (h : DE X a ρ α fun d1 α1 => DE X b ρ α1 fun d2 α2 => OD X.K r d1 d2 α2 fun z α' => ∃ k, z = .bl k ∧ R k α') : DT X (.Compare a [op] [b] pos) ρ α R := by
  intro A σ H Q rep con
  refine wpt_of (pt_cmpR ho pe_wp pe_wp hm) (h A σ H _ rep fun x d1 B1 α1 H1 h1 g1 s1 q1 => ?_)
  refine h1 _ σ H1 _ (rep.mono g1 s1) fun y d2 B2 α2 H2 h2 g2 s2 q2 => ?_
  refine h2 _ H2 x y s2 (q1.mono g2) q2 _ fun z d B3 α3 H3 h3 g3 s3 q3 => ?_
  obtain ⟨k, e, h3⟩ := h3
  subst e
  exact ⟨k, q3.bl_inv, (((con.step g1 s1).step g2 s2).step g3 s3).now s3 h3⟩
/-- an expression whose value is a bool -/
theorem dt_val {R : Bool → Sto → Prop} (h : DE X e ρ α fun z α' => ∃ k, z = .bl k ∧ R k α') (he : ∀ whole, isTrue e X.env whole = (do let v ← whole; standAt e.pos; holding [v] (truthy v)) := by intro _; rfl) : DT X e ρ α R := by
  intro A σ H Q rep con
  refine wpt_of (pt_val pe_wp he) (h A σ H _ rep fun z d B α' H' h1 g s q => ?_)
  obtain ⟨k, e1, h1⟩ := h1
  subst e1
  exact ⟨k, q.bl_inv, (con.step g s).now s h1⟩
theorem dt_not {R : Bool → Sto → Prop} (h : DT X a ρ α fun k α' => R (!k) α') : DT X (.UnaryOp .Not a pos) ρ α R := by
  intro A σ H Q rep con
  refine wpt_of (pt_not pt_wp) (h A σ H _ rep fun k B α' H' h1 g s => ?_)
  exact (con.step g s).now s h1
theorem dt_w {R : Bool → Sto → Prop} (h : DW X e ρ α R) : DT X e ρ α R := fun A σ H Q rep con => wpt_of (pw_wp.pt) (h A σ H Q rep con)
theorem dw_and1 {R : Bool → Sto → Prop} (h : DT X a ρ α R) : DW X (.BoolOp .And [a] pos) ρ α R := fun A σ H Q rep con => wpw_of (pw_and1 pt_wp) (h A σ H Q rep con)
theorem dw_or1 {R : Bool → Sto → Prop} (h : DT X a ρ α R) : DW X (.BoolOp .Or [a] pos) ρ α R := fun A σ H Q rep con => wpw_of (pw_or1 pt_wp) (h A σ H Q rep con)
theorem dw_and {R : Bool → Sto → Prop} (h : DT X a ρ α fun k α1 => if k = true then DW X (.BoolOp .And (b :: rest) pos) ρ α1 R else R false α1) : DW X (.BoolOp .And (a :: b :: rest) pos) ρ α R := by
  intro A σ H Q rep con
  refine wpw_of (pw_and pt_wp pw_wp) (h A σ H _ rep fun k B α' H' h1 g s => ?_)
  show if k = true then _ else _
  cases k with
  | true => rw [if_pos rfl] at h1 ⊢; exact h1 _ σ H' _ (rep.mono g s) (con.step g s)
  | false => rw [if_neg Bool.false_ne_true] at h1 ⊢; exact (con.step g s).now s h1
theorem dw_or {R : Bool → Sto → Prop} (h : DT X a ρ α fun k α1 => if k = true then R true α1 else DW X (.BoolOp .Or (b :: rest) pos) ρ α1 R) : DW X (.BoolOp .Or (a :: b :: rest) pos) ρ α R := by
  intro A σ H Q rep con
  refine wpw_of (pw_or pt_wp pw_wp) (h A σ H _ rep fun k B α' H' h1 g s => ?_)
  show if k = true then _ else _
  cases k with
  | false => rw [if_neg Bool.false_ne_true] at h1 ⊢; exact h1 _ σ H' _ (rep.mono g s) (con.step g s)
  | true => rw [if_pos rfl] at h1 ⊢; exact (con.step g s).now s h1

/-! ### bools as values, a if t else b -/
theorem de_one {op} (h : DE X a ρ α R) : DE X (.BoolOp op [a] pos) ρ α R := fun A σ H Q rep con => wp_of (pe_one pe_wp) (h A σ H Q rep con)
theorem de_and (h : DE X a ρ α fun z α1 => ∃ k, z = .bl k ∧ if k = true then DE X (.BoolOp .And (b :: rest) pos) ρ α1 R else R (.bl false) α1) : DE X (.BoolOp .And (a :: b :: rest) pos) ρ α R := by
  intro A σ H Q rep con
  refine wp_of (pe_and pe_wp pe_wp) (h A σ H _ rep fun z d B α' H' h1 g s q => ?_)
  obtain ⟨k, e, h1⟩ := h1
  subst e
  refine ⟨k, q.bl_inv, ?_⟩
  cases k with
  | true => rw [if_pos rfl] at h1 ⊢; exact h1 _ σ H' _ (rep.mono g s) (con.step g s)
  | false => rw [if_neg Bool.false_ne_true] at h1 ⊢; exact (con.step g s).now s (.bl false) h1
theorem de_or (h : DE X a ρ α fun z α1 => ∃ k, z = .bl k ∧ if k = true then R (.bl true) α1 else DE X (.BoolOp .Or (b :: rest) pos) ρ α1 R) : DE X (.BoolOp .Or (a :: b :: rest) pos) ρ α R := by
  intro A σ H Q rep con
  refine wp_of (pe_or pe_wp pe_wp) (h A σ H _ rep fun z d B α' H' h1 g s q => ?_)
  obtain ⟨k, e, h1⟩ := h1
  subst e
  refine ⟨k, q.bl_inv, ?_⟩
  cases k with
  | false => rw [if_neg Bool.false_ne_true] at h1 ⊢; exact h1 _ σ H' _ (rep.mono g s) (con.step g s)
  | true => rw [if_pos rfl] at h1 ⊢; exact (con.step g s).now s (.bl true) h1
theorem de_not (h : DE X a ρ α fun z α1 => ∃ k, z = .bl k ∧ R (.bl (!k)) α1) : DE X (.UnaryOp .Not a pos) ρ α R := by
  intro A σ H Q rep con
  refine wp_of (pe_not pe_wp) (h A σ H _ rep fun z d B α' H' h1 g s q => ?_)
  obtain ⟨k, e, h1⟩ := h1
  subst e
  exact ⟨k, q.bl_inv, (con.step g s).now s (.bl (!k)) h1⟩
theorem de_ite (h : DT X c ρ α fun k α1 => if k = true then DE X a ρ α1 R else DE X b ρ α1 R) : DE X (.IfExp c a b pos) ρ α R := by
  intro A σ H Q rep con
  refine wp_of (pe_ifExp pt_wp pe_wp pe_wp) (h A σ H _ rep fun k B α' H' h1 g s => ?_)
  show if k = true then _ else _
  cases k with
  | true => rw [if_pos rfl] at h1 ⊢; exact h1 _ σ H' _ (rep.mono g s) (con.step g s)
  | false => rw [if_neg Bool.false_ne_true] at h1 ⊢; exact h1 _ σ H' _ (rep.mono g s) (con.step g s)

/-! ### arguments, displays -/
theorem da_nil {R : List D → Sto → Prop} (hR : R [] α) : DA X [] ρ α R := fun A σ H Q rep con => wpa_of pa_nil (con.now rep.so .nil hR)
theorem da_cons {R : List D → Sto → Prop} (h : DE X e ρ α fun d α1 => DA X es ρ α1 fun ds α2 => R (d :: ds) α2) (hs : starEach (e :: es) X.env = (false, eval e X.env) :: starEach es X.env := by rfl) : DA X (e :: es) ρ α R := by
  intro A σ H Q rep con
  refine wpa_of (pa_cons pe_wp pa_wp hs) (h A σ H _ rep fun v d B α' H' h1 g s q => ?_)
  refine h1 _ σ H' _ (rep.mono g s) fun vs ds B2 α2 H2 h2 g2 s2 q2 => ?_
  exact ((con.step g s).step g2 s2).now s2 (.cons (q.mono g2) q2) h2
theorem de_tup {x1} (h : DA X es ρ α fun ds α1 => ds.length ≤ 100000 ∧ R (.tup ds) α1) : DE X (.Tuple es x1 pos) ρ α R := by
  intro A σ H Q rep con
  refine wp_of (pe_tup pa_wp) (h A σ H _ rep fun vs ds B α1 H1 h1 g s q => ?_)
  exact ⟨by rw [q.length]; exact Nat.le_trans h1.1 (by decide), fun p hp => (con.step g s).newT s hp q h1.2⟩
theorem de_lst (h : DA X es ρ α fun ds α1 => ds.length ≤ 100000 ∧ R (.lst ds) α1) : DE X (.List es pos) ρ α R := by
  intro A σ H Q rep con
  refine wp_of (pe_lst pa_wp) (h A σ H _ rep fun vs ds B α1 H1 h1 g s q => ?_)
  exact ⟨by rw [q.length]; exact Nat.le_trans h1.1 (by decide), fun p hp => (con.step g s).newL s hp q h1.2⟩
/-- a list display as a cell -/
theorem de_cell (h : DA X es ρ α fun ds α1 => ds.length ≤ 100000 ∧ R (.acc α1.length) (α1 ++ [.l ds])) : DE X (.List es pos) ρ α R := by
  intro A σ H Q rep con
  refine wp_of (pe_lst pa_wp) (h A σ H _ rep fun vs ds B α1 H1 h1 g s q => ?_)
  exact ⟨by rw [q.length]; exact Nat.le_trans h1.1 (by decide), fun p hp => (con.step g s).newC s hp q h1.2⟩
/-! ### built-in functions and classes -/
theorem de_callB {id : String} {r : List V → Hp → VK → Prop} (hc : CallR X (.builtin id) r) (hg : Gl X x) (hm : X.mg x = none) (hv : bootBuiltins x = some (.builtin id)) (h : DA X (e :: es) ρ α fun ds α1 => CD X.K r ds α1 R)
    (hn : x ≠ "__name__" := by decide) (hdb : (x == ("__debug__" : Str)) = false := by decide) (he : starEach (e :: es) X.env = (false, eval e X.env) :: starEach es X.env := by rfl) (hpl : (backTo pos (starEach es X.env)).any (·.1) = false := by rfl) :
    DE X (.Call (.Name x p) (e :: es) [] pos) ρ α R := by
  intro A σ H Q rep con
  refine wp_of (pe_callB hc hg hm hv pa_wp hn hdb he hpl) (h A σ H _ rep fun vs ds B α1 H1 h1 g s q => ?_)
  exact h1 _ H1 vs s q Q (con.step g s)
theorem de_callTy {id : String} {r : List V → Hp → VK → Prop} (hc : CallR X (.type id) r) (hg : Gl X x) (hm : X.mg x = none) (hv : bootBuiltins x = some (.type id)) (h : DA X (e :: es) ρ α fun ds α1 => CD X.K r ds α1 R)
    (hn : x ≠ "__name__" := by decide) (hdb : (x == ("__debug__" : Str)) = false := by decide) (he : starEach (e :: es) X.env = (false, eval e X.env) :: starEach es X.env := by rfl) (hpl : (backTo pos (starEach es X.env)).any (·.1) = false := by rfl) :
    DE X (.Call (.Name x p) (e :: es) [] pos) ρ α R := by
  intro A σ H Q rep con
  refine wp_of (pe_callTy hc hg hm hv pa_wp hn hdb he hpl) (h A σ H _ rep fun vs ds B α1 H1 h1 g s q => ?_)
  exact h1 _ H1 vs s q Q (con.step g s)
end
end DH

end

section
/-! DH, values' operations, calls of defs, statements. -/
namespace DH
open PySem L2
/-! ### operations by values -/
section
variable {K : PySem.W.Frag} {α : Sto} {R : RE} {d d1 d2 : D}
theorem od_ii {f : Int → Int → Int} {i j : Int} (h : R (.int (f i j)) α) : OD K (rI0 fun i j => .int (f i j)) (.int i) (.int j) α R :=
  fun A H x y s q1 q2 Q c => ⟨i, j, q1.int_inv, q2.int_inv, c.now s (.int _) h⟩
theorem od_ib {f : Int → Int → Bool} {i j : Int} (h : R (.bl (f i j)) α) : OD K (rI0 fun i j => .bl (f i j)) (.int i) (.int j) α R :=
  fun A H x y s q1 q2 Q c => ⟨i, j, q1.int_inv, q2.int_inv, c.now s (.bl _) h⟩
theorem od_ic {C : Int → Int → Prop} {f : Int → Int → Int} {i j : Int} (hc : C i j) (h : R (.int (f i j)) α) : OD K (rI C fun i j => .int (f i j)) (.int i) (.int j) α R :=
  fun A H x y s q1 q2 Q c => ⟨i, j, q1.int_inv, q2.int_inv, hc, c.now s (.int _) h⟩
def isNon : D → Bool
  | .non => true
  | .raw v => decide (v = .non)
  | _ => false
theorem isNon_ok {A : List Addr} {H : Hp} {v : V} (q : Da K A H v d) : decide (v = .non) = isNon d := by
  cases q <;> first | rfl | (apply decide_eq_false; intro h; cases h)
theorem od_isN (h : R (.bl (isNon d)) α) : OD K (fun x y H Q => y = .non ∧ Q (.bl (decide (x = .non))) H) d .non α R :=
  fun A H x y s q1 q2 Q c => ⟨q2.non_inv, by rw [isNon_ok q1]; exact c.now s (.bl _) h⟩
theorem od_notN (h : R (.bl (!isNon d)) α) : OD K (fun x y H Q => y = .non ∧ Q (.bl (!decide (x = .non))) H) d .non α R :=
  fun A H x y s q1 q2 Q c => ⟨q2.non_inv, by rw [isNon_ok q1]; exact c.now s (.bl _) h⟩
/-- xs[i], t[i] -/
theorem od_ix {ds : List D} {i : Int} (hc : cont α d1 = some ds) (ha : atI ds i = some d) (h : R d α) : OD K (rIx K) d1 (.int i) α R := by
  intro A H x y s q1 q2 Q c
  obtain ⟨a, xs, rfl, hs, r⟩ := readSeq' s q1 hc
  obtain ⟨v, e, q⟩ := atI_das r ha
  rcases hs with hs | hs
  · exact .inl ⟨a, xs, i, v, rfl, q2.int_inv, hs, e, c.now s q h⟩
  · exact .inr (.inl ⟨a, xs, i, v, rfl, q2.int_inv, hs, e, c.now s q h⟩)
theorem atI_nn {ds : List D} {i : Nat} (h : ds[i]? = some d) : atI ds (i : Int) = some d := by
  have hl := (List.getElem?_eq_some_iff.mp h).1
  unfold atI ixN
  rw [if_pos (Int.natCast_nonneg i), if_pos (by exact Int.ofNat_lt.mpr hl)]
  exact h
theorem atI_back {ds : List D} {i : Nat} (hi : i < ds.length) (h : ds[ds.length - 1 - i]? = some d) : atI ds (-(i : Int) - 1) = some d := by
  unfold atI ixN
  rw [if_neg (by omega), if_pos (by omega)]
  show ds[(-(i : Int) - 1 + (ds.length : Nat)).toNat]? = some d
  have : (-(i : Int) - 1 + (ds.length : Nat)).toNat = ds.length - 1 - i := by omega
  rw [this]; exact h

/- what == sees -/
mutual
inductive Py (α : Sto) : D → PyData → Prop
  | non : Py α .non .none
  | bl (b : Bool) : Py α (.bl b) (.bool b)
  | int (i : Int) : Py α (.int i) (.int i)
  | str (x : Str) : Py α (.str x) (.str x)
  | lst {ds : List D} {ps : List PyData} : Pys α ds ps → Py α (.lst ds) (.list ps)
  | tup {ds : List D} {ps : List PyData} : Pys α ds ps → Py α (.tup ds) (.tuple ps)
  | pt {ds : List D} {ps : List PyData} : Pys α ds ps → Py α (.pt ds) (.tuple ps)
  | acc {k : Nat} {ds : List D} {ps : List PyData} : α[k]? = some (.l ds) → Pys α ds ps → Py α (.acc k) (.list ps)
inductive Pys (α : Sto) : List D → List PyData → Prop
  | nil : Pys α [] []
  | cons {d : D} {p : PyData} {ds : List D} {ps : List PyData} : Py α d p → Pys α ds ps → Pys α (d :: ds) (p :: ps)
end
theorem Pys.ints : ∀ ns : List Int, Pys α (ns.map D.int) (ns.map PyData.int)
  | [] => .nil
  | n :: r => .cons (.int n) (Pys.ints r)
mutual
theorem py_dp {A : List Addr} {H : Hp} (s : So K A H α) : ∀ {d : D} {p : PyData}, Py α d p → ∀ {v : V}, Da K A H v d → Dp K H v p
  | _, _, .non, v, q => by rw [q.non_inv]; exact .non
  | _, _, .bl b, v, q => by rw [q.bl_inv]; exact .bl b
  | _, _, .int i, v, q => by rw [q.int_inv]; exact .int i
  | _, _, .str x, v, q => by rw [q.str_inv]; exact .str x
  | _, _, .lst h, v, q => by cases q with | lst n e r => exact .lst (.inl (.inl e)) (pys_dp s h r)
  | _, _, .tup h, v, q => by cases q with | tup n e r => exact .tup (.inl (.inl e)) (pys_dp s h r)
  | _, _, .pt h, v, q => by cases q with | pt n e _ _ r => exact .tup (.inl (.inr ⟨_, e⟩)) (pys_dp s h r)
  | _, _, .acc e h, v, q => by
    cases q with
    | acc e1 =>
      obtain ⟨a, xs, h1, h2, h3⟩ := s.get e
      rw [e1] at h1; cases h1
      exact .lst (.inl (.inl h2)) (pys_dp s h h3)
theorem pys_dp {A : List Addr} {H : Hp} (s : So K A H α) : ∀ {ds : List D} {ps : List PyData}, Pys α ds ps → ∀ {vs : List V}, Das K A H vs ds → DpAll K H vs ps
  | _, _, .nil, vs, q => by cases q; exact .nil
  | _, _, .cons h t, vs, q => by cases q with | cons q1 q2 => exact .cons (py_dp s h q1) (pys_dp s t q2)
end
theorem od_eq {p1 p2 : PyData} (h1 : Py α d1 p1) (h2 : Py α d2 p2) (s1 : SeqAt.shaped p1 = true) (s2 : SeqAt.shaped p2 = true) (h : R (.bl (PyData.eqv p1 p2)) α) : OD K (rEqD K) d1 d2 α R :=
  fun A H x y s q1 q2 Q c => ⟨p1, p2, py_dp s h1 q1, py_dp s h2 q2, s1, s2, c.now s (.bl _) h⟩
theorem od_ne {p1 p2 : PyData} (h1 : Py α d1 p1) (h2 : Py α d2 p2) (s1 : SeqAt.shaped p1 = true) (s2 : SeqAt.shaped p2 = true) (h : R (.bl (!PyData.eqv p1 p2)) α) : OD K (rNeD K) d1 d2 α R :=
  fun A H x y s q1 q2 Q c => ⟨p1, p2, py_dp s h1 q1, py_dp s h2 q2, s1, s2, c.now s (.bl _) h⟩
theorem od_in {p1 : PyData} {ps : List PyData} (h1 : Py α d1 p1) (h2 : Py α d2 (.list ps)) (s1 : SeqAt.shaped p1 = true) (s2 : SeqAt.shaped (.list ps) = true) (h : R (.bl (ps.any fun z => PyData.eqv z p1)) α) : OD K (rInD K) d1 d2 α R :=
  fun A H x y s q1 q2 Q c => ⟨p1, ps, py_dp s h1 q1, py_dp s h2 q2, s1, s2, c.now s (.bl _) h⟩
theorem od_nin {p1 : PyData} {ps : List PyData} (h1 : Py α d1 p1) (h2 : Py α d2 (.list ps)) (s1 : SeqAt.shaped p1 = true) (s2 : SeqAt.shaped (.list ps) = true) (h : R (.bl (!ps.any fun z => PyData.eqv z p1)) α) : OD K (rNotInD K) d1 d2 α R :=
  fun A H x y s q1 q2 Q c => ⟨p1, ps, py_dp s h1 q1, py_dp s h2 q2, s1, s2, c.now s (.bl _) h⟩
/-- xs + ys, lists -/
def lstC (α : Sto) : D → Option (List D)
  | .lst ds => some ds
  | .acc k => cellL α[k]?
  | _ => none
theorem lstC_acc {α : Sto} {k : Nat} {ds : List D} : lstC α (.acc k) = some ds ↔ α[k]? = some (.l ds) := cellL_iff
theorem readL {A : List Addr} {H : Hp} {v : V} {ds : List D} (s : So K A H α) (q : Da K A H v d) (h : lstC α d = some ds) : ∃ a xs, v = .ref a ∧ H a = some (.lst xs) ∧ Das K A H xs ds := by
  cases q with
  | lst n e r => cases h; exact ⟨_, _, rfl, e, r⟩
  | acc e =>
    obtain ⟨a, xs, h1, h2, h3⟩ := s.get (lstC_acc.mp h)
    rw [e] at h1; cases h1
    exact ⟨_, xs, rfl, h2, h3⟩
  | _ => cases h
theorem od_cat {ds es : List D} (h1 : lstC α d1 = some ds) (h2 : lstC α d2 = some es) (hz : ds.length + es.length ≤ 1000000) (h : R (.lst (ds ++ es)) α) : OD K rCat d1 d2 α R := by
  intro A H x y s q1 q2 Q c
  obtain ⟨a, xs, rfl, e1, r1⟩ := readL s q1 h1
  obtain ⟨b, ys, rfl, e2, r2⟩ := readL s q2 h2
  exact ⟨a, b, xs, ys, rfl, rfl, e1, e2, by rw [r1.length, r2.length]; exact Nat.le_trans hz (by decide), fun p hp => c.newL s hp (r1.app r2) h⟩
theorem od_catT {ds es : List D} (hz : ds.length + es.length ≤ 1000000) (h : R (.tup (ds ++ es)) α) : OD K (rCatA K) (.tup ds) (.tup es) α R := by
  intro A H x y s q1 q2 Q c
  cases q1 with
  | tup n1 e1 r1 =>
    cases q2 with
    | tup n2 e2 r2 =>
      rename_i a xs b ys
      refine ⟨_, _, xs, ys, rfl, rfl, .inl (.inl e1), .inl (.inl e2), by rw [r1.length, r2.length]; exact Nat.le_trans hz (by decide), fun h0 => ?_, fun h1 h0 => ?_, fun _ _ p hp => c.newT s hp (r1.app r2) h⟩
      · subst h0
        have : ds = [] := List.length_eq_zero_iff.mp (by rw [← r1.length]; rfl)
        subst this
        exact c.now s (.tup n2 e2 r2) h
      · subst h0
        have : es = [] := List.length_eq_zero_iff.mp (by rw [← r2.length]; rfl)
        subst this
        rw [List.append_nil] at h
        exact c.now s (.tup n1 e1 r1) h

/-! ### built-ins by values -/
theorem cd_len {ds : List D} (hc : cont α d = some ds) (h : R (.int (ds.length : Nat)) α) : CD K (fun xs H Q => ∃ p ys, xs = [.ref p] ∧ (SqL K H p ys ∨ SqT K H p ys) ∧ Q (.int ys.length) H) [d] α R := by
  intro A H xs s q Q c
  cases q with
  | cons q r =>
    cases r
    obtain ⟨a, ys, rfl, hs, rr⟩ := readSeq' s q hc
    exact ⟨a, ys, rfl, hs, by rw [rr.length]; exact c.now s (.int _) h⟩
theorem cd_list {ds : List D} (hc : cont α d = some ds) (h : R (.lst ds) α) : CD K (fun xs H Q => ∃ p ys, xs = [.ref p] ∧ (SqL K H p ys ∨ SqT K H p ys) ∧ ∀ l, H l = none → Q (.ref l) (upd H l (.lst ys))) [d] α R := by
  intro A H xs s q Q c
  cases q with
  | cons q r =>
    cases r
    obtain ⟨a, ys, rfl, hs, rr⟩ := readSeq' s q hc
    exact ⟨a, ys, rfl, hs, fun p hp => c.newL s hp rr h⟩
theorem cd_listC {ds : List D} (hc : cont α d = some ds) (h : R (.acc α.length) (α ++ [.l ds])) : CD K (fun xs H Q => ∃ p ys, xs = [.ref p] ∧ (SqL K H p ys ∨ SqT K H p ys) ∧ ∀ l, H l = none → Q (.ref l) (upd H l (.lst ys))) [d] α R := by
  intro A H xs s q Q c
  cases q with
  | cons q r =>
    cases r
    obtain ⟨a, ys, rfl, hs, rr⟩ := readSeq' s q hc
    exact ⟨a, ys, rfl, hs, fun p hp => c.newC s hp rr h⟩
theorem cd_tuple {ds : List D} (hc : cont α d = some ds) (h : R (.tup ds) α) (hp : ∀ es, d ≠ .pt es := by intro _ z; cases z; done) : CD K (fun xs H Q => ∃ p ys, xs = [.ref p] ∧ ((SqL K H p ys ∧ ∀ l, H l = none → Q (.ref l) (upd H l (.tup ys))) ∨ (SqT K H p ys ∧ Q (.ref p) H))) [d] α R := by
  intro A H xs s q Q c
  cases q with
  | cons q r =>
    cases r
    obtain ⟨a, ys, rfl, hs, rr⟩ := readSeq s q hc
    refine ⟨a, ys, rfl, ?_⟩
    rcases hs with ⟨_, hs⟩ | ⟨ht, hs⟩
    · exact .inl ⟨hs, fun p hp => c.newT s hp rr h⟩
    · refine .inr ⟨hs, ?_⟩
      cases d with
      | tup es => cases hc; exact c.now s q h
      | pt es => exact absurd rfl (hp es)
      | _ => cases ht
theorem cd_abs {i : Int} (h : R (.int (if i < 0 then -i else i)) α) : CD K (fun xs H Q => ∃ i, xs = [.int i] ∧ Q (.int (if i < 0 then -i else i)) H) [.int i] α R := by
  intro A H xs s q Q c
  cases q with | cons q r => cases r; rw [q.int_inv]; exact ⟨i, rfl, c.now s (.int _) h⟩
theorem cd_int {i : Int} (h : R (.int i) α) : CD K (fun xs H Q => (∃ i, xs = [.int i] ∧ Q (.int i) H) ∨ ∃ k, xs = [.bl k] ∧ Q (.int (if k then 1 else 0)) H) [.int i] α R := by
  intro A H xs s q Q c
  cases q with | cons q r => cases r; rw [q.int_inv]; exact .inl ⟨i, rfl, c.now s (.int _) h⟩
theorem cd_min2 {i j : Int} (h : R (.int (if j < i then j else i)) α) : CD K (fun xs H Q => ∃ i j, xs = [.int i, .int j] ∧ Q (.int (if j < i then j else i)) H) [.int i, .int j] α R := by
  intro A H xs s q Q c
  cases q with | cons q r => cases r with | cons q2 r => cases r; rw [q.int_inv, q2.int_inv]; exact ⟨i, j, rfl, c.now s (.int _) h⟩
theorem cd_max2 {i j : Int} (h : R (.int (if j > i then j else i)) α) : CD K (fun xs H Q => ∃ i j, xs = [.int i, .int j] ∧ Q (.int (if j > i then j else i)) H) [.int i, .int j] α R := by
  intro A H xs s q Q c
  cases q with | cons q r => cases r with | cons q2 r => cases r; rw [q.int_inv, q2.int_inv]; exact ⟨i, j, rfl, c.now s (.int _) h⟩
theorem das_bls {A : List Addr} {H : Hp} : ∀ {xs : List V} {bs : List Bool}, Das K A H xs (bs.map D.bl) → xs = bs.map V.bl
  | _, [], .nil => rfl
  | _, b :: bs, .cons h t => by rw [h.bl_inv, das_bls t]; rfl
theorem cd_all {bs : List Bool} (hc : cont α d = some (bs.map D.bl)) (hl : isT d = false) (h : R (.bl (bs.all id)) α) : CD K (rAll K) [d] α R := by
  intro A H xs s q Q c
  cases q with
  | cons q r =>
    cases r
    obtain ⟨a, ys, rfl, hs, rr⟩ := readSeq s q hc
    rcases hs with ⟨_, hs⟩ | ⟨ht, _⟩
    · rw [das_bls rr] at hs
      exact ⟨a, bs, rfl, hs, c.now s (.bl _) h⟩
    · rw [hl] at ht; cases ht
end

/-! ### calls of defs -/
/-- a def's law: arguments, store, what is wanted of the answer -/
abbrev FSpec := List D → Sto → RE → Prop
def SpD (K : PySem.W.Frag) (S : FSpec) : Sp := fun vs H Q _ => ∃ A ds α R, So K A H α ∧ Das K A H vs ds ∧ S ds α R ∧ Con K A H R Q
/-- the def of the name x keeps the law S -/
structure Fx (P : Program) (w : World) (K : PySem.W.Frag) (mg : Str → Option Value) (base : Heap) (k : Nat) (x : Str) (ps : List Str) (S : FSpec) : Prop where
  ex : ∃ f fd, FnOk P w K mg base CX0 k f fd ps (SpD K S) ∧ mg x = some (.ref f) ∧ PySem.W.keepIn K (.ref f) = true ∧ Binds K fd ps []
theorem Fx.imp {P : Program} {w : World} {K : PySem.W.Frag} {mg : Str → Option Value} {base : Heap} {k : Nat} {x : Str} {ps : List Str} {S S' : FSpec} (F : Fx P w K mg base k x ps S) (h : ∀ ds α R, S' ds α R → S ds α R) : Fx P w K mg base k x ps S' := by
  obtain ⟨f, fd, h1, h2, h3, h4⟩ := F.ex
  exact ⟨f, fd, h1.imp fun vs H Q E ⟨A, ds, α, R, a, b, c, d⟩ => ⟨A, ds, α, R, a, b, h _ _ _ c, d⟩, h2, h3, h4⟩
theorem Fx.mono {P : Program} {w : World} {K : PySem.W.Frag} {mg : Str → Option Value} {base : Heap} {j k : Nat} {x : Str} {ps : List Str} {S : FSpec} (F : Fx P w K mg base j x ps S) (h : j ≤ k) : Fx P w K mg base k x ps S := by
  obtain ⟨f, fd, h1, h2, h3, h4⟩ := F.ex
  exact ⟨f, fd, h1.mono h, h2, h3, h4⟩
section
variable {X : Cx} {ρ : Rho} {α : Sto} {R : RE} {a b c e : Expr} {es rest : List Expr} {pos p : Pos} {x : Str}
theorem de_call {k : Nat} {ps : List Str} {S : FSpec} (F : Fx X.prog X.w X.K X.mg X.base k x ps S) (hr : Room k X.A) (hg : Gl X x) (h : DA X (e :: es) ρ α fun ds α1 => S ds α1 R)
    (hdb : (x == ("__debug__" : Str)) = false := by decide) (he : starEach (e :: es) X.env = (false, eval e X.env) :: starEach es X.env := by rfl) (hpl : (backTo pos (starEach es X.env)).any (·.1) = false := by rfl) :
    DE X (.Call (.Name x p) (e :: es) [] pos) ρ α R := by
  intro A σ H Q rep con
  obtain ⟨f, fd, h1, h2, h3, h4⟩ := F.ex
  refine wp_of (pe_call h1 hr hg h2 h3 h4 .nil pass0 pa_wp hdb he hpl) (h A σ H _ rep fun vs ds B α1 H1 h5 g s q => ?_)
  refine ⟨A ++ B, ds, α1, R, s, ?_, h5, con.step g s⟩
  rw [List.append_nil]
  exact q
end

end DH

end

section
/-! DH, statements: what is wanted is told of the def's entry; cells made since may be let go. -/
namespace DH
open PySem L2
structure Post where
  nx : Rho → Sto → Prop
  rt : D → Sto → Prop
  bk : Rho → Sto → Prop := fun _ _ => False
  ct : Rho → Sto → Prop := fun _ _ => False
structure ConS (K : PySem.W.Frag) (A : List Addr) (H : Hp) (P : Post) (E : Ends) : Prop where
  nx : ∀ ρ α B σ H', P.nx ρ α → Gr A H B H' → Rep K (A ++ B) H' σ ρ α → E.nx σ H'
  rt : ∀ d α B v H', P.rt d α → Gr A H B H' → So K (A ++ B) H' α → Da K (A ++ B) H' v d → E.rt v H'
  bk : ∀ ρ α B σ H', P.bk ρ α → Gr A H B H' → Rep K (A ++ B) H' σ ρ α → E.bk σ H'
  ct : ∀ ρ α B σ H', P.ct ρ α → Gr A H B H' → Rep K (A ++ B) H' σ ρ α → E.ct σ H'
theorem ConS.imp {K : PySem.W.Frag} {A : List Addr} {H : Hp} {P P' : Post} {E : Ends} (c : ConS K A H P' E) (h1 : ∀ ρ α, P.nx ρ α → P'.nx ρ α) (h2 : ∀ d α, P.rt d α → P'.rt d α) (h3 : ∀ ρ α, P.bk ρ α → P'.bk ρ α) (h4 : ∀ ρ α, P.ct ρ α → P'.ct ρ α) : ConS K A H P E :=
  ⟨fun ρ α B σ H' h => c.nx ρ α B σ H' (h1 _ _ h), fun d α B v H' h => c.rt d α B v H' (h2 _ _ h), fun ρ α B σ H' h => c.bk ρ α B σ H' (h3 _ _ h), fun ρ α B σ H' h => c.ct ρ α B σ H' (h4 _ _ h)⟩
/-- where one stands: n cells at the def's entry -/
structure At (K : PySem.W.Frag) (n : Nat) (A : List Addr) (H0 : Hp) (P : Post) (E : Ends) (B : List Addr) (σ : L2.St) (H : Hp) (ρ : Rho) (α : Sto) : Prop where
  len : A.length = n
  gr : Gr A H0 B H
  rep : Rep K (A ++ B) H σ ρ α
  con : ConS K A H0 P E
section
variable {K : PySem.W.Frag} {n : Nat} {A B B' : List Addr} {H0 H H' : Hp} {P P' : Post} {E E' : Ends} {σ : L2.St} {ρ : Rho} {α α' : Sto}
theorem At.step (a : At K n A H0 P E B σ H ρ α) (g : Gr (A ++ B) H B' H') (s : So K (A ++ B ++ B') H' α') : At K n A H0 P E (B ++ B') σ H' ρ α' :=
  ⟨a.len, a.gr.trans a.rep.so g, by have := a.rep.mono g s; rwa [List.append_assoc] at this, a.con⟩
theorem At.put {i : Nat} {v : V} {d : D} (a : At K n A H0 P E B σ H ρ α) (q : Da K (A ++ B) H v d) : At K n A H0 P E B (σ.set i (some v)) H (ρ.set i (some d)) α := ⟨a.len, a.gr, a.rep.put q, a.con⟩
theorem At.cell {k : Nat} {c : Addr} {o : HO} {cl : Cl} (a : At K n A H0 P E B σ H ρ α) (hk : (A ++ B)[k]? = some c) (q : CellIs K (A ++ B) H o cl) (hw : ∀ P q, cl ≠ .tb P q := by intro _ _ z; cases z) : At K n A H0 P E B σ (upd H c o) ρ (α.set k cl) := by
  obtain ⟨s, g⟩ := a.rep.so.put hk q hw
  have := a.step (B' := []) g (by rw [List.append_nil]; exact s)
  rwa [List.append_nil] at this
theorem At.nx (a : At K n A H0 P E B σ H ρ α) (h : P.nx ρ α) : E.nx σ H := a.con.nx ρ α B σ H h a.gr a.rep
theorem At.bk (a : At K n A H0 P E B σ H ρ α) (h : P.bk ρ α) : E.bk σ H := a.con.bk ρ α B σ H h a.gr a.rep
theorem At.ct (a : At K n A H0 P E B σ H ρ α) (h : P.ct ρ α) : E.ct σ H := a.con.ct ρ α B σ H h a.gr a.rep
theorem At.rt {v : V} {d : D} (a : At K n A H0 P E B σ H ρ α) (q : Da K (A ++ B) H v d) (h : P.rt d α) : E.rt v H := a.con.rt d α B v H h a.gr a.rep.so q
theorem At.to (a : At K n A H0 P E B σ H ρ α) (c : ConS K A H0 P' E') : At K n A H0 P' E' B σ H ρ α := ⟨a.len, a.gr, a.rep, c⟩
theorem da_assoc {v : V} {d : D} (q : Da K (A ++ B ++ B') H v d) : Da K (A ++ (B ++ B')) H v d := by rwa [List.append_assoc] at q
end
section
variable {X : Cx}
def wpS (X : Cx) (st : Stmt) : TS := fun D σ H => ∀ pins s, Inv X pins σ H s → wpAny (model X.prog X.w) X.A (exec st X.env) (SP X pins D) X.xe s
def wpSs (X : Cx) (st : List Stmt) : TS := fun D σ H => ∀ pins s, Inv X pins σ H s → wpAny (model X.prog X.w) X.A (execs st X.env) (SP X pins D) X.xe s
theorem ps_wp {st : Stmt} : PS X st (wpS X st) := ⟨fun pins s _ _ _ I h => h pins s I⟩
theorem pss_wp {st : List Stmt} : PSs X st (wpSs X st) := ⟨fun pins s _ _ _ I h => h pins s I⟩
theorem wps_of {st : Stmt} {t : TS} {σ : L2.St} {H : Hp} {D : Ends} (h : PS X st t) (q : t D σ H) : wpS X st D σ H := fun pins s I => h.run pins s σ H D I q
theorem wpss_of {st : List Stmt} {t : TS} {σ : L2.St} {H : Hp} {D : Ends} (h : PSs X st t) (q : t D σ H) : wpSs X st D σ H := fun pins s I => h.run pins s σ H D I q
def DS (X : Cx) (n : Nat) (st : Stmt) (ρ : Rho) (α : Sto) (P : Post) : Prop := ∀ A H0 E B σ H, At X.K n A H0 P E B σ H ρ α → wpS X st E σ H
def DSs (X : Cx) (n : Nat) (st : List Stmt) (ρ : Rho) (α : Sto) (P : Post) : Prop := ∀ A H0 E B σ H, At X.K n A H0 P E B σ H ρ α → wpSs X st E σ H
variable {n : Nat} {ρ : Rho} {α : Sto} {P : Post} {a b c e o tg iter : Expr} {es : List Expr} {pos pos' p : Pos} {x : Str} {st : Stmt} {rest body orelse : List Stmt} {i j : Nat}
theorem DSs.imp {P' : Post} (h : DSs X n rest ρ α P) (h1 : ∀ ρ α, P.nx ρ α → P'.nx ρ α) (h2 : ∀ d α, P.rt d α → P'.rt d α := by exact fun _ _ h => h) (h3 : ∀ ρ α, P.bk ρ α → P'.bk ρ α := by exact fun _ _ h => h) (h4 : ∀ ρ α, P.ct ρ α → P'.ct ρ α := by exact fun _ _ h => h) : DSs X n rest ρ α P' :=
  fun A H0 E B σ H at_ => h A H0 E B σ H (at_.to (at_.con.imp h1 h2 h3 h4))
theorem dss_nil (h : P.nx ρ α) : DSs X n [] ρ α P := fun A H0 E B σ H at_ => wpss_of pss_nil (at_.nx h)
theorem dss_cons (h : DS X n st ρ α { P with nx := fun ρ1 α1 => DSs X n rest ρ1 α1 P }) : DSs X n (st :: rest) ρ α P := by
  intro A H0 E B σ H at_
  refine wpss_of (pss_cons ps_wp pss_wp) (h A H0 _ B σ H (at_.to ⟨fun ρ1 α1 B1 σ1 H1 h1 g r1 => ?_, at_.con.rt, at_.con.bk, at_.con.ct⟩))
  exact h1 A H0 E B1 σ1 H1 ⟨at_.len, g, r1, at_.con⟩
theorem ds_pass (h : P.nx ρ α) : DS X n (.Pass pos) ρ α P := fun A H0 E B σ H at_ => wps_of ps_pass (at_.nx h)
theorem ds_break (h : P.bk ρ α) : DS X n (.Break pos) ρ α P := fun A H0 E B σ H at_ => wps_of ps_break (at_.bk h)
theorem ds_continue (h : P.ct ρ α) : DS X n (.Continue pos) ρ α P := fun A H0 E B σ H at_ => wps_of ps_continue (at_.ct h)
theorem ds_expr (h : DE X e ρ α fun _ α1 => P.nx ρ α1) (hs : swapsWith e none pos.line X.env = pure false := by rfl) : DS X n (.Expr e pos) ρ α P := by
  intro A H0 E B σ H at_
  exact wps_of (ps_expr pe_wp hs) (h _ σ H _ at_.rep fun v d B1 α1 H1 h1 g s q => (at_.step g s).nx h1)
theorem ds_ret (h : DE X e ρ α P.rt) : DS X n (.Return (some e) pos) ρ α P := by
  intro A H0 E B σ H at_
  exact wps_of (ps_ret pe_wp) (h _ σ H _ at_.rep fun v d B1 α1 H1 h1 g s q => (at_.step g s).rt (da_assoc q) h1)
theorem ds_retN (h : P.rt .non α) : DS X n (.Return none pos) ρ α P := fun A H0 E B σ H at_ => wps_of ps_retN (at_.rt .non h)
theorem ds_if (h : DT X c ρ α fun k α1 => if k = true then DSs X n body ρ α1 P else DSs X n orelse ρ α1 P) : DS X n (.If c body orelse pos) ρ α P := by
  intro A H0 E B σ H at_
  refine wps_of (ps_if pt_wp pss_wp pss_wp) (h _ σ H _ at_.rep fun k B1 α1 H1 h1 g s => ?_)
  show if k = true then _ else _
  cases k with
  | true => rw [if_pos rfl] at h1 ⊢; exact h1 A H0 E _ σ H1 (at_.step g s)
  | false => rw [if_neg Bool.false_ne_true] at h1 ⊢; exact h1 A H0 E _ σ H1 (at_.step g s)
theorem ds_set (i : Nat) (hN : X.N.Nodup) (h : DE X e ρ α fun d α1 => P.nx (ρ.set i (some d)) α1) (hi : X.N[i]? = some x := by rfl) (hx : Loc X.env.scope x := by first | exact Or.inl rfl | exact Or.inr rfl)
    (hs : swapsWith e (some (.Name x pos')) pos.line X.env = pure false := by rfl) (hf : X.fn x = true ∨ X.env.scope.names.lookup x = some .local := by first | exact .inl rfl | exact .inr rfl) : DS X n (.Assign [.Name x pos'] e pos) ρ α P := by
  intro A H0 E B σ H at_
  refine wps_of (ps_set hN hi hx pe_wp hs hf) (h _ σ H _ at_.rep fun v d B1 α1 H1 h1 g s q => ?_)
  exact ((at_.step g s).put (da_assoc q)).nx h1
/-- a, b = x, y: plain local names -/
theorem ds_par (i j : Nat) {y : Str} {px py pt : Pos} {kt k2 pt2} (hc : X.calm = true) (hN : X.N.Nodup) (h : DA X [a, b] ρ α fun ds α1 => ∃ d1 d2, ds = [d1, d2] ∧ P.nx ((ρ.set i (some d1)).set j (some d2)) α1) (hi : X.N[i]? = some x := by rfl) (hj : X.N[j]? = some y := by rfl) (hij : i ≠ j := by decide)
    (hx : X.env.scope.names.lookup x = some .local := by rfl) (hy : X.env.scope.names.lookup y = some .local := by rfl)
    (hw : swappedStores [.Tuple [.Name x px, .Name y py] kt pt] (.Tuple [a, b] k2 pt2) X.env = pure (some [x, y]) := by rfl)
    (hs : swapsWithSole [.Tuple [.Name x px, .Name y py] kt pt] (.Tuple [a, b] k2 pt2) pos.line X.env = pure false := by rfl) :
    DS X n (.Assign [.Tuple [.Name x px, .Name y py] kt pt] (.Tuple [a, b] k2 pt2) pos) ρ α P := by
  intro A H0 E B σ H at_
  refine wps_of (ps_par hc hN hi hj hij hx hy pa_wp hw hs) (h _ σ H _ at_.rep fun vs ds B1 α1 H1 h1 g s q => ?_)
  obtain ⟨d1, d2, rfl, h1⟩ := h1
  cases q with
  | cons q1 q =>
    cases q with
    | cons q2 q =>
      cases q
      exact ⟨_, _, rfl, (((at_.step g s).put (da_assoc q1)).put (da_assoc q2)).nx h1⟩
/-- xs.append(e), xs a cell -/
theorem ds_append {apos cpos : Pos} (h : DE X o ρ α fun d α1 => ∃ k, d = .acc k ∧ ∃ es, α1[k]? = some (.l es) ∧ DE X e ρ α1 fun d2 α2 => ∃ ds, α2[k]? = some (.l ds) ∧ ds.length < 1000000 ∧ P.nx ρ (α2.set k (.l (ds ++ [d2]))))
    (hbase : attributeBase o "append" X.env (eval o X.env) = eval o X.env := by rfl)
    (hfew : ((backTo cpos (starEach (e :: []) X.env)).all (fun x => !x.1) && (backToKw cpos (keywordEach [] X.env)).all (fun x => x.1.isSome)
      && decide ((e :: ([] : List Expr)).length + ([] : List Keyword).length + (if ([] : List Keyword).isEmpty then 0 else 1) < 30)) = true := by rfl)
    (hline : (apos.endLine == cpos.line) = true := by rfl) (hst : starEach (e :: []) X.env = (false, eval e X.env) :: starEach [] X.env := by rfl) (hplain : (backTo cpos (starEach [] X.env)).any (·.1) = false := by rfl)
    (hs : swapsWith (.Call (.Attribute o "append" apos) [e] [] cpos) none pos.line X.env = pure false := by rfl) :
    DS X n (.Expr (.Call (.Attribute o "append" apos) [e] [] cpos) pos) ρ α P := by
  intro A H0 E B σ H at_
  refine wps_of (ps_expr (pe_bm PySem.F.plainAttrs_list PySem.F.slot_list_append PySem.F.type_list_append mt_append pe_wp (pa_cons pe_wp pa_nil hst) hbase hfew hline hst hplain) hs) (h _ σ H _ at_.rep fun v d B1 α1 H1 h1 g s q => ?_)
  obtain ⟨k, rfl, h1⟩ := h1
  cases q with
  | acc hk =>
    rename_i c
    obtain ⟨es0, he0, h1⟩ := h1
    obtain ⟨c', ys, ec, hy, _⟩ := s.get he0
    rw [hk] at ec; cases ec
    refine ⟨.inl ⟨rfl, _, .inl (.inl hy)⟩, ?_⟩
    refine h1 _ σ H1 _ (at_.rep.mono g s) fun u d2 B2 α2 H2 h2 g2 s2 q2 => ?_
    obtain ⟨ds, e1, hz, h2⟩ := h2
    obtain ⟨a', xs, e2, e3, q3⟩ := s2.get e1
    rw [ix_app hk] at e2; cases e2
    refine ⟨_, xs, u, rfl, rfl, e3, by rw [q3.length]; exact Nat.lt_of_lt_of_le hz (by decide), ?_⟩
    have at1 := at_.step g s
    have at2 := at1.step (by rw [← List.append_assoc]; exact g2) (by rw [← List.append_assoc]; exact s2)
    have hk2 : (A ++ (B ++ B1 ++ B2))[k]? = some c := by rw [← List.append_assoc, ← List.append_assoc]; exact ix_app hk
    exact (at2.cell (cl := .l (ds ++ [d2])) hk2 ⟨_, rfl, Das.app (by rw [← List.append_assoc, ← List.append_assoc]; exact q3) (.cons (by rw [← List.append_assoc, ← List.append_assoc]; exact q2) .nil)⟩).nx h2
/-- xs[i] = e, xs a cell -/
theorem ds_setIx (h : DE X e ρ α fun d α1 => DE X o ρ α1 fun d1 α2 => DE X b ρ α2 fun d2 α3 => ∃ (k m : Nat) (ds : List D), d1 = .acc k ∧ d2 = .int m ∧ α3[k]? = some (.l ds) ∧ m < ds.length ∧ P.nx ρ (α3.set k (.l (ds.set m d))))
    (ha : ∀ v, assign (.Subscript o b pos') X.env v = (do
      let ov ← holding [v] (eval o X.env)
      let iv ← holding [v, ov] (eval b X.env)
      standAt pos'
      holding [v, ov, iv] (setItem ov iv v)
      release [v, ov, iv] []) := by intro _; rfl)
    (hs : swapsWithSole [.Subscript o b pos'] e pos.line X.env = pure false := by rfl) (hw : swappedStores [.Subscript o b pos'] e X.env = pure none := by rfl)
    (h1 : (assignEach [.Subscript o b pos'] X.env).map (·.2) = [assign (.Subscript o b pos') X.env] := by rfl) : DS X n (.Assign [.Subscript o b pos'] e pos) ρ α P := by
  intro A H0 E B σ H at_
  refine wps_of (ps_asg pe_wp (pg_sub pe_wp pe_wp set_list ha) hs hw h1) (h _ σ H _ at_.rep fun v d B1 α1 H1 h1 g s q => ?_)
  have at1 := at_.step g s
  refine h1 _ σ H1 _ at1.rep fun u d1 B2 α2 H2 h2 g2 s2 q2 => ?_
  have at2 := at1.step g2 s2
  refine h2 _ σ H2 _ at2.rep fun t d2 B3 α3 H3 h3 g3 s3 q3 => ?_
  have at3 := at2.step g3 s3
  obtain ⟨k, m, ds, rfl, rfl, e1, hm, h3⟩ := h3
  have q2' := da_assoc ((da_assoc q2).mono g3)
  cases q2' with
  | acc hk =>
    obtain ⟨a', xs, e2, e3, q4⟩ := at3.rep.so.get e1
    rw [hk] at e2; cases e2
    have hx : ixN xs.length (m : Int) = some m := by
      unfold ixN
      rw [if_pos (Int.natCast_nonneg m), if_pos (by rw [q4.length]; exact Int.ofNat_lt.mpr hm)]
      rfl
    have q' := da_assoc ((da_assoc ((da_assoc q).mono g2)).mono g3)
    exact ⟨_, xs, m, m, rfl, q3.int_inv, e3, hx, (at3.cell (cl := .l (ds.set m d)) hk ⟨_, rfl, Das.set q' m q4⟩).nx h3⟩
end
end DH

end

section
/-! DH, targets, what is walked, loops. -/
namespace DH
open PySem L2
theorem rep_nil {K : PySem.W.Frag} {A : List Addr} {H : Hp} {σ : L2.St} {ρ : Rho} {α : Sto} (r : Rep K A H σ ρ α) : Rep K (A ++ []) H σ ρ α := by rwa [List.append_nil]
section
variable {X : Cx}
def wpG (X : Cx) (tg : Expr) : TG := fun v σ H Q => ∀ pins s u, Inv X pins σ H s → RelV v u → wpAny (model X.prog X.w) X.A (assign tg X.env u) (fun _ s' => ∃ σ' H', Inv X pins σ' H' s' ∧ Q σ' H') X.xe s
def wpGs (X : Cx) (ts : List Expr) : TGs := fun vs σ H Q => ∀ pins s us, Inv X pins σ H s → Vals vs us → wpAny (model X.prog X.w) X.A (assignInOrder ((assignEach ts X.env).map (·.2)) us) (fun _ s' => ∃ σ' H', Inv X pins σ' H' s' ∧ Q σ' H') X.xe s
theorem pg_wp {tg : Expr} : PG X tg (wpG X tg) := ⟨fun pins s _ _ _ u _ I r h => h pins s u I r⟩
theorem pgs_wp {tg : List Expr} : PGs X tg (wpGs X tg) := ⟨fun pins s _ _ _ u _ I r h => h pins s u I r⟩
theorem wpg_of {tg : Expr} {t : TG} {v : V} {σ : L2.St} {H : Hp} {Q : L2.St → Hp → Prop} (h : PG X tg t) (q : t v σ H Q) : wpG X tg v σ H Q := fun pins s u I r => h.run pins s σ H v u Q I r q
theorem wpgs_of {tg : List Expr} {t : TGs} {v : List V} {σ : L2.St} {H : Hp} {Q : L2.St → Hp → Prop} (h : PGs X tg t) (q : t v σ H Q) : wpGs X tg v σ H Q := fun pins s u I r => h.run pins s σ H v u Q I r q
def ConG (K : PySem.W.Frag) (A : List Addr) (H : Hp) (R : Rho → Sto → Prop) (Q : L2.St → Hp → Prop) : Prop := ∀ ρ α B σ H', R ρ α → Gr A H B H' → Rep K (A ++ B) H' σ ρ α → Q σ H'
theorem ConG.now {K : PySem.W.Frag} {A : List Addr} {H : Hp} {R : Rho → Sto → Prop} {Q : L2.St → Hp → Prop} {ρ : Rho} {α : Sto} {σ : L2.St} (c : ConG K A H R Q) (r : Rep K A H σ ρ α) (h : R ρ α) : Q σ H := c ρ α [] σ H h (Gr.refl A H) (rep_nil r)
end
/-- a target takes d -/
def DG (X : Cx) (tg : Expr) (d : D) (ρ : Rho) (α : Sto) (R : Rho → Sto → Prop) : Prop := ∀ A σ H v Q, Rep X.K A H σ ρ α → Da X.K A H v d → ConG X.K A H R Q → wpG X tg v σ H Q
def DGs (X : Cx) (ts : List Expr) (ds : List D) (ρ : Rho) (α : Sto) (R : Rho → Sto → Prop) : Prop := ∀ A σ H vs Q, Rep X.K A H σ ρ α → Das X.K A H vs ds → ConG X.K A H R Q → wpGs X ts vs σ H Q
section
variable {X : Cx} {ρ : Rho} {α : Sto} {R : Rho → Sto → Prop} {x : Str} {pos : Pos} {d : D} {ds : List D} {e : Expr} {es : List Expr}
theorem dg_name (i : Nat) (hN : X.N.Nodup) (h : R (ρ.set i (some d)) α) (hi : X.N[i]? = some x := by rfl) (hx : Loc X.env.scope x := by first | exact Or.inl rfl | exact Or.inr rfl)
    (hf : X.fn x = true ∨ X.env.scope.names.lookup x = some .local := by first | exact .inl rfl | exact .inr rfl) : DG X (.Name x pos) d ρ α R :=
  fun A σ H v Q r q c => wpg_of (pg_name hN hi hx hf) (c.now (r.put q) h)
theorem dgs_nil (h : R ρ α) : DGs X [] [] ρ α R := fun A σ H vs Q r q c => by
  cases q
  exact wpgs_of pgs_nil ⟨rfl, c.now r h⟩
theorem dgs_cons (h : DG X e d ρ α fun ρ1 α1 => DGs X es ds ρ1 α1 R) (hs : (assignEach (e :: es) X.env).map (·.2) = assign e X.env :: (assignEach es X.env).map (·.2) := by rfl) : DGs X (e :: es) (d :: ds) ρ α R := by
  intro A σ H vs Q r q c
  cases q with
  | cons q qs =>
    refine wpgs_of (pgs_cons pg_wp pgs_wp hs) ⟨_, _, rfl, h A σ H _ _ r q fun ρ1 α1 B σ1 H1 h1 g r1 => ?_⟩
    exact h1 _ σ1 H1 _ Q r1 (qs.mono g) fun ρ2 α2 B2 σ2 H2 h2 g2 r2 => c ρ2 α2 (B ++ B2) σ2 H2 h2 (g.trans r1.so g2) (by rw [← List.append_assoc]; exact r2)
theorem dg_tup {k : Nat} {n : Nat} (hc : X.calm = true) (hl : ds.length = n) (h : DGs X es ds ρ α R) (hn : (assignEach es X.env).length = n := by rfl) (hst : (assignEach es X.env).findIdx? (·.1) = none := by rfl) : DG X (.Tuple es k pos) (.tup ds) ρ α R := by
  intro A σ H v Q r q c
  cases q with
  | tup n e qs =>
    refine wpg_of (pg_tup hc pgs_wp hn hst) ⟨_, _, rfl, .inl (.inl e), by rw [qs.length]; exact hl, ?_⟩
    exact h A σ H _ Q r qs c
end

/-! ### what is walked -/
def wpI (X : Cx) (tg iter : Expr) : TI := fun σ H R => ∀ pins s, Inv X pins σ H s →
  wpAny (model X.prog X.w) X.A (eval iter X.env) (fun v s1 => wpAny (model X.prog X.w) X.A (pyIter v) (PIE X pins σ tg R) X.xe s1) X.xe s
theorem pi_wp {X : Cx} {tg iter : Expr} : PI X tg iter (wpI X tg iter) := ⟨fun pins s _ _ _ I h => h pins s I⟩
theorem wpi_of {X : Cx} {tg iter : Expr} {t : TI} {σ : L2.St} {H : Hp} {R : It → Hp → Prop} (h : PI X tg iter t) (q : t σ H R) : wpI X tg iter σ H R := fun pins s I => h.run pins s σ H R I q
/-- while the store is as `stays` says, J yields ds one by one -/
def Yl (K : PySem.W.Frag) (A : List Addr) (H : Hp) (J : It) (ds : List D) (stays : Sto → Prop) : Prop :=
  ∀ B H' α', Gr A H B H' → So K (A ++ B) H' α' → stays α' → ∀ k,
    (ds.length ≤ k → J.stop k H') ∧ (∀ y, ds[k]? = some y → J.go k H' ∧ ∀ x H'', J.yld k H' x H'' → (∀ a o, H' a = some o → H'' a = some o) ∧ Da K (A ++ B) H'' x y)
def DI (X : Cx) (tg iter : Expr) (ρ : Rho) (α : Sto) (R : List D → (Sto → Prop) → Sto → Prop) : Prop :=
  ∀ A σ H Q, Rep X.K A H σ ρ α → (∀ J ds stays B α' H', R ds stays α' → Gr A H B H' → So X.K (A ++ B) H' α' → Yl X.K (A ++ B) H' J ds stays → Q J H') → wpI X tg iter σ H Q
section
variable {X : Cx} {ρ : Rho} {α : Sto} {R : List D → (Sto → Prop) → Sto → Prop} {a b e tg iter : Expr} {es : List Expr} {p pos : Pos}
theorem di_list (h : DE X iter ρ α fun d α1 => ∃ ds, isT d = false ∧ cont α1 d = some ds ∧ R ds (fun α' => cont α' d = some ds) α1) : DI X tg iter ρ α R := by
  intro A σ H Q r c
  refine wpi_of (pi_list pe_wp) (h A σ H _ r fun v d B α1 H1 h1 g s q => ?_)
  obtain ⟨ds, ht, hc, h1⟩ := h1
  obtain ⟨a, xs, rfl, hs, rr⟩ := readSeq s q hc
  rcases hs with ⟨_, hs⟩ | ⟨z, _⟩
  · refine ⟨a, rfl, ⟨xs, hs⟩, c _ ds _ B α1 H1 h1 g s fun B' H' α' g' s' st k => ?_⟩
    obtain ⟨a', ys, e', hs', rr'⟩ := readSeq s' (q.mono g') st
    cases e'
    rcases hs' with ⟨_, hs'⟩ | ⟨z, _⟩
    · refine ⟨fun hk => ⟨ys, hs', by rw [rr'.length]; exact hk⟩, fun y hy => ?_⟩
      obtain ⟨v, hv, qv⟩ := rr'.get hy
      refine ⟨⟨ys, v, hs', hv⟩, fun x H'' hx => ?_⟩
      obtain ⟨rfl, hx⟩ := hx
      have := hx ys hs'
      rw [hv] at this; cases this
      exact ⟨fun _ _ e => e, qv⟩
    · rw [ht] at z; cases z
  · rw [ht] at z; cases z
theorem di_tup (h : DE X iter ρ α fun d α1 => ∃ ds, d = .tup ds ∧ R ds (fun _ => True) α1) : DI X tg iter ρ α R := by
  intro A σ H Q r c
  refine wpi_of (pi_tup pe_wp) (h A σ H _ r fun v d B α1 H1 h1 g s q => ?_)
  obtain ⟨ds, rfl, h1⟩ := h1
  have q0 := q
  cases q with
  | tup na e rr =>
    rename_i a xs
    refine ⟨a, rfl, ⟨xs, .inl (.inl e)⟩, c _ ds _ B α1 H1 h1 g s fun B' H' α' g' s' _ k => ?_⟩
    have e' : SqT X.K H' a xs := .inl (.inl (g'.at_ _ _ na e))
    have rr' := rr.mono g'
    refine ⟨fun hk => ⟨xs, e', by rw [rr.length]; exact hk⟩, fun y hy => ?_⟩
    obtain ⟨v, hv, qv⟩ := rr'.get hy
    refine ⟨⟨xs, v, e', hv⟩, fun x H'' hx => ?_⟩
    obtain ⟨rfl, hx⟩ := hx
    have := hx xs e'
    rw [hv] at this; cases this
    exact ⟨fun _ _ e => e, qv⟩
/-- the ints from lo on, m of them -/
def rgD (lo : Int) (m : Nat) : List D := (List.range m).map fun i => D.int (lo + (i : Nat))
theorem rgD_get {lo : Int} {m k : Nat} {y : D} (h : (rgD lo m)[k]? = some y) : k < m ∧ y = .int (lo + (k : Nat)) := by
  unfold rgD at h
  rw [List.getElem?_map] at h
  have hk : k < m := by
    cases e : (List.range m)[k]? with
    | none => rw [e] at h; cases h
    | some z => have := (List.getElem?_eq_some_iff.mp e).1; simpa using this
  rw [List.getElem?_range hk] at h
  cases h
  exact ⟨hk, rfl⟩
theorem rgD_len {lo : Int} {m : Nat} : (rgD lo m).length = m := by simp [rgD]
theorem yl_rng {K : PySem.W.Frag} {A : List Addr} {H : Hp} {lo : Int} {m : Nat} : Yl K A H (Itr lo m) (rgD lo m) (fun _ => True) := by
  intro B H' α' g s _ k
  refine ⟨fun hk => by rw [rgD_len] at hk; exact hk, fun y hy => ?_⟩
  obtain ⟨hk, rfl⟩ := rgD_get hy
  refine ⟨hk, fun x H'' hx => ?_⟩
  obtain ⟨rfl, rfl⟩ := hx
  exact ⟨fun _ _ e => e, .int _⟩
theorem di_range1 (hm : X.mg "range" = none) (h : DE X a ρ α fun d α1 => ∃ j : Int, d = .int j ∧ -(2 ^ 62) ≤ j ∧ j < 2 ^ 62 ∧ R (rgD 0 j.toNat) (fun _ => True) α1) (hg : Gl X "range" := by rfl)
    (hs : starEach [a] X.env = [(false, eval a X.env)] := by rfl) : DI X tg (.Call (.Name "range" p) [a] [] pos) ρ α R := by
  intro A σ H Q r c
  refine wpi_of (pi_range1 hg hm (pa_cons pe_wp pa_nil hs) hs) (h A σ H _ r fun v d B α1 H1 h1 g s q => ?_)
  obtain ⟨j, rfl, l1, l2, h1⟩ := h1
  exact ⟨j, by rw [q.int_inv], l1, l2, c _ _ _ B α1 H1 h1 g s yl_rng⟩
theorem di_range2 (hm : X.mg "range" = none) (h : DE X a ρ α fun d1 α1 => DE X b ρ α1 fun d2 α2 => ∃ i j : Int, d1 = .int i ∧ d2 = .int j ∧ (-(2 ^ 62) ≤ i ∧ i < 2 ^ 62 ∧ -(2 ^ 62) ≤ j ∧ j < 2 ^ 62) ∧ R (rgD i (j - i).toNat) (fun _ => True) α2) (hg : Gl X "range" := by rfl)
    (hs : starEach [a, b] X.env = [(false, eval a X.env), (false, eval b X.env)] := by rfl) (hs1 : starEach [a, b] X.env = (false, eval a X.env) :: starEach [b] X.env := by rfl) (hs2 : starEach [b] X.env = (false, eval b X.env) :: starEach [] X.env := by rfl) : DI X tg (.Call (.Name "range" p) [a, b] [] pos) ρ α R := by
  intro A σ H Q r c
  refine wpi_of (pi_range2 hg hm (pa_cons pe_wp (pa_cons pe_wp pa_nil hs2) hs1) hs hs2) (h A σ H _ r fun v d B α1 H1 h1 g s q => ?_)
  refine h1 _ σ H1 _ (r.mono g s) fun v2 d2 B2 α2 H2 h2 g2 s2 q2 => ?_
  obtain ⟨i, j, rfl, rfl, l, h2⟩ := h2
  have s2' := s2
  rw [List.append_assoc] at s2'
  refine ⟨i, j, by rw [q.int_inv, q2.int_inv], l, c _ _ _ (B ++ B2) α2 H2 h2 (g.trans s g2) s2' yl_rng⟩
end

/-! ### for, while -/
section
variable {X : Cx} {n : Nat} {ρ : Rho} {α : Sto} {P : Post} {c tg iter : Expr} {pos : Pos} {body : List Stmt}
/-- ends told of the loop's entry, where they are wanted of the def's -/
theorem At.loop {K : PySem.W.Frag} {n : Nat} {A B : List Addr} {H0 H : Hp} {P : Post} {E : Ends} {σ : L2.St} {ρ : Rho} {α : Sto} (a : At K n A H0 P E B σ H ρ α) {Vn : Rho → Sto → Prop} {N : L2.St → Hp → Prop}
    (hN : ∀ ρ' α' B' σ' H', Vn ρ' α' → Gr (A ++ B) H B' H' → Rep K (A ++ B ++ B') H' σ' ρ' α' → N σ' H') :
    ConS K (A ++ B) H ⟨Vn, P.rt, P.nx, Vn⟩ { E with nx := N, ct := N, bk := E.nx } where
  nx := hN
  rt := fun d α' B' v H' h g s q => a.con.rt d α' (B ++ B') v H' h (a.gr.trans a.rep.so g) (by rw [← List.append_assoc]; exact s) (by rw [← List.append_assoc]; exact q)
  bk := fun ρ' α' B' σ' H' h g r => a.con.nx ρ' α' (B ++ B') σ' H' h (a.gr.trans a.rep.so g) (by rw [← List.append_assoc]; exact r)
  ct := hN
theorem ds_for (hp : PassesOwn (model X.prog X.w) X.A X.env X.xe) (hc : X.calm = true)
    (h : DI X tg iter ρ α fun ds stays α1 => ∃ V : Nat → Rho → Sto → Prop, V 0 ρ α1 ∧ (∀ k ρ' α', V k ρ' α' → stays α') ∧
      (∀ k y ρ' α', ds[k]? = some y → V k ρ' α' → DG X tg y ρ' α' fun ρ2 α2 => DSs X α1.length body ρ2 α2 ⟨V (k + 1), P.rt, P.nx, V (k + 1)⟩) ∧ (∀ ρ' α', V ds.length ρ' α' → P.nx ρ' α'))
    (hs : ∀ x, foldedSetIterable iter X.env x = pure x := by intro _; rfl) : DS X n (.For tg iter body [] pos) ρ α P := by
  intro A H0 E B σ H at_
  refine wps_of (ps_for hp hc pi_wp pg_wp pss_wp hs) (h _ σ H _ at_.rep fun J ds stays B1 α1 H1 h1 g1 s1 yl => ?_)
  obtain ⟨V, v0, vs, turn, fin⟩ := h1
  have at1 := at_.step g1 s1
  have yl1 : Yl X.K (A ++ (B ++ B1)) H1 J ds stays := by rw [← List.append_assoc]; exact yl
  refine ⟨fun k m σ' H' => m = ds.length - k ∧ k ≤ ds.length ∧ ∃ B' ρ' α', V k ρ' α' ∧ Gr (A ++ (B ++ B1)) H1 B' H' ∧ Rep X.K (A ++ (B ++ B1) ++ B') H' σ' ρ' α', ⟨_, rfl, Nat.zero_le _, [], ρ, α1, v0, Gr.refl _ _, rep_nil at1.rep⟩, ?_⟩
  rintro k m σ' H' ⟨rfl, hk, B', ρ', α', vk, g', r'⟩
  have yl' := yl1 B' H' α' g' r'.so (vs k ρ' α' vk) k
  by_cases hlt : k < ds.length
  · obtain ⟨go, yd⟩ := yl'.2 ds[k] (by simp [hlt])
    refine .inr ⟨go, fun σ3 H3 => ∃ B3 ρ3 α3, V (k + 1) ρ3 α3 ∧ Gr (A ++ (B ++ B1)) H1 B3 H3 ∧ Rep X.K (A ++ (B ++ B1) ++ B3) H3 σ3 ρ3 α3, fun σ3 H3 ⟨B3, ρ3, α3, v3, g3, a3⟩ => ⟨_, by omega, rfl, hlt, B3, ρ3, α3, v3, g3, a3⟩, fun x H'' hx => ?_⟩
    obtain ⟨keep, da⟩ := yd x H'' hx
    have gk : Gr (A ++ (B ++ B1) ++ B') H' [] H'' := gr_same keep
    have sk : So X.K (A ++ (B ++ B1) ++ B' ++ []) H'' α' := by rw [List.append_nil]; exact r'.so.same keep
    have r3 : Rep X.K (A ++ (B ++ B1) ++ B') H'' σ' ρ' α' := (r'.mono gk sk).app0
    have g3 : Gr (A ++ (B ++ B1)) H1 B' H'' := by have := g'.trans r'.so gk; rwa [List.append_nil] at this
    refine turn k ds[k] ρ' α' (by simp [hlt]) vk _ σ' H'' x _ r3 da fun ρ4 α4 B4 σ4 H4 h4 g4 r4 => ?_
    have g5 : Gr (A ++ (B ++ B1)) H1 (B' ++ B4) H4 := g3.trans r3.so g4
    refine h4 (A ++ (B ++ B1)) H1 _ (B' ++ B4) σ4 H4 ⟨by rw [at1.rep.so.len], g5, by rw [← List.append_assoc]; exact r4, at1.loop fun ρ5 α5 B5 σ5 H5 h5 g5 r5 => ⟨B5, ρ5, α5, h5, g5, r5⟩⟩
  · have e : k = ds.length := by omega
    subst e
    refine .inl ⟨yl'.1 (Nat.le_refl _), at1.con.nx ρ' α' (B ++ B1 ++ B') σ' H' (fin ρ' α' vk) (at1.gr.trans at1.rep.so g') (by rw [← List.append_assoc]; exact r')⟩
/-- while, by what holds and a measure -/
theorem ds_while (hp : PassesOwn (model X.prog X.w) X.A X.env X.xe) (V : Nat → Rho → Sto → Prop) (m0 : Nat) (h0 : V m0 ρ α)
    (turn : ∀ m ρ' α', V m ρ' α' → DT X c ρ' α' fun k α2 => if k = true then DSs X α.length body ρ' α2 ⟨fun ρ3 α3 => ∃ m', m' < m ∧ V m' ρ3 α3, P.rt, P.nx, fun ρ3 α3 => ∃ m', m' < m ∧ V m' ρ3 α3⟩ else P.nx ρ' α2) :
    DS X n (.While c body [] pos) ρ α P := by
  intro A H0 E B σ H at_
  refine wps_of (ps_while hp pt_wp pss_wp) ⟨fun m σ' H' => ∃ B' ρ' α', V m ρ' α' ∧ Gr (A ++ B) H B' H' ∧ Rep X.K (A ++ B ++ B') H' σ' ρ' α', ⟨m0, [], ρ, α, h0, Gr.refl _ _, rep_nil at_.rep⟩, ?_⟩
  rintro m σ' H' ⟨B', ρ', α', vk, g', r'⟩
  refine turn m ρ' α' vk _ σ' H' _ r' fun k B2 α2 H2 h2 g2 s2 => ?_
  have g3 : Gr (A ++ B) H (B' ++ B2) H2 := g'.trans r'.so g2
  have r3 : Rep X.K (A ++ B ++ (B' ++ B2)) H2 σ' ρ' α2 := by rw [← List.append_assoc]; exact r'.mono g2 s2
  show if k = true then _ else _
  cases k with
  | false =>
    rw [if_neg Bool.false_ne_true] at h2 ⊢
    exact at_.con.nx ρ' α2 (B ++ (B' ++ B2)) σ' H2 h2 (at_.gr.trans at_.rep.so g3) (by rw [← List.append_assoc]; exact r3)
  | true =>
    rw [if_pos rfl] at h2 ⊢
    refine ⟨fun σ3 H3 => ∃ m', m' < m ∧ ∃ B' ρ' α', V m' ρ' α' ∧ Gr (A ++ B) H B' H3 ∧ Rep X.K (A ++ B ++ B') H3 σ3 ρ' α', fun σ3 H3 z => z, ?_⟩
    exact h2 (A ++ B) H _ (B' ++ B2) σ' H2 ⟨at_.rep.so.len, g3, r3, at_.loop fun ρ5 α5 B5 σ5 H5 ⟨m', hm, h5⟩ g5 r5 => ⟨m', hm, B5, ρ5, α5, h5, g5, r5⟩⟩
end
end DH

end

section
/-! DH: cells let go; comprehensions. -/
namespace DH
open PySem L2
mutual
/-- no cell from n on -/
def D.na (n : Nat) : D → Bool
  | .lst ds => nas n ds
  | .tup ds => nas n ds
  | .pt ds => nas n ds
  | .fix ds => nas n ds
  | .obj _ _ ds => nas n ds
  | .acc k => decide (k < n)
  | .non => true
  | .bl _ => true
  | .int _ => true
  | .str _ => true
  | .raw _ => true
  | .exc _ _ _ d => d.na n
def nas (n : Nat) : List D → Bool
  | [] => true
  | d :: ds => d.na n && nas n ds
end
/-- a store whose lists name its own cells alone -/
def Cl.na (n : Nat) : Cl → Bool
  | .l ds => nas n ds
  | .o _ _ ds => nas n ds
  | .d _ => true
  | .kd es => nas n (es.map (·.2))
  | .td es => nas n (es.map (·.2))
  | .tb _ _ => true
def NaS (n : Nat) (α : Sto) : Prop := ∀ c ∈ α, c.na n = true
theorem nas_app {n : Nat} : ∀ {xs ys : List D}, nas n xs = true → nas n ys = true → nas n (xs ++ ys) = true
  | [], _, _, h => h
  | x :: xs, ys, h, h' => by
    simp only [nas, List.cons_append, Bool.and_eq_true] at h ⊢
    exact ⟨h.1, nas_app h.2 h'⟩
theorem nas_of {n : Nat} : ∀ {xs : List D}, (∀ x ∈ xs, x.na n = true) → nas n xs = true
  | [], _ => rfl
  | x :: xs, h => by
    simp only [nas, Bool.and_eq_true]
    exact ⟨h x (by simp), nas_of fun y hy => h y (by simp [hy])⟩
theorem nas_get {n : Nat} {d : D} : ∀ {xs : List D}, nas n xs = true → d ∈ xs → d.na n = true
  | x :: xs, h, hm => by
    simp only [nas, Bool.and_eq_true] at h
    rcases List.mem_cons.mp hm with rfl | hm
    · exact h.1
    · exact nas_get h.2 hm
theorem nas_ints {n : Nat} (ns : List Int) : nas n (ns.map D.int) = true := nas_of fun x hx => by
  obtain ⟨i, _, rfl⟩ := List.mem_map.mp hx
  rfl
mutual
theorem na_mono {n m : Nat} (h : n ≤ m) : ∀ {d : D}, d.na n = true → d.na m = true
  | .lst ds, q => by simp only [D.na] at q ⊢; exact nas_mono h q
  | .tup ds, q => by simp only [D.na] at q ⊢; exact nas_mono h q
  | .pt ds, q => by simp only [D.na] at q ⊢; exact nas_mono h q
  | .fix ds, q => by simp only [D.na] at q ⊢; exact nas_mono h q
  | .obj _ _ ds, q => by simp only [D.na] at q ⊢; exact nas_mono h q
  | .acc k, q => by simp only [D.na, decide_eq_true_eq] at q ⊢; exact Nat.lt_of_lt_of_le q h
  | .non, _ => rfl
  | .bl _, _ => rfl
  | .int _, _ => rfl
  | .str _, _ => rfl
  | .raw _, _ => rfl
  | .exc _ _ _ d, q => by simp only [D.na] at q ⊢; exact na_mono h q
theorem nas_mono {n m : Nat} (h : n ≤ m) : ∀ {ds : List D}, nas n ds = true → nas m ds = true
  | [], _ => rfl
  | d :: ds, q => by
    simp only [nas, Bool.and_eq_true] at q ⊢
    exact ⟨na_mono h q.1, nas_mono h q.2⟩
end
theorem NaS.set {n : Nat} {α : Sto} {k : Nat} {ds : Cl} (h : NaS n α) (hd : ds.na n = true) : NaS n (α.set k ds) := fun es he => by
  rcases List.mem_or_eq_of_mem_set he with he | rfl
  · exact h es he
  · exact hd
theorem Cl.na_mono {n m : Nat} (l : n ≤ m) : ∀ {c : Cl}, c.na n = true → c.na m = true
  | .l _, h => nas_mono l h
  | .o _ _ _, h => nas_mono l h
  | .d _, _ => rfl
  | .kd _, h => nas_mono l h
  | .td _, h => nas_mono l h
  | .tb _ _, _ => rfl
theorem NaS.app {n : Nat} {α : Sto} {ds : Cl} (h : NaS n α) (hd : ds.na n = true) : NaS n (α ++ [ds]) := fun es he => by
  rcases List.mem_append.mp he with he | he
  · exact h es he
  · simp at he; subst he; exact hd
theorem NaS.mono {n m : Nat} {α : Sto} (l : n ≤ m) (h : NaS n α) : NaS m α := fun ds hd => Cl.na_mono l (h ds hd)
section
variable {K : PySem.W.Frag} {A B : List Addr} {H : Hp} {α : Sto}
mutual
theorem Da.na : ∀ {v : V} {d : D}, Da K A H v d → d.na A.length = true
  | _, _, .non => rfl
  | _, _, .bl _ => rfl
  | _, _, .int _ => rfl
  | _, _, .str _ => rfl
  | _, _, .lst _ _ r => by simp only [D.na]; exact r.na
  | _, _, .fix _ r => by simp only [D.na]; exact r.na
  | _, _, .tup _ _ r => by simp only [D.na]; exact r.na
  | _, _, .pt _ _ _ _ r => by simp only [D.na]; exact r.na
  | _, _, .obj _ _ r => by simp only [D.na]; exact r.na
  | _, _, .acc e => by simp only [D.na, decide_eq_true_eq]; exact (List.getElem?_eq_some_iff.mp e).1
  | _, _, .raw _ => rfl
  | _, _, .exc _ _ r => by simp only [D.na]; exact r.na
theorem Das.na : ∀ {vs : List V} {ds : List D}, Das K A H vs ds → nas A.length ds = true
  | _, _, .nil => rfl
  | _, _, .cons h t => by simp only [nas, Bool.and_eq_true]; exact ⟨h.na, t.na⟩
end
theorem Pr.na {κ : Type} : ∀ {vs : List (κ × V)} {ds : List (κ × D)}, Pr K A H vs ds → nas A.length (ds.map (·.2)) = true
  | _, _, .nil => rfl
  | _, _, .cons h t => by simp only [nas, List.map_cons, Bool.and_eq_true]; exact ⟨h.na, t.na⟩
theorem So.na (s : So K A H α) : NaS α.length α := fun ds hd => by
  obtain ⟨k, hk, e⟩ := List.mem_iff_getElem.mp hd
  obtain ⟨a, _, o, _, q⟩ := s.getC (k := k) (c := ds) (by simp [hk, e])
  rw [← s.len]
  cases ds with
  | l es => obtain ⟨_, _, q⟩ := q; exact q.na
  | o C ns es => obtain ⟨_, _, _, _, q⟩ := q; exact q.na
  | d es => rfl
  | kd es => obtain ⟨_, _, q⟩ := q; exact q.na
  | td es => obtain ⟨_, _, q⟩ := q; exact q.na
  | tb _ q => rfl
theorem not_l {a : Addr} (h : a ∉ A ++ B) : a ∉ A := fun z => h (List.mem_append_left _ z)
mutual
theorem Da.drop : ∀ {v : V} {d : D}, Da K (A ++ B) H v d → d.na A.length = true → Da K A H v d
  | _, _, .non, _ => .non
  | _, _, .bl b, _ => .bl b
  | _, _, .int i, _ => .int i
  | _, _, .str x, _ => .str x
  | _, _, .lst n e r, h => .lst (not_l n) e (r.dropAll (by simpa only [D.na] using h))
  | _, _, .fix e r, h => .fix (e.elim (fun z => .inl ⟨not_l z.1, z.2⟩) .inr) (r.dropAll (by simpa only [D.na] using h))
  | _, _, .tup n e r, h => .tup (not_l n) e (r.dropAll (by simpa only [D.na] using h))
  | _, _, .pt n e c d r, h => .pt (not_l n) e c d (r.dropAll (by simpa only [D.na] using h))
  | _, _, .obj n e r, h => .obj (not_l n) e (r.dropAll (by simpa only [D.na] using h))
  | _, .acc k, .acc e, h => by
    have hk : k < A.length := by simpa only [D.na, decide_eq_true_eq] using h
    rw [List.getElem?_append_left hk] at e
    exact .acc e
  | _, _, .raw v, _ => .raw v
  | _, _, .exc n e r, h => .exc (not_l n) e (r.drop (by simpa only [D.na] using h))
theorem Das.dropAll : ∀ {vs : List V} {ds : List D}, Das K (A ++ B) H vs ds → nas A.length ds = true → Das K A H vs ds
  | _, _, .nil, _ => .nil
  | _, _, .cons q t, h => by
    simp only [nas, Bool.and_eq_true] at h
    exact .cons (q.drop h.1) (t.dropAll h.2)
end
theorem Pr.drop {κ : Type} : ∀ {vs : List (κ × V)} {ds : List (κ × D)}, Pr K (A ++ B) H vs ds → nas A.length (ds.map (·.2)) = true → Pr K A H vs ds
  | _, _, .nil, _ => .nil
  | _, _, .cons q t, h => by
    simp only [nas, List.map_cons, Bool.and_eq_true] at h
    exact .cons (q.drop h.1) (t.drop h.2)
theorem So.drop {β : Sto} (s : So K (A ++ B) H (α ++ β)) (hl : A.length = α.length) (h : NaS α.length α) : So K A H α := by
  refine ⟨hl, (List.nodup_append.mp s.nd).1, fun k a ds h1 h2 => ?_, fun k a P q h1 h2 => s.own k a P q (ix_app h1) (by rw [List.getElem?_append_left (List.getElem?_eq_some_iff.mp h2).1]; exact h2)⟩
  have hk := (List.getElem?_eq_some_iff.mp h2).1
  obtain ⟨o, e, q⟩ := s.cell k a ds (ix_app h1) (by rw [List.getElem?_append_left hk]; exact h2)
  have hn := h ds (List.mem_of_getElem? h2)
  rw [← hl] at hn
  refine ⟨o, e, ?_⟩
  cases ds with
  | l es => obtain ⟨xs, e, q⟩ := q; exact ⟨xs, e, q.dropAll hn⟩
  | o C ns es => obtain ⟨dx, xs, e, l, q⟩ := q; exact ⟨dx, xs, e, l, q.dropAll hn⟩
  | d es => exact q
  | kd es => obtain ⟨xs, e, q⟩ := q; exact ⟨xs, e, q.drop hn⟩
  | td es => obtain ⟨xs, e, q⟩ := q; exact ⟨xs, e, q.drop hn⟩
  | tb _ t => obtain ⟨ps, e, t, h⟩ := q; exact ⟨ps, e, t, fun pos cv hc => let ⟨c, e1, n, e2⟩ := h pos cv hc; ⟨c, e1, not_l n, e2⟩⟩
/-- a cell as a tree -/
def Cl.tree : Cl → D
  | .l ds => .lst ds
  | .o C ns ds => .obj C ns ds
  | .d _ => .non
  | .kd _ => .non
  | .td _ => .non
  | .tb _ _ => .non
/-- a cell that may become a tree -/
def Cl.fz : Cl → Bool
  | .l _ => true
  | .o _ _ _ => true
  | _ => false
/-- the last cell becomes a tree -/
theorem So.freeze {p : Addr} {c : Cl} (s : So K (A ++ [p]) H (α ++ [c])) (h : NaS α.length α) (hc : c.na α.length = true) (hf : c.fz = true) : So K A H α ∧ Da K A H (.ref p) c.tree := by
  have hl : A.length = α.length := by have := s.len; simp at this; exact this
  refine ⟨s.drop hl h, ?_⟩
  obtain ⟨o, e, q⟩ := s.cell A.length p c (by simp) (by rw [hl]; simp)
  have np : p ∉ A := fun z => by
    have := List.nodup_append.mp s.nd
    exact this.2.2 p z p (by simp) rfl
  rw [← hl] at hc
  cases c with
  | l ds => obtain ⟨xs, rfl, q⟩ := q; exact .lst np e (q.dropAll hc)
  | o C ns ds => obtain ⟨dx, xs, rfl, l, q⟩ := q; exact .obj np e (q.dropAll hc)
  | d es => cases hf
  | kd es => cases hf
  | td es => cases hf
  | tb _ q => cases hf
end
/-- slots behind the freezing of cell k, which held c -/
inductive Fz (k : Nat) (c : Cl) : Rho → Rho → Prop
  | nil : Fz k c [] []
  | keep {d : D} {r r' : Rho} : d.na k = true → Fz k c r r' → Fz k c (some d :: r) (some d :: r')
  | none {r r' : Rho} : Fz k c r r' → Fz k c (none :: r) (none :: r')
  | let_ {d : D} {r r' : Rho} : Fz k c r r' → Fz k c (some d :: r) (none :: r')
  | here {r r' : Rho} : Fz k c r r' → Fz k c (some (.acc k) :: r) (some c.tree :: r')
theorem Fz.len {k : Nat} {c : Cl} : ∀ {r r' : Rho}, Fz k c r r' → r.length = r'.length
  | _, _, .nil => rfl
  | _, _, .keep _ t => congrArg (· + 1) t.len
  | _, _, .none t => congrArg (· + 1) t.len
  | _, _, .let_ t => congrArg (· + 1) t.len
  | _, _, .here t => congrArg (· + 1) t.len
theorem Fz.get {k : Nat} {c : Cl} : ∀ {r r' : Rho} {i : Nat} {d' : D}, Fz k c r r' → r'[i]? = some (some d') → ∃ d, r[i]? = some (some d) ∧ ((d' = d ∧ d.na k = true) ∨ (d = .acc k ∧ d' = c.tree))
  | _, _, 0, _, .keep h _, e => by simp at e; subst e; exact ⟨_, rfl, .inl ⟨rfl, h⟩⟩
  | _, _, 0, _, .here _, e => by simp at e; subst e; exact ⟨_, rfl, .inr ⟨rfl, rfl⟩⟩
  | _, _, 0, _, .none _, e => by simp at e
  | _, _, 0, _, .let_ _, e => by simp at e
  | _, _, i + 1, d', .keep _ t, e => by simpa using Fz.get (i := i) (d' := d') t (by simpa using e)
  | _, _, i + 1, d', .here t, e => by simpa using Fz.get (i := i) (d' := d') t (by simpa using e)
  | _, _, i + 1, d', .none t, e => by simpa using Fz.get (i := i) (d' := d') t (by simpa using e)
  | _, _, i + 1, d', .let_ t, e => by simpa using Fz.get (i := i) (d' := d') t (by simpa using e)
theorem last_split {A B : List Addr} {m : Nat} (h : (A ++ B).length = m + 1) (hA : A.length ≤ m) : ∃ B1 p, B = B1 ++ [p] ∧ (A ++ B1).length = m := by
  have hB : B ≠ [] := fun z => by subst z; simp at h; omega
  refine ⟨B.dropLast, B.getLast hB, (List.dropLast_concat_getLast hB).symm, ?_⟩
  simp at h ⊢
  omega
section
variable {X : Cx} {n : Nat} {ρ ρ' : Rho} {α : Sto} {P : Post} {R : RE} {c : Cl} {st : List Stmt} {e : Expr}
theorem dss_frz (hn : n ≤ α.length) (h : NaS α.length α) (hc : c.na α.length = true) (hz : Fz α.length c ρ ρ') (hd : DSs X n st ρ' α P) (hf : c.fz = true := by rfl) : DSs X n st ρ (α ++ [c]) P := by
  intro A H0 E B σ H at_
  have hl : (A ++ B).length = α.length + 1 := by have := at_.rep.so.len; simpa using this
  obtain ⟨B1, p, rfl, hl1⟩ := last_split hl (by rw [at_.len]; exact hn)
  have so := at_.rep.so
  rw [← List.append_assoc] at so
  obtain ⟨s1, q1⟩ := so.freeze h hc hf
  refine hd A H0 E B1 σ H ⟨at_.len, ⟨fun b hb => at_.gr.new b (by simp [hb]), at_.gr.old⟩, ⟨s1, by rw [at_.rep.len, hz.len], fun i d hi => ?_⟩, at_.con⟩
  obtain ⟨d0, e0, h0⟩ := hz.get hi
  obtain ⟨v, ev, qv⟩ := at_.rep.slot i d0 e0
  refine ⟨v, ev, ?_⟩
  rw [← List.append_assoc] at qv
  rcases h0 with ⟨rfl, hna⟩ | ⟨rfl, rfl⟩
  · exact qv.drop (by rw [hl1]; exact hna)
  · cases qv with
    | acc ea =>
      rw [← hl1, List.getElem?_append_right (Nat.le_refl _)] at ea
      simp at ea
      subst ea
      exact q1
theorem de_frz (h : DE X e ρ α fun d α' => ∃ α1 c, d = .acc α1.length ∧ α' = α1 ++ [c] ∧ α.length ≤ α1.length ∧ NaS α1.length α1 ∧ c.na α1.length = true ∧ c.fz = true ∧ R c.tree α1) : DE X e ρ α R := by
  intro A σ H Q rep con
  refine h A σ H Q rep fun v d B α' H' h1 g s q => ?_
  obtain ⟨α1, c, rfl, rfl, hle, hα, hc, hf, h1⟩ := h1
  have hl : (A ++ B).length = α1.length + 1 := by have := s.len; simpa using this
  obtain ⟨B1, p, rfl, hl1⟩ := last_split hl (by rw [rep.so.len]; exact hle)
  rw [← List.append_assoc] at s q
  obtain ⟨s1, q1⟩ := s.freeze hα hc hf
  have ev : v = .ref p := by
    cases q with
    | acc ea =>
      rw [← hl1, List.getElem?_append_right (Nat.le_refl _)] at ea
      simp at ea
      rw [ea]
  subst ev
  exact con _ _ B1 α1 H' h1 ⟨fun b hb => g.new b (by simp [hb]), g.old⟩ s1 q1
end

/-! ### comprehensions -/
def wipeR (ρ : Rho) : List Nat → Rho
  | [] => ρ
  | v :: vs => (wipeR ρ vs).set v none
theorem wipeR_len (ρ : Rho) : ∀ vs : List Nat, (wipeR ρ vs).length = ρ.length
  | [] => rfl
  | v :: vs => by unfold wipeR; rw [List.length_set, wipeR_len ρ vs]
theorem rep_none {K : PySem.W.Frag} {A : List Addr} {H : Hp} {σ : L2.St} {ρ : Rho} {α : Sto} {i : Nat} (r : Rep K A H σ ρ α) : Rep K A H (σ.set i none) (ρ.set i none) α := by
  refine ⟨r.so, by simp [r.len], fun j e h => ?_⟩
  by_cases hj : j = i
  · subst hj
    have hl := (List.getElem?_eq_some_iff.mp h).1
    simp at hl
    rw [List.getElem?_set_self hl] at h
    cases h
  · rw [List.getElem?_set_ne (Ne.symm hj)] at h ⊢
    exact r.slot j e h
theorem rep_wipe {K : PySem.W.Frag} {A : List Addr} {H : Hp} {σ : L2.St} {ρ : Rho} {α : Sto} (r : Rep K A H σ ρ α) : ∀ vs : List Nat, Rep K A H (wipe σ vs) (wipeR ρ vs) α
  | [] => r
  | v :: vs => by unfold wipe wipeR; exact rep_none (rep_wipe r vs)
theorem wipe_get (σ : L2.St) : ∀ (vs : List Nat) (j : Nat), (wipe σ vs)[j]? = if j ∈ vs then (if j < σ.length then some none else none) else σ[j]?
  | [], j => by simp [wipe]
  | v :: vs, j => by
    unfold wipe
    rw [List.getElem?_set, wipe_length, wipe_get σ vs j]
    by_cases hv : v = j
    · subst hv; simp
    · rw [if_neg hv]
      have : (j ∈ v :: vs) = (j ∈ vs) := by simp [Ne.symm hv]
      simp [this]
theorem wipe_back {σ : L2.St} {vs : List Nat} {i : Nat} {x : Option V} (hi : i ∈ vs) : wipe ((wipe σ vs).set i x) vs = wipe σ vs := by
  apply List.ext_getElem?
  intro j
  rw [wipe_get, wipe_get, List.length_set, wipe_length, List.getElem?_set, wipe_length, wipe_get]
  by_cases hj : j ∈ vs
  · simp [hj]
  · have : i ≠ j := fun z => hj (z ▸ hi)
    simp [hj, this]
section
variable {X : Cx} {ρ : Rho} {α : Sto} {R : RE} {elt iter : Expr} {ifs : List Expr} {scope : Scope} {own : List (Str × Nat)} {x : Str} {p pos : Pos}
def wpTs (X : Cx) (ifs : List Expr) : TT := fun σ H Q => ∀ pins s, Inv X pins σ H s →
  wpAny (model X.prog X.w) X.A (forIn ifs true fun c r => if r = true then do let ok ← isTrue c X.env (eval c X.env); pure (ForInStep.yield ok) else pure (ForInStep.yield r)) (TP X pins σ Q) X.xe s
theorem pts_wp {ifs : List Expr} : PTs X ifs (wpTs X ifs) := ⟨fun pins s _ _ _ I h => h pins s I⟩
theorem wpts_of {ifs : List Expr} {t : TT} {σ : L2.St} {H : Hp} {Q : Bool → Hp → Prop} (h : PTs X ifs t) (q : t σ H Q) : wpTs X ifs σ H Q := fun pins s I => h.run pins s σ H Q I q
def DTs (X : Cx) (ifs : List Expr) (ρ : Rho) (α : Sto) (R : Bool → Sto → Prop) : Prop := ∀ A σ H Q, Rep X.K A H σ ρ α → ConT X.K A H R Q → wpTs X ifs σ H Q
theorem dts_nil {R : Bool → Sto → Prop} (h : R true α) : DTs X [] ρ α R := fun A σ H Q r c => wpts_of pts_nil (c.now r.so h)
theorem dts_one {R : Bool → Sto → Prop} {c : Expr} (h : DT X c ρ α R) : DTs X [c] ρ α R := fun A σ H Q r con => wpts_of (pts_one pt_wp) (h A σ H Q r con)
def blkT (X : Cx) (scope : Scope) (ifs : List Expr) : TT := fun σ H Q => ∀ s H' C cl fp, wpTs (X.blk s H' scope (compEnvC scope cl C X.env) fp) ifs σ H Q
def blkE (X : Cx) (scope : Scope) (elt : Expr) : TE := fun σ H Q => ∀ s H' C cl fp, wpE (X.blk s H' scope (compEnvC scope cl C X.env) fp) elt σ H Q
theorem blkT_ok (X : Cx) (scope : Scope) (ifs : List Expr) (s : Shared) (H : Hp) (C : Addr) (cl : List (Str × Addr)) (fp : List Addr) : PTs (X.blk s H scope (compEnvC scope cl C X.env) fp) ifs (blkT X scope ifs) :=
  ⟨fun pins s' σ H' Q I h => h s H C cl fp pins s' I⟩
theorem blkE_ok (X : Cx) (scope : Scope) (elt : Expr) (s : Shared) (H : Hp) (C : Addr) (cl : List (Str × Addr)) (fp : List Addr) : PE (X.blk s H scope (compEnvC scope cl C X.env) fp) elt (blkE X scope elt) :=
  ⟨fun pins s' σ H' Q I h => h s H C cl fp pins s' I⟩
/-- [elt for x in iter if ..]: the new list is a cell -/
def LcD (X : Cx) (elt iter : Expr) (ifs : List Expr) (scope : Scope) (vs : List Nat) (x : Str) (p : Pos) (i : Nat) (ρ : Rho) (α : Sto) (R : RE) : Prop :=
  DI X (.Name x p) iter ρ α fun ds stays α1 => ∃ V : Nat → Sto → Prop, V 0 (α1 ++ [.l []]) ∧ (∀ k α', V k α' → stays α') ∧
    (∀ k y α', ds[k]? = some y → V k α' → ∀ s H C cl fp, DTs (X.blk s H scope (compEnvC scope cl C X.env) fp) ifs ((wipeR ρ vs).set i (some y)) α' fun b α2 =>
      if b = true then ∀ s H C cl fp, DE (X.blk s H scope (compEnvC scope cl C X.env) fp) elt ((wipeR ρ vs).set i (some y)) α2 fun z α3 => ∃ acc, α3[α1.length]? = some (.l acc) ∧ acc.length < 1000000 ∧ V (k + 1) (α3.set α1.length (.l (acc ++ [z])))
      else V (k + 1) α2) ∧
    (∀ α', V ds.length α' → R (.acc α1.length) α')
theorem lc_read {vs : List Nat} {i : Nat} (hi : i ∈ vs) (h : LcD X elt iter ifs scope vs x p i ρ α R) {A : List Addr} {σ : L2.St} {H : Hp} {Q : VK} (rep : Rep X.K A H σ ρ α) (con : Con X.K A H R Q) :
    tLc (wpI X (.Name x p) iter) (gName i) (blkT X scope ifs) (blkE X scope elt) vs σ H Q := by
  refine h A σ H _ rep fun J ds stays B1 α1 H1 h1 g1 s1 yl L hL => ?_
  obtain ⟨V, v0, st, turn, fin⟩ := h1
  obtain ⟨s2, g2⟩ := s1.cellNew (c := .l []) hL ⟨[], rfl, .nil⟩
  have rep1 := rep.mono g1 s1
  have rep2 := rep1.mono g2 s2
  -- cells: A ++ B1, the list L, what the elements make
  refine ⟨fun k m H' => m = ds.length - k ∧ k ≤ ds.length ∧ ∃ B' α', V k α' ∧ Gr (A ++ B1 ++ [L]) (upd H1 L (.lst [])) B' H' ∧ So X.K (A ++ B1 ++ [L] ++ B') H' α', ⟨_, rfl, Nat.zero_le _, [], _, v0, Gr.refl _ _, by rw [List.append_nil]; exact s2⟩, ?_⟩
  rintro k m H' ⟨rfl, hk, B', α', vk, g', s'⟩
  have gt : Gr (A ++ B1) H1 ([L] ++ B') H' := g2.trans s2 g'
  have st' : So X.K (A ++ B1 ++ ([L] ++ B')) H' α' := by rw [← List.append_assoc]; exact s'
  have yl' := yl ([L] ++ B') H' α' gt st' (st k α' vk) k
  by_cases hlt : k < ds.length
  · obtain ⟨go, yd⟩ := yl'.2 ds[k] (by simp [hlt])
    refine .inr ⟨go, fun H3 => ∃ B3 α3, V (k + 1) α3 ∧ Gr (A ++ B1 ++ [L]) (upd H1 L (.lst [])) B3 H3 ∧ So X.K (A ++ B1 ++ [L] ++ B3) H3 α3, fun H3 ⟨B3, α3, v3, g3, a3⟩ => ⟨_, by omega, rfl, hlt, B3, α3, v3, g3, a3⟩, fun y H'' hy => ?_⟩
    obtain ⟨keep, da⟩ := yd y H'' hy
    have gk : Gr (A ++ B1 ++ [L] ++ B') H' [] H'' := gr_same keep
    have sk : So X.K (A ++ B1 ++ [L] ++ B') H'' α' := s'.same keep
    have gk3 : Gr (A ++ B1 ++ [L]) (upd H1 L (.lst [])) B' H'' := by have := g'.trans s' gk; rwa [List.append_nil] at this
    have rk : Rep X.K (A ++ B1 ++ [L] ++ B') H'' σ ρ α' := (rep2.mono gk3 sk)
    have da' : Da X.K (A ++ B1 ++ [L] ++ B') H'' y ds[k] := by rw [← List.append_assoc] at da; exact da
    have rw_ : Rep X.K (A ++ B1 ++ [L] ++ B') H'' ((wipe σ vs).set i (some y)) ((wipeR ρ vs).set i (some ds[k])) α' := (rep_wipe rk vs).put da'
    refine ⟨wipe_back hi, fun s H0 C cl fp => ?_⟩
    refine turn k ds[k] α' (by simp [hlt]) vk s H0 C cl fp _ _ H'' _ rw_ fun b B4 α4 H4 h4 g4 s4 => ?_
    have g5 : Gr (A ++ B1 ++ [L]) (upd H1 L (.lst [])) (B' ++ B4) H4 := gk3.trans sk g4
    have s5 : So X.K (A ++ B1 ++ [L] ++ (B' ++ B4)) H4 α4 := by rw [← List.append_assoc]; exact s4
    show if b = true then _ else _
    cases b with
    | false =>
      rw [if_neg Bool.false_ne_true] at h4 ⊢
      exact ⟨_, α4, h4, g5, s5⟩
    | true =>
      rw [if_pos rfl] at h4 ⊢
      intro s' H0' C' cl' fp'
      have r4 : Rep X.K (A ++ B1 ++ [L] ++ B' ++ B4) H4 ((wipe σ vs).set i (some y)) ((wipeR ρ vs).set i (some ds[k])) α4 := rw_.mono g4 s4
      refine h4 s' H0' C' cl' fp' _ _ H4 _ r4 fun v z B5 α5 H5 h5 g6 s6 q6 => ?_
      obtain ⟨acc, ea, hz, h5⟩ := h5
      obtain ⟨a', xs, e2, e3, q3⟩ := s6.get ea
      have hL : (A ++ B1 ++ [L] ++ B' ++ B4 ++ B5)[α1.length]? = some L := by
        rw [← s1.len]
        simp [List.append_assoc]
      rw [hL] at e2; cases e2
      obtain ⟨s7, g7⟩ := s6.put (c := .l (acc ++ [z])) hL ⟨_, rfl, q3.app (.cons q6 .nil)⟩
      refine ⟨xs, e3, by rw [q3.length]; exact Nat.lt_of_lt_of_le hz (by decide), B' ++ B4 ++ B5, _, h5, ?_, ?_⟩
      · have ga := (g5.trans s5 (by rw [← List.append_assoc]; exact g6))
        have sa : So X.K (A ++ B1 ++ [L] ++ (B' ++ B4 ++ B5)) H5 α5 := by rw [← List.append_assoc, ← List.append_assoc]; exact s6
        have gb := ga.trans sa (by rw [← List.append_assoc, ← List.append_assoc]; exact g7)
        rwa [List.append_nil] at gb
      · rw [← List.append_assoc, ← List.append_assoc]; exact s7
  · have e : k = ds.length := by omega
    subst e
    refine .inl ⟨yl'.1 (Nat.le_refl _), con (.ref L) _ (B1 ++ ([L] ++ B')) α' H' (fin α' vk) (g1.trans s1 gt) (by rw [← List.append_assoc]; exact st') (.acc ?_)⟩
    rw [← List.append_assoc, ← s1.len, List.getElem?_append_right (Nat.le_refl _)]
    simp
theorem de_lc (i : Nat) (hc : X.calm = true) (hN : X.N.Nodup) (ok : BlkOk X.N X.env.scope scope own) (hi : i ∈ own.map (·.2))
    (hg : ∀ (s : Shared) (H : Hp) (C : Addr) (cl : List (Str × Addr)) (fp : List Addr), PG (X.blk s H scope (compEnvC scope cl C X.env) fp) (.Name x p) (gName i))
    (h : LcD X elt iter ifs scope (own.map (·.2)) x p i ρ α R) (hs : ∀ x, foldedSetIterable iter X.env x = pure x := by intro _; rfl) : DE X (.ListComp elt [⟨.Name x p, iter, ifs, 0⟩] scope pos) ρ α R := by
  intro A σ H Q rep con
  exact wp_of (pe_lc hc hN pi_wp ok hg (blkT_ok X scope ifs) (blkE_ok X scope elt) hs) (lc_read hi h rep con)
theorem ds_setLc {n : Nat} {P : Post} {y : Str} {py spos : Pos} (j i : Nat) (hc : X.calm = true) (hN : X.N.Nodup) (ok : BlkOk X.N X.env.scope scope own) (hi : i ∈ own.map (·.2))
    (hg : ∀ (s : Shared) (H : Hp) (C : Addr) (cl : List (Str × Addr)) (fp : List Addr), PG (X.blk s H scope (compEnvC scope cl C X.env) fp) (.Name x p) (gName i))
    (hsw : swapsWith (.ListComp elt [⟨.Name x p, iter, ifs, 0⟩] scope pos) (some (.Name y py)) spos.line X.env = pure true)
    (h : LcD X elt iter ifs scope (own.map (·.2)) x p i ρ α fun d α1 => P.nx (ρ.set j (some d)) α1) (hy : X.N[j]? = some y := by rfl) (hyl : X.env.scope.names.lookup y = some .local := by rfl) (hs : ∀ x, foldedSetIterable iter X.env x = pure x := by intro _; rfl) :
    DS X n (.Assign [.Name y py] (.ListComp elt [⟨.Name x p, iter, ifs, 0⟩] scope pos) spos) ρ α P := by
  intro A H0 E B σ H at_
  refine wps_of (ps_setLc hc hN hy hyl hsw pi_wp ok hg (blkT_ok X scope ifs) (blkE_ok X scope elt) hs) ?_
  refine lc_read hi h at_.rep fun v d B1 α1 H1 h1 g s q => ?_
  exact ((at_.step g s).put (da_assoc q)).nx h1
end
end DH

end

section
/-! DH: fields, instances made, slices, pop, op=, enumerate, the rule for a def. -/
namespace DH
open PySem PySem.Spec PyProof.Rows L2
/-! ### fields -/
/-- the value of a field -/
def lookD : List Str → List D → Str → Option D
  | n :: ns, d :: ds, f => if f = n then some d else lookD ns ds f
  | _, _, _ => none
theorem look_das {K : PySem.W.Frag} {A : List Addr} {H : Hp} {f : Str} {d : D} : ∀ {ns : List Str} {xs : List V} {ds : List D}, Das K A H xs ds → lookD ns ds f = some d → ∃ v, (ns.zip xs).lookup f = some v ∧ Da K A H v d
  | [], _, _, _, h => by simp [lookD] at h
  | n :: ns, _, _, .nil, h => by simp [lookD] at h
  | n :: ns, v :: xs, e :: ds, .cons q t, h => by
    unfold lookD at h
    by_cases hn : f = n
    · subst hn
      rw [if_pos rfl] at h
      cases h
      exact ⟨v, by simp [List.lookup], q⟩
    · rw [if_neg hn] at h
      obtain ⟨w, h1, h2⟩ := look_das (ns := ns) t h
      have hb : (f == n) = false := by simpa using hn
      exact ⟨w, by simp [List.zip_cons_cons, List.lookup, hb, h1], h2⟩
def putN (f : Str) : List Str → List Str
  | [] => [f]
  | n :: ns => if n = f then n :: ns else n :: putN f ns
def putD (f : Str) (d : D) : List Str → List D → List D
  | n :: ns, e :: ds => if n = f then d :: ds else e :: putD f d ns ds
  | _, _ => [d]
theorem put_das {K : PySem.W.Frag} {A : List Addr} {H : Hp} {f : Str} {v : V} {d : D} (q : Da K A H v d) : ∀ {ns : List Str} {xs : List V} {ds : List D}, Das K A H xs ds → xs.length = ns.length →
    ∃ ys, putF f v (ns.zip xs) = (putN f ns).zip ys ∧ ys.length = (putN f ns).length ∧ Das K A H ys (putD f d ns ds)
  | [], [], _, .nil, _ => ⟨[v], rfl, rfl, .cons q .nil⟩
  | n :: ns, x :: xs, e :: ds, .cons r t, h => by
    by_cases hn : n = f
    · subst hn
      refine ⟨v :: xs, ?_, ?_, ?_⟩
      · simp [putF, putN, List.zip_cons_cons]
      · simpa [putN] using h
      · simp only [putD, if_pos rfl]; exact .cons q t
    · obtain ⟨ys, h1, h2, h3⟩ := put_das (f := f) q (ns := ns) t (by simpa using h)
      refine ⟨x :: ys, ?_, ?_, ?_⟩
      · simp [putF, putN, List.zip_cons_cons, hn, h1]
      · simpa [putN, hn] using h2
      · simp only [putD, if_neg hn]; exact .cons r h3
/-- an instance, whatever it is -/
def cellO : Option Cl → Option (Addr × List Str × List D)
  | some (.o C ns ds) => some (C, ns, ds)
  | _ => none
theorem cellO_iff {c : Option Cl} {C : Addr} {ns : List Str} {ds : List D} : cellO c = some (C, ns, ds) ↔ c = some (.o C ns ds) := by
  cases c with
  | none => simp [cellO]
  | some c => cases c <;> simp [cellO]
def insOf (α : Sto) : D → Option (Addr × List Str × List D)
  | .obj C ns ds => some (C, ns, ds)
  | .acc k => cellO α[k]?
  | _ => none
section
variable {X : Cx} {ρ : Rho} {α : Sto} {R : RE} {a b c e o : Expr} {es : List Expr} {pos p pos' : Pos} {f x : Str}
theorem de_fld (h : DE X e ρ α fun d α1 => ∃ C ns ds d', insOf α1 d = some (C, ns, ds) ∧ Cls X.K C ∧ NoAttr X.K C f ∧ lookD ns ds f = some d' ∧ R d' α1) (hb : attributeBase e f X.env (eval e X.env) = eval e X.env := by rfl) : DE X (.Attribute e f pos) ρ α R := by
  intro A σ H Q rep con
  refine wp_of (pe_fld pe_wp hb) (h A σ H _ rep fun v d B α1 H1 h1 g s q => ?_)
  obtain ⟨C, ns, ds, d', hi, hc, hn, hl, h1⟩ := h1
  have c' := con.step g s
  cases q with
  | obj n e r =>
    cases hi
    obtain ⟨v, ev, qv⟩ := look_das r hl
    exact ⟨_, _, _, _, v, rfl, e, hc, hn, ev, c'.now s qv h1⟩
  | acc ea =>
    rename_i a k
    have hk : α1[k]? = some (.o C ns ds) := cellO_iff.mp hi
    obtain ⟨a', ea', u, hu, dx, xs, rfl, l, r⟩ := s.getC hk
    rw [ea] at ea'; cases ea'
    obtain ⟨v, ev, qv⟩ := look_das r hl
    exact ⟨_, _, _, _, v, rfl, hu, hc, hn, ev, c'.now s qv h1⟩
  | _ => cases hi
theorem ds_fld {n : Nat} {P : Post} (h : DE X e ρ α fun d α1 => DE X o ρ α1 fun d1 α2 => ∃ k C ns ds, d1 = .acc k ∧ α2[k]? = some (.o C ns ds) ∧ Cls X.K C ∧ NoAttr X.K C f ∧ ns.length < 1000 ∧ P.nx ρ (α2.set k (.o C (putN f ns) (putD f d ns ds))))
    (hs : swapsWith e (some (.Attribute o f pos')) pos.line X.env = pure false := by rfl) : DS X n (.Assign [.Attribute o f pos'] e pos) ρ α P := by
  intro A H0 E B σ H at_
  refine wps_of (ps_fld pe_wp pe_wp hs) (h _ σ H _ at_.rep fun v d B1 α1 H1 h1 g s q => ?_)
  have at1 := at_.step g s
  refine h1 _ σ H1 _ at1.rep fun u d1 B2 α2 H2 h2 g2 s2 q2 => ?_
  have at2 := at1.step g2 s2
  obtain ⟨k, C, ns, ds, rfl, hk, hc, hn, hl, h2⟩ := h2
  have q2' := da_assoc q2
  cases q2' with
  | acc ea =>
    obtain ⟨a', ea', u, hu, dx, xs, rfl, l, r⟩ := at2.rep.so.getC hk
    rw [ea] at ea'; cases ea'
    obtain ⟨ys, e1, e2, r2⟩ := put_das (f := f) (da_assoc ((da_assoc q).mono g2)) r l
    refine ⟨_, C, dx, _, rfl, hu, hc, hn, ?_, ?_⟩
    · rw [List.length_zip, l]; omega
    · rw [e1]
      exact (at2.cell (cl := .o C (putN f ns) (putD f d ns ds)) ea ⟨dx, ys, rfl, e2, r2⟩).nx h2
/-- C(e): an instance is a cell, then __init__ -/
theorem de_make {k : Nat} {C : Addr} {fI : Addr} {fd : FuncData} {ps : List Str} {S : FSpec} (M : Mk X.K C fI) (F : FnOk X.prog X.w X.K X.mg X.base CX0 k fI fd ps (SpD X.K S)) (hr : Room (k + 1) X.A) (hm : X.mg x = some (.ref C)) (hb : Binds X.K fd ps [])
    (h : DA X (e :: es) ρ α fun ds α1 => S (.acc α1.length :: ds) (α1 ++ [.o C [] []]) fun d α2 => R (.acc α1.length) α2 ∧ d = .non)
    (hg : Gl X x := by rfl) (hdb : (x == ("__debug__" : Str)) = false := by decide) (he : starEach (e :: es) X.env = (false, eval e X.env) :: starEach es X.env := by rfl) (hpl : (backTo pos (starEach es X.env)).any (·.1) = false := by rfl) :
    DE X (.Call (.Name x p) (e :: es) [] pos) ρ α R := by
  intro A σ H Q rep con
  refine wp_of (pe_make M F hr hg hm hb .nil pass0 pa_wp hdb he hpl) (h A σ H _ rep fun vs ds B α1 H1 h1 g s q => ?_)
  intro y dx ny ndx nex
  have c1 := con.step g s
  have g1 : ∀ a u, H1 a = some u → upd H1 dx (.own y) a = some u := gr_new ndx
  have s1 : So X.K (A ++ B) (upd H1 dx (.own y)) α1 := s.same g1
  have hy1 : upd H1 dx (.own y) y = none := by rw [upd_ne (Ne.symm nex)]; exact ny
  obtain ⟨s2, g2⟩ := s1.cellNew (c := .o C [] []) (o := .ins C dx []) hy1 ⟨dx, [], rfl, rfl, .nil⟩
  have gA : Gr (A ++ B) H1 [y] (upd (upd H1 dx (.own y)) y (.ins C dx [])) := by
    have := (gr_same (A := A ++ B) g1).trans (B := []) (α := α1) (by rw [List.append_nil]; exact s1) (by rw [List.append_nil]; exact g2)
    simpa using this
  have ha : (A ++ B ++ [y])[α1.length]? = some y := by rw [← s.len]; simp
  refine ⟨A ++ B ++ [y], _, _, _, s2, ?_, h1, fun v d B2 α2 H2 h2 g3 s3 q3 => ?_⟩
  · rw [List.append_nil]
    exact .cons (.acc ha) (q.mono gA)
  · obtain ⟨h2, rfl⟩ := h2
    refine ⟨q3.non_inv, ?_⟩
    refine c1 (.ref y) _ ([y] ++ B2) α2 H2 h2 (gA.trans s2 g3) (by rw [← List.append_assoc]; exact s3) (.acc ?_)
    rw [← List.append_assoc]
    exact ix_app ha

/-! ### slices, unary minus -/
def cutD (xs : List D) (lo hi : Option Int) : List D := (xs.drop (HT.sIx xs.length 0 lo)).take (HT.sIx xs.length xs.length hi - HT.sIx xs.length 0 lo)
def wpO (X : Cx) (e : Option Expr) : TO := fun σ H Q => ∀ pins s, Inv X pins σ H s → wpAny (model X.prog X.w) X.A (evalPart e X.env) (fun u s' => ∃ o H', Inv X pins σ H' s' ∧ IsPart u o ∧ Q o H') X.xe s
theorem po_wp {e : Option Expr} : PO X e (wpO X e) := ⟨fun pins s _ _ _ I h => h pins s I⟩
theorem wpo_of {e : Option Expr} {t : TO} {σ : L2.St} {H : Hp} {Q : Option Int → Hp → Prop} (h : PO X e t) (q : t σ H Q) : wpO X e σ H Q := fun pins s I => h.run pins s σ H Q I q
def DO (X : Cx) (e : Option Expr) (ρ : Rho) (α : Sto) (R : Option Int → Sto → Prop) : Prop := ∀ A σ H Q, Rep X.K A H σ ρ α → (∀ o B α' H', R o α' → Gr A H B H' → So X.K (A ++ B) H' α' → Q o H') → wpO X e σ H Q
theorem do_none {R : Option Int → Sto → Prop} (h : R none α) : DO X none ρ α R := fun A σ H Q r c => wpo_of po_none (c none [] α H h (Gr.refl A H) (by rw [List.append_nil]; exact r.so))
theorem do_some {R : Option Int → Sto → Prop} (h : DE X e ρ α fun d α1 => ∃ i, d = .int i ∧ R (some i) α1) : DO X (some e) ρ α R := by
  intro A σ H Q r c
  refine wpo_of (po_some pe_wp) (h A σ H _ r fun v d B α1 H1 h1 g s q => ?_)
  obtain ⟨i, rfl, h1⟩ := h1
  exact ⟨i, q.int_inv, c (some i) B α1 H1 h1 g s⟩
/-- a slice by values -/
def SD (K : PySem.W.Frag) (r : V → Option Int → Option Int → Hp → VK → Prop) (d : D) (lo hi : Option Int) (α : Sto) (R : RE) : Prop :=
  ∀ A H x, So K A H α → Da K A H x d → ∀ Q, Con K A H R Q → r x lo hi H Q
theorem de_slice {r : V → Option Int → Option Int → Hp → VK → Prop} {lo hi : Option Expr} {p2 : Pos} (hr : SlR X r) (h : DE X e ρ α fun d α1 => DO X lo ρ α1 fun l α2 => DO X hi ρ α2 fun u α3 => SD X.K r d l u α3 R) : DE X (.Subscript e (.Slice lo hi none p2) pos) ρ α R := by
  intro A σ H Q rep con
  refine wp_of (pe_slice hr pe_wp po_wp po_wp) (h A σ H _ rep fun v d B α1 H1 h1 g s q => ?_)
  refine h1 _ σ H1 _ (rep.mono g s) fun l B2 α2 H2 h2 g2 s2 => ?_
  refine h2 _ σ H2 _ ((rep.mono g s).mono g2 s2) fun u B3 α3 H3 h3 g3 s3 => ?_
  exact h3 _ H3 v s3 ((q.mono g2).mono g3) Q (((con.step g s).step g2 s2).step g3 s3)
theorem cut_das {K : PySem.W.Frag} {A : List Addr} {H : Hp} {xs : List V} {ds : List D} (q : Das K A H xs ds) (lo hi : Option Int) : Das K A H (cutV xs lo hi) (cutD ds lo hi) := by
  unfold cutV cutD
  rw [q.length]
  exact (q.drop _).take _
theorem sd_list {K : PySem.W.Frag} {d : D} {ds : List D} {lo hi : Option Int} (hc : cont α d = some ds) (ht : isT d = false) (h : R (.lst (cutD ds lo hi)) α) : SD K (rSlL K) d lo hi α R := by
  intro A H x s q Q c
  obtain ⟨a, xs, rfl, hs, r⟩ := readSeq s q hc
  rcases hs with ⟨_, hs⟩ | ⟨z, _⟩
  · exact ⟨a, xs, rfl, hs, fun p hp => c.newL s hp (cut_das r lo hi) h⟩
  · rw [ht] at z; cases z
theorem sd_tup {K : PySem.W.Frag} {ds : List D} {lo hi : Option Int} (h : R (.tup (cutD ds lo hi)) α) : SD K (rSlA K) (.tup ds) lo hi α R := by
  intro A H x s q Q c
  have q0 := q
  cases q with
  | tup n e r =>
    rename_i a xs
    refine ⟨_, xs, rfl, .inl (.inl e), fun ⟨h1, h2⟩ => ?_, fun _ p hp => c.newT s hp (cut_das r lo hi) h⟩
    have : cutD ds lo hi = ds := by
      unfold cutD
      rw [← r.length, h1, h2, List.drop_zero, Nat.sub_zero]
      exact List.take_of_length_le (by rw [r.length]; exact Nat.le_refl _)
    rw [this] at h
    exact c.now s q0 h
theorem de_neg {i : Int} (h : DE X e ρ α fun d α1 => ∃ i, d = .int i ∧ R (.int (-i)) α1) : DE X (.UnaryOp .USub e pos) ρ α R := by
  intro A σ H Q rep con
  refine wp_of (pe_un un_neg pe_wp) (h A σ H _ rep fun v d B α1 H1 h1 g s q => ?_)
  obtain ⟨i, rfl, h1⟩ := h1
  exact ⟨i, q.int_inv, (con.step g s).now s (.int _) h1⟩
/-- xs.pop(), xs a cell -/
theorem de_pop {apos cpos : Pos} (h : DE X o ρ α fun d α1 => ∃ k ds y, d = .acc k ∧ α1[k]? = some (.l ds) ∧ ds[ds.length - 1]? = some y ∧ R y (α1.set k (.l ds.dropLast)))
    (hbase : attributeBase o "pop" X.env (eval o X.env) = eval o X.env := by rfl) (hline : (apos.endLine == cpos.line) = true := by rfl) : DE X (.Call (.Attribute o "pop" apos) [] [] cpos) ρ α R := by
  intro A σ H Q rep con
  refine wp_of (pe_bm0 PySem.F.plainAttrs_list PySem.F.slot_list_pop PySem.F.type_list_pop mt_pop pe_wp hbase hline) (h A σ H _ rep fun v d B α1 H1 h1 g s q => ?_)
  obtain ⟨k, ds, y, rfl, hk, hy, h1⟩ := h1
  cases q with
  | acc ea =>
    rename_i a0
    obtain ⟨a', xs, ea', e, r⟩ := s.get hk
    rw [ea] at ea'; cases ea'
    obtain ⟨u, hu, qu⟩ := r.get hy
    refine ⟨.inl ⟨rfl, xs, .inl (.inl e)⟩, _, xs, u, rfl, rfl, e, by rw [r.length]; exact hu, ?_⟩
    have rd : Das X.K (A ++ B) H1 xs.dropLast ds.dropLast := by
      rw [List.dropLast_eq_take, List.dropLast_eq_take, r.length]
      exact r.take _
    obtain ⟨s2, g2⟩ := s.put (c := .l ds.dropLast) ea ⟨_, rfl, rd⟩
    have s2' : So X.K (A ++ B ++ []) (upd H1 a0 (.lst xs.dropLast)) (α1.set k (.l ds.dropLast)) := by rw [List.append_nil]; exact s2
    exact (con.step g s) _ y [] _ _ h1 g2 s2' (qu.mono g2)
/-- name op= e, ints -/
theorem ds_augI {n : Nat} {P : Post} {op : Operator} {fn : Int → Int → Int} (i : Nat) (hN : X.N.Nodup) (ho : PIp X op (ipI fn)) {z : Int} (hz : ρ[i]? = some (some (.int z))) (h : DE X e ρ α fun d α1 => ∃ j, d = .int j ∧ P.nx (ρ.set i (some (.int (fn z j)))) α1)
    (hi : X.N[i]? = some x := by rfl) (hx : Loc X.env.scope x := by first | exact Or.inl rfl | exact Or.inr rfl) (hf : X.fn x = true ∨ X.env.scope.names.lookup x = some .local := by first | exact .inl rfl | exact .inr rfl) : DS X n (.AugAssign (.Name x pos') op e pos) ρ α P := by
  intro A H0 E B σ H at_
  obtain ⟨v, ev, qv⟩ := at_.rep.slot i _ hz
  refine wps_of (ps_aug hN hi hx pe_wp ho hf) ⟨v, ev, h _ σ H _ at_.rep fun u d B1 α1 H1 h1 g s q => ?_⟩
  obtain ⟨j, rfl, h1⟩ := h1
  exact ⟨z, j, qv.int_inv, q.int_inv, ((at_.step g s).put (.int _)).nx h1⟩

/-! ### enumerate(list) -/
def enD (ds : List D) : List D := (List.range ds.length).map fun i => D.tup [.int (i : Nat), (ds[i]?).getD .non]
theorem enD_len {ds : List D} : (enD ds).length = ds.length := by simp [enD]
theorem enD_get {ds : List D} {k : Nat} {y : D} (h : (enD ds)[k]? = some y) : ∃ d, ds[k]? = some d ∧ y = .tup [.int (k : Nat), d] := by
  unfold enD at h
  rw [List.getElem?_map] at h
  have hk : k < ds.length := by
    cases e : (List.range ds.length)[k]? with
    | none => rw [e] at h; cases h
    | some z => have := (List.getElem?_eq_some_iff.mp e).1; simpa using this
  rw [List.getElem?_range hk] at h
  cases h
  exact ⟨ds[k], by simp [hk], by simp [hk]⟩
theorem di_enumL {elts : List Expr} {kk : Nat} {tpos : Pos} {R : List D → (Sto → Prop) → Sto → Prop} (hm : X.mg "enumerate" = none)
    (h : DE X a ρ α fun d α1 => ∃ ds, isT d = false ∧ cont α1 d = some ds ∧ R (enD ds) (fun α' => cont α' d = some ds) α1) (hg : Gl X "enumerate" := by rfl) (hs : starEach [a] X.env = [(false, eval a X.env)] := by rfl) :
    DI X (.Tuple elts kk tpos) (.Call (.Name "enumerate" p) [a] [] pos) ρ α R := by
  intro A σ H Q r c
  refine wpi_of (pi_enum hg hm (pa_cons pe_wp pa_nil hs) hs) (h A σ H _ r fun v d B α1 H1 h1 g s q => ?_)
  obtain ⟨ds, ht, hc, h1⟩ := h1
  obtain ⟨a, xs, rfl, hs, rr⟩ := readSeq s q hc
  rcases hs with ⟨_, hs⟩ | ⟨z, _⟩
  · refine ⟨a, xs, rfl, hs, c _ (enD ds) _ B α1 H1 h1 g s fun B' H' α' g' s' st k => ?_⟩
    obtain ⟨a', ys, e', hs', rr'⟩ := readSeq s' (q.mono g') st
    cases e'
    rcases hs' with ⟨_, hs'⟩ | ⟨z, _⟩
    · refine ⟨fun hk => ⟨ys, hs', by rw [rr'.length, ← enD_len (ds := ds)]; exact hk⟩, fun y hy => ?_⟩
      obtain ⟨d', hd, rfl⟩ := enD_get hy
      obtain ⟨v, hv, qv⟩ := rr'.get hd
      refine ⟨⟨ys, v, hs', hv⟩, fun x H'' hx => ?_⟩
      obtain ⟨T, z, rfl, hT, rfl, hx⟩ := hx
      have := hx ys hs'
      rw [hv] at this; cases this
      exact ⟨gr_new hT, .tup (not_cell s' hT) upd_same (.cons (.int _) (.cons (qv.new hT) .nil))⟩
    · rw [ht] at z; cases z
  · rw [ht] at z; cases z
end

/-! ### the rule for a def -/
abbrev bodyX (P : Program) (w : World) (K : PySem.W.Frag) (mg : Str → Option Value) (base : Heap) (N : List Str) (qual : Str) (st : Stmt) (f : Addr) (cdv : Value) (A : Around) (outer : List Env) (s : Shared) (H : Hp) (E : XK) : Cx :=
  (cxOf CX0 P w K mg base N qual (defScope st) f cdv A outer s H E).nox
def startR (N : List Str) (ds : List D) : Rho := ds.map some ++ List.replicate (N.length - ds.length) none
theorem das_start {K : PySem.W.Frag} {A : List Addr} {H : Hp} {vs : List V} {ds : List D} (q : Das K A H vs ds) : ∀ {i : Nat} {d : D} {m : Nat}, (ds.map some ++ List.replicate m none)[i]? = some (some d) → ∃ v, (vs.map some ++ List.replicate m none)[i]? = some (some v) ∧ Da K A H v d := by
  intro i d m h
  by_cases hi : i < ds.length
  · rw [List.getElem?_append_left (by simpa using hi), List.getElem?_map] at h
    cases e : ds[i]? with
    | none => rw [e] at h; cases h
    | some y =>
      rw [e] at h; cases h
      obtain ⟨v, hv, qv⟩ := q.get e
      refine ⟨v, ?_, qv⟩
      rw [List.getElem?_append_left (by simp [q.length]; exact hi), List.getElem?_map, hv]
      rfl
  · rw [List.getElem?_append_right (by simpa using hi), List.getElem?_replicate] at h
    split at h <;> cases h
theorem fn_def {P : Program} {w : World} {K : PySem.W.Frag} {mg : Str → Option Value} {base : Heap} {x qual : Str} {st : Stmt} {f : Addr} {fd : FuncData} {N ps : List Str} {k : Nat} {S : FSpec}
    (F : Fun K x qual st f fd) (Sc : FnScope N ps (defScope st)) (hlen : ∀ ds α R, S ds α R → ds.length = ps.length)
    (body : ∀ (cdv : Value) (A : Around) (outer : List Env) (s : Shared) (H : Hp) (E : XK), Room k (A.deeper (envOfC qual (defScope st) s.heap.objs.size f cdv)) → ∀ ds α R, S ds α R → NaS α.length α → nas α.length ds = true →
      DSs (bodyX P w K mg base N qual st f cdv A outer s H E) α.length (defBody st) (startR N ds) α ⟨fun _ α' => R .non α', R, fun _ _ => False, fun _ _ => False⟩) : FnOk P w K mg base CX0 (k + 1) f fd ps (SpD K S) := by
  refine F.ok Sc (fun vs H Q E h => ?_) fun cdv A outer s H vs Q E hr h => ?_
  · obtain ⟨A, ds, α, R, _, q, hS, _⟩ := h
    rw [q.length]
    exact hlen ds α R hS
  · obtain ⟨A', ds, α, R, so, q, hS, con⟩ := h
    have hna : nas α.length ds = true := by rw [← so.len]; exact q.na
    refine ⟨wpSs (bodyX P w K mg base N qual st f cdv A outer s H E) (defBody st), pss_wp, body cdv A outer s H E hr ds α R hS so.na hna A' H _ [] _ H ⟨so.len, Gr.refl A' H, ⟨by rw [List.append_nil]; exact so, ?_, fun i d hd => ?_⟩, ?_⟩⟩
    · show (L2.start N vs).length = (startR N ds).length
      unfold L2.start startR
      simp [q.length]
    · unfold startR at hd
      obtain ⟨v, hv, qv⟩ := das_start q hd
      refine ⟨v, ?_, by rw [List.append_nil]; exact qv⟩
      show (L2.start N vs)[i]? = _
      unfold L2.start
      rw [q.length]
      exact hv
    · exact ⟨fun ρ α' B σ H' h g r => con .non .non B α' H' h g r.so .non, fun d α' B v H' h g s q => con v d B α' H' h g s q, fun _ _ _ _ _ h => h.elim, fun _ _ _ _ _ h => h.elim⟩
theorem Fx.of {P : Program} {w : World} {K : PySem.W.Frag} {mg : Str → Option Value} {base : Heap} {x : Str} {f : Addr} {fd : FuncData} {ps : List Str} {k : Nat} {S : FSpec}
    (F : FnOk P w K mg base CX0 k f fd ps (SpD K S)) (hm : mg x = some (.ref f)) (hk : PySem.W.keepIn K (.ref f) = true) (hb : Binds K fd ps []) : Fx P w K mg base k x ps S := ⟨f, fd, F, hm, hk, hb⟩
end DH

end

section
/-! DH: isinstance. -/
namespace DH
open PySem PySem.Spec PyProof.Rows L2
/-- a tree's own built-in class -/
def tyD (α : Sto) : D → Option String
  | .non => some "NoneType"
  | .bl _ => some "bool"
  | .int _ => some "int"
  | .str _ => some "str"
  | .lst _ => some "list"
  | .tup _ => some "tuple"
  | .pt _ => some "tuple"
  | .acc k => match cellL α[k]? with
    | some _ => some "list"
    | none => none
  | _ => none
section
variable {K : PySem.W.Frag} {α : Sto} {R : RE} {d : D}
theorem tyD_ok {A : List Addr} {H : Hp} {v : V} {t : String} (s : So K A H α) (q : Da K A H v d) (h : tyD α d = some t) : TyX K H v (.type t) := by
  cases q with
  | non => cases h; exact .base .non
  | bl b => cases h; exact .base (.bl b)
  | int i => cases h; exact .base (.int i)
  | str x => cases h; exact .base (.str x)
  | lst n e r => cases h; exact .base (.lst e)
  | tup n e r => cases h; exact .base (.tup e)
  | pt n e _ _ r => cases h; exact .fTuple e
  | acc ea =>
    rename_i a k
    have h' : (match cellL α[k]? with | some _ => some "list" | none => none) = some t := h
    cases hc : cellL α[k]? with
    | none => rw [hc] at h'; cases h'
    | some ds =>
      rw [hc] at h'; cases h'
      obtain ⟨a', xs, ea', e, r⟩ := s.get (cellL_iff.mp hc)
      rw [ea] at ea'; cases ea'
      exact .base (.lst e)
  | _ => cases h
theorem cd_isi {t T : String} {b : Bool} (ht : tyD α d = some t) (hk : kitB t T = some b) (h : R (.bl b) α) : CD K (rIsi K) [d, .raw (.ty T)] α R := by
  intro A H xs s q Q c
  cases q with
  | cons q r =>
    cases r with
    | cons q2 r =>
      cases r
      rw [q2.raw_inv]
      exact ⟨_, _, _, _, b, rfl, .ty T, tyD_ok s q ht, kit_ty hk, c.now s (.bl b) h⟩
/-- isinstance(x, (list, tuple)) -/
theorem cd_isiT {t T1 T2 : String} {b : Bool} (ht : tyD α d = some t) (hk : ∀ K, PySem.W.kitAny K (.type t) [.type T1, .type T2] = some b) (h : R (.bl b) α) : CD K (rIsiT K) [d, .tup [.raw (.ty T1), .raw (.ty T2)]] α R := by
  intro A H xs s q Q c
  cases q with
  | cons q r =>
    cases r with
    | cons q2 r =>
      cases r
      cases q2 with
      | tup n e r =>
        cases r with
        | cons r1 r =>
          cases r with
          | cons r2 r =>
            cases r
            rw [r1.raw_inv, r2.raw_inv] at e
            exact ⟨_, _, _, _, _, b, rfl, e, .cons (.ty T1) (.cons (.ty T2) .nil), tyD_ok s q ht, hk K, c.now s (.bl b) h⟩
end
theorem kit_seqL (K : PySem.W.Frag) : PySem.W.kitAny K (.type "list") [.type "list", .type "tuple"] = some true := by
  rfl
theorem kit_seqT (K : PySem.W.Frag) : PySem.W.kitAny K (.type "tuple") [.type "list", .type "tuple"] = some true := by
  rfl
end DH

end

section
/-! DH: cells sealed into trees; enumerate(tuple). -/
namespace DH
open PySem PySem.Spec PyProof.Rows L2
mutual
/-- d' is d, the cells from n on told by what they hold -/
inductive Seal (n : Nat) (α : Sto) : D → D → Prop
  | non : Seal n α .non .non
  | bl (b : Bool) : Seal n α (.bl b) (.bl b)
  | int (i : Int) : Seal n α (.int i) (.int i)
  | str (x : Str) : Seal n α (.str x) (.str x)
  | raw (v : V) : Seal n α (.raw v) (.raw v)
  | exc {a dd : Addr} {att : Str} {d d' : D} : Seal n α d d' → Seal n α (.exc a dd att d) (.exc a dd att d')
  | low {k : Nat} : k < n → Seal n α (.acc k) (.acc k)
  | high {k : Nat} {ds ds' : List D} : n ≤ k → α[k]? = some (.l ds) → Seals n α ds ds' → Seal n α (.acc k) (.lst ds')
  | highO {k : Nat} {C : Addr} {ns : List Str} {ds ds' : List D} : n ≤ k → α[k]? = some (.o C ns ds) → Seals n α ds ds' → Seal n α (.acc k) (.obj C ns ds')
  | lst {ds ds' : List D} : Seals n α ds ds' → Seal n α (.lst ds) (.lst ds')
  | tup {ds ds' : List D} : Seals n α ds ds' → Seal n α (.tup ds) (.tup ds')
  | pt {ds ds' : List D} : Seals n α ds ds' → Seal n α (.pt ds) (.pt ds')
  | fix {ds ds' : List D} : Seals n α ds ds' → Seal n α (.fix ds) (.fix ds')
  | obj {C : Addr} {ns : List Str} {ds ds' : List D} : Seals n α ds ds' → Seal n α (.obj C ns ds) (.obj C ns ds')
inductive Seals (n : Nat) (α : Sto) : List D → List D → Prop
  | nil : Seals n α [] []
  | cons {d d' : D} {ds ds' : List D} : Seal n α d d' → Seals n α ds ds' → Seals n α (d :: ds) (d' :: ds')
end
mutual
theorem Seal.of {n : Nat} {α : Sto} : ∀ {d : D}, d.na n = true → Seal n α d d
  | .non, _ => .non
  | .bl b, _ => .bl b
  | .int i, _ => .int i
  | .str x, _ => .str x
  | .raw v, _ => .raw v
  | .exc _ _ _ d, h => .exc (Seal.of (by simpa only [D.na] using h))
  | .acc k, h => .low (by simpa only [D.na, decide_eq_true_eq] using h)
  | .lst ds, h => .lst (Seals.of (by simpa only [D.na] using h))
  | .tup ds, h => .tup (Seals.of (by simpa only [D.na] using h))
  | .pt ds, h => .pt (Seals.of (by simpa only [D.na] using h))
  | .fix ds, h => .fix (Seals.of (by simpa only [D.na] using h))
  | .obj _ _ ds, h => .obj (Seals.of (by simpa only [D.na] using h))
theorem Seals.of {n : Nat} {α : Sto} : ∀ {ds : List D}, nas n ds = true → Seals n α ds ds
  | [], _ => .nil
  | d :: ds, h => by
    simp only [nas, Bool.and_eq_true] at h
    exact .cons (Seal.of h.1) (Seals.of h.2)
end
section
variable {K : PySem.W.Frag} {A B : List Addr} {H : Hp} {α β : Sto} {n : Nat}
mutual
theorem Seal.da (s : So K (A ++ B) H α) (hn : A.length = n) : ∀ {d d' : D}, Seal n α d d' → ∀ {v : V}, Da K (A ++ B) H v d → Da K A H v d'
  | _, _, .non, v, q => by rw [q.non_inv]; exact .non
  | _, _, .bl b, v, q => by rw [q.bl_inv]; exact .bl b
  | _, _, .int i, v, q => by rw [q.int_inv]; exact .int i
  | _, _, .str x, v, q => by rw [q.str_inv]; exact .str x
  | _, _, .raw w, v, q => by rw [q.raw_inv]; exact .raw w
  | _, _, .exc t, v, q => by cases q with | exc n e r => exact .exc (not_l n) e (t.da s hn r)
  | _, _, .low h, v, q => q.drop (by simp only [D.na, decide_eq_true_eq, hn]; exact h)
  | _, _, .high h e t, v, q => by
    cases q with
    | acc ea =>
      obtain ⟨a', xs, ea', eh, r⟩ := s.get e
      rw [ea] at ea'; cases ea'
      refine .lst (fun z => ?_) eh (t.das s hn r)
      rw [List.getElem?_append_right (by rw [hn]; exact h)] at ea
      exact (List.nodup_append.mp s.nd).2.2 _ z _ (List.mem_of_getElem? ea) rfl
  | _, _, .highO h e t, v, q => by
    cases q with
    | acc ea =>
      obtain ⟨a', ea', u, eh, dx, xs, rfl, l, r⟩ := s.getC e
      rw [ea] at ea'; cases ea'
      refine .obj (fun z => ?_) eh (t.das s hn r)
      rw [List.getElem?_append_right (by rw [hn]; exact h)] at ea
      exact (List.nodup_append.mp s.nd).2.2 _ z _ (List.mem_of_getElem? ea) rfl
  | _, _, .lst t, v, q => by cases q with | lst n e r => exact .lst (not_l n) e (t.das s hn r)
  | _, _, .tup t, v, q => by cases q with | tup n e r => exact .tup (not_l n) e (t.das s hn r)
  | _, _, .pt t, v, q => by cases q with | pt n e c d r => exact .pt (not_l n) e c d (t.das s hn r)
  | _, _, .fix t, v, q => by cases q with | fix e r => exact .fix (e.elim (fun z => .inl ⟨not_l z.1, z.2⟩) .inr) (t.das s hn r)
  | _, _, .obj t, v, q => by cases q with | obj n e r => exact .obj (not_l n) e (t.das s hn r)
theorem Seals.das (s : So K (A ++ B) H α) (hn : A.length = n) : ∀ {ds ds' : List D}, Seals n α ds ds' → ∀ {vs : List V}, Das K (A ++ B) H vs ds → Das K A H vs ds'
  | _, _, .nil, vs, q => by cases q; exact .nil
  | _, _, .cons h t, vs, q => by cases q with | cons q1 q2 => exact .cons (h.da s hn q1) (t.das s hn q2)
end
end
/-- slots behind the sealing -/
inductive SlR (n : Nat) (α : Sto) : Rho → Rho → Prop
  | nil : SlR n α [] []
  | keep {d d' : D} {r r' : Rho} : Seal n α d d' → SlR n α r r' → SlR n α (some d :: r) (some d' :: r')
  | none {r r' : Rho} : SlR n α r r' → SlR n α (none :: r) (none :: r')
  | let_ {d : D} {r r' : Rho} : SlR n α r r' → SlR n α (some d :: r) (none :: r')
theorem SlR.len {n : Nat} {α : Sto} : ∀ {r r' : Rho}, SlR n α r r' → r.length = r'.length
  | _, _, .nil => rfl
  | _, _, .keep _ t => congrArg (· + 1) t.len
  | _, _, .none t => congrArg (· + 1) t.len
  | _, _, .let_ t => congrArg (· + 1) t.len
theorem SlR.get {n : Nat} {α : Sto} : ∀ {r r' : Rho} {i : Nat} {d' : D}, SlR n α r r' → r'[i]? = some (some d') → ∃ d, r[i]? = some (some d) ∧ Seal n α d d'
  | _, _, 0, _, .keep h _, e => by simp at e; subst e; exact ⟨_, rfl, h⟩
  | _, _, 0, _, .none _, e => by simp at e
  | _, _, 0, _, .let_ _, e => by simp at e
  | _, _, i + 1, d', .keep _ t, e => by simpa using SlR.get (i := i) (d' := d') t (by simpa using e)
  | _, _, i + 1, d', .none t, e => by simpa using SlR.get (i := i) (d' := d') t (by simpa using e)
  | _, _, i + 1, d', .let_ t, e => by simpa using SlR.get (i := i) (d' := d') t (by simpa using e)
theorem split_at {A B : List Addr} {m : Nat} (hA : A.length ≤ m) (hm : m ≤ (A ++ B).length) : ∃ B1 B2, B = B1 ++ B2 ∧ (A ++ B1).length = m := by
  refine ⟨B.take (m - A.length), B.drop (m - A.length), (List.take_append_drop _ _).symm, ?_⟩
  simp at hm ⊢
  omega
section
variable {X : Cx} {n : Nat} {ρ ρ' : Rho} {α β : Sto} {P : Post} {R : RE} {st : List Stmt} {e : Expr}
theorem dss_seal (hn : n ≤ α.length) (h : NaS α.length α) (hz : SlR α.length (α ++ β) ρ ρ') (hd : DSs X n st ρ' α P) : DSs X n st ρ (α ++ β) P := by
  intro A H0 E B σ H at_
  obtain ⟨B1, B2, rfl, hl⟩ := split_at (A := A) (B := B) (m := α.length) (by rw [at_.len]; exact hn) (by rw [at_.rep.so.len]; simp)
  have so := at_.rep.so
  rw [← List.append_assoc] at so
  refine hd A H0 E B1 σ H ⟨at_.len, ⟨fun b hb => at_.gr.new b (by simp [hb]), at_.gr.old⟩, ⟨so.drop hl h, by rw [at_.rep.len, hz.len], fun i d hi => ?_⟩, at_.con⟩
  obtain ⟨d0, e0, h0⟩ := hz.get hi
  obtain ⟨v, ev, qv⟩ := at_.rep.slot i d0 e0
  rw [← List.append_assoc] at qv
  exact ⟨v, ev, h0.da so hl qv⟩
theorem de_seal (h : DE X e ρ α fun d α' => ∃ α1 β d', α' = α1 ++ β ∧ α.length ≤ α1.length ∧ NaS α1.length α1 ∧ Seal α1.length α' d d' ∧ R d' α1) : DE X e ρ α R := by
  intro A σ H Q rep con
  refine h A σ H Q rep fun v d B α' H' h1 g s q => ?_
  obtain ⟨α1, β, d', rfl, hle, hα, hs, h1⟩ := h1
  obtain ⟨B1, B2, rfl, hl⟩ := split_at (A := A) (B := B) (m := α1.length) (by rw [rep.so.len]; exact hle) (by rw [s.len]; simp)
  rw [← List.append_assoc] at s q
  exact con v d' B1 α1 H' h1 ⟨fun b hb => g.new b (by simp [hb]), g.old⟩ (s.drop hl hα) (hs.da s hl q)
end
end DH

end

section
/-! DH: rows of a merger as data. -/
namespace DH
open PySem PySem.Spec PyProof.Rows L2
theorem iteB {b : Bool} {A B : Prop} (h1 : b = true → A) (h2 : b = false → B) : if b = true then A else B := by
  cases b with
  | true => rw [if_pos rfl]; exact h1 rfl
  | false => rw [if_neg Bool.false_ne_true]; exact h2 rfl
abbrev Rows := List (List (Option Int))
abbrev encE : Option Int → D
  | none => .non
  | some i => .int i
def encR (r : List (Option Int)) : List D := r.map encE
/-- rows as tuples, as lists -/
def tupR (m : Rows) : D := .tup (m.map fun r => .tup (encR r))
def lstR (m : Rows) : D := .lst (m.map fun r => .lst (encR r))
/-- rows, whatever they stand in -/
def IsRows (α : Sto) (d : D) (m : Rows) : Prop := ∃ es, cont α d = some es ∧ es.length = m.length ∧ ∀ (i : Nat) (r : List (Option Int)), m[i]? = some r → ∃ e, es[i]? = some e ∧ cont α e = some (encR r)
theorem isRows_tup (α : Sto) (m : Rows) : IsRows α (tupR m) m := ⟨_, rfl, by simp, fun i r h => ⟨.tup (encR r), by simp [h], rfl⟩⟩
theorem isRows_lst (α : Sto) (m : Rows) : IsRows α (lstR m) m := ⟨_, rfl, by simp, fun i r h => ⟨.lst (encR r), by simp [h], rfl⟩⟩
def look (m : Rows) (i j : Nat) : Option Int := ((m[i]?.getD [])[j]?).getD none
/-- n rows of n ends -/
structure Wf (n : Nat) (m : Rows) : Prop where
  len : m.length = n
  row : ∀ r ∈ m, r.length = n
  ends : ∀ r ∈ m, ∀ x ∈ r, ∀ i, x = some i → -1 ≤ i ∧ i < (n : Nat)
theorem Wf.get {n : Nat} {m : Rows} (h : Wf n m) {i : Nat} (hi : i < n) : ∃ r, m[i]? = some r ∧ r.length = n ∧ ∀ j, j < n → r[j]? = some (look m i j) := by
  have hl : i < m.length := by rw [h.len]; exact hi
  refine ⟨m[i], by simp [hl], h.row _ (List.getElem_mem _), fun j hj => ?_⟩
  have hr : j < (m[i]).length := by rw [h.row _ (List.getElem_mem _)]; exact hj
  unfold look
  simp [hl, hr]
theorem Wf.look {n : Nat} {m : Rows} (h : Wf n m) {i j : Nat} {e : Int} (hi : i < n) (hj : j < n) (he : look m i j = some e) : -1 ≤ e ∧ e < (n : Nat) := by
  obtain ⟨r, h1, h2, h3⟩ := h.get hi
  have := h3 j hj
  rw [he] at this
  exact h.ends r (List.mem_of_getElem? h1) _ (List.mem_of_getElem? this) e rfl
theorem isNon_enc (x : Option Int) : isNon (encE x) = x.isNone := by cases x <;> rfl
section
variable {K : PySem.W.Frag} {α : Sto} {R : RE} {d e : D} {n : Nat} {m : Rows}
/-- rows[i] -/
theorem od_row {i : Nat} (hr : IsRows α d m) (hw : Wf n m) (hi : i < n) (h : ∀ e r, m[i]? = some r → cont α e = some (encR r) → R e α) : OD K (rIx K) d (.int (i : Nat)) α R := by
  obtain ⟨es, h1, h2, h3⟩ := hr
  obtain ⟨r, e1, _, _⟩ := hw.get hi
  obtain ⟨e, e2, e3⟩ := h3 i r e1
  exact od_ix h1 (atI_nn e2) (h e r e1 e3)
/-- row[j] -/
theorem od_end {i j : Nat} {r : List (Option Int)} (hr : m[i]? = some r) (hc : cont α e = some (encR r)) (hw : Wf n m) (hi : i < n) (hj : j < n) (h : R (encE (look m i j)) α) : OD K (rIx K) e (.int (j : Nat)) α R := by
  obtain ⟨r', e1, _, e3⟩ := hw.get hi
  rw [hr] at e1; cases e1
  refine od_ix hc (atI_nn (i := j) ?_) h
  unfold encR
  rw [List.getElem?_map, e3 j hj]
  rfl
end
/-- rows[a][b] -/
theorem de_look {X : Cx} {ρ : Rho} {α : Sto} {R : RE} {o a b : Expr} {p1 p2 : Pos} {n : Nat} {m : Rows} (hw : Wf n m)
    (h : DE X o ρ α fun d α1 => IsRows α1 d m ∧ α1 = α ∧ DE X a ρ α fun d1 α2 => ∃ i : Nat, d1 = .int (i : Nat) ∧ i < n ∧ α2 = α ∧ DE X b ρ α fun d2 α3 => ∃ j : Nat, d2 = .int (j : Nat) ∧ j < n ∧ α3 = α ∧ R (encE (look m i j)) α)
    (hs : PlainIx a := by exact fun _ _ => rfl) (hs2 : PlainIx b := by exact fun _ _ => rfl) : DE X (.Subscript (.Subscript o a p1) b p2) ρ α R := by
  refine de_ix ix_seq (de_ix ix_seq (h.imp fun d α1 h1 => ?_) hs) hs2
  obtain ⟨hr, rfl, h1⟩ := h1
  refine h1.imp fun d1 α2 h2 => ?_
  obtain ⟨i, rfl, hi, rfl, h2⟩ := h2
  refine od_row hr hw hi fun e r he hc => ?_
  refine h2.imp fun d2 α3 h3 => ?_
  obtain ⟨j, rfl, hj, rfl, h3⟩ := h3
  exact od_end he hc hw hi hj h3
end DH

end

section
/-! DH: names by the slots' list. -/
namespace DH
open PySem PySem.Spec PyProof.Rows L2
def slotD : List Str → Rho → Str → Option D
  | n :: ns, r :: rs, x => if n = x then r else slotD ns rs x
  | _, _, _ => none
theorem slotD_ix {x : Str} {d : D} : ∀ {N : List Str} {ρ : Rho}, slotD N ρ x = some d → ∃ i : Nat, ρ[i]? = some (some d) ∧ N[i]? = some x
  | [], _, h => by simp [slotD] at h
  | _ :: _, [], h => by simp [slotD] at h
  | n :: ns, r :: rs, h => by
    unfold slotD at h
    by_cases hn : n = x
    · rw [if_pos hn] at h; subst h; subst hn; exact ⟨0, rfl, rfl⟩
    · rw [if_neg hn] at h
      obtain ⟨i, h1, h2⟩ := slotD_ix h
      exact ⟨i + 1, by simpa using h1, by simpa using h2⟩
theorem de_nm {X : Cx} {ρ : Rho} {α : Sto} {R : RE} {x : Str} {pos : Pos} {d : D} (hρ : slotD X.N ρ x = some d) (hR : R d α)
    (hv : Vis X.env.scope x := by first | exact Or.inl rfl | exact Or.inr (Or.inl rfl) | exact Or.inr (Or.inr rfl))
    (hd : (x == ("__debug__" : Str)) = false := by decide) (hcd : (x == ("__classdict__" : Str)) = false := by decide) : DE X (.Name x pos) ρ α R := by
  obtain ⟨i, h1, h2⟩ := slotD_ix hρ
  exact de_var i h1 hR h2 hv hd hcd
end DH

end

section
/-! DH: list(range(n)), tuple(range(n)). -/
namespace DH
open PySem PySem.Spec PyProof.Rows L2
theorem das_rg {K : PySem.W.Frag} {A : List Addr} {H : Hp} (a b : Int) : Das K A H (rgV a b) (rgD a (b - a).toNat) := by
  unfold rgV rgD
  generalize List.range (b - a).toNat = l
  induction l with
  | nil => exact .nil
  | cons x r ih => exact .cons (.int _) ih
section
variable {X : Cx} {ρ : Rho} {α : Sto} {R : RE} {a : Expr} {p p2 pos pos2 : Pos}
theorem de_listRg (hc : X.calm = true) (hm : X.mg "list" = none) (hm2 : X.mg "range" = none) (h : DE X a ρ α fun d α1 => ∃ j : Nat, d = .int j ∧ j ≤ 16777216 ∧ R (.lst (rgD 0 j)) α1)
    (hg : Gl X "list" := by rfl) (hg2 : Gl X "range" := by rfl) (na : starEach [a] X.env = (false, eval a X.env) :: starEach [] X.env := by rfl)
    (na2 : starEach [.Call (.Name "range" p2) [a] [] pos2] X.env = (false, eval (.Call (.Name "range" p2) [a] [] pos2) X.env) :: starEach [] X.env := by rfl) :
    DE X (.Call (.Name "list" p) [.Call (.Name "range" p2) [a] [] pos2] [] pos) ρ α R := by
  intro A σ H Q rep con
  refine wp_of (pe_listRg hc hg hm (prg_1 hg2 hm2 pe_wp na) na2) (h A σ H _ rep fun v d B α1 H1 h1 g s q => ?_)
  obtain ⟨j, rfl, hj, h1⟩ := h1
  refine ⟨j, q.int_inv, RgOk.of_le (by omega) (by omega) (by omega) (by omega), fun l hl => (con.step g s).newL s hl (ds := rgD 0 j) ?_ h1⟩
  have := das_rg (K := X.K) (A := A ++ B) (H := H1) 0 j
  rwa [show ((j : Int) - 0).toNat = j by omega] at this
theorem de_tupRg (hc : X.calm = true) (hm : X.mg "tuple" = none) (hm2 : X.mg "range" = none) (h : DE X a ρ α fun d α1 => ∃ j : Nat, d = .int j ∧ j ≤ 16777216 ∧ R (.tup (rgD 0 j)) α1)
    (hg : Gl X "tuple" := by rfl) (hg2 : Gl X "range" := by rfl) (na : starEach [a] X.env = (false, eval a X.env) :: starEach [] X.env := by rfl)
    (na2 : starEach [.Call (.Name "range" p2) [a] [] pos2] X.env = (false, eval (.Call (.Name "range" p2) [a] [] pos2) X.env) :: starEach [] X.env := by rfl) :
    DE X (.Call (.Name "tuple" p) [.Call (.Name "range" p2) [a] [] pos2] [] pos) ρ α R := by
  intro A σ H Q rep con
  refine wp_of (pe_tupRg hc hg hm (prg_1 hg2 hm2 pe_wp na) na2) (h A σ H _ rep fun v d B α1 H1 h1 g s q => ?_)
  obtain ⟨j, rfl, hj, h1⟩ := h1
  refine ⟨j, q.int_inv, RgOk.of_le (by omega) (by omega) (by omega) (by omega), fun l hl => (con.step g s).newT s hl (ds := rgD 0 j) ?_ h1⟩
  have := das_rg (K := X.K) (A := A ++ B) (H := H1) 0 j
  rwa [show ((j : Int) - 0).toNat = j by omega] at this
end
/-- the built-in names that no module hides -/
structure Bl (mg : Str → Option Value) : Prop where
  isinstance : mg "isinstance" = none
  int : mg "int" = none
  bool : mg "bool" = none
  list : mg "list" = none
  tuple : mg "tuple" = none
  len : mg "len" = none
  range : mg "range" = none
  all : mg "all" = none
  abs : mg "abs" = none
  min : mg "min" = none
  max : mg "max" = none
  enumerate : mg "enumerate" = none
  sorted : mg "sorted" = none
end DH

end

section
/-! DH: what a goal looks like. -/
namespace DH
open PySem PySem.Spec PyProof.Rows L2
section
variable {X : Cx} {ρ : Rho} {α : Sto} {R : RE} {RL : List D → Sto → Prop} {RB : Bool → Sto → Prop} {x : Str} {i : Int} {b : Bool} {a e c o : Expr} {es rest : List Expr} {p pos : Pos} {j : Nat} {d1 d2 : D} {K : PySem.W.Frag}
  {op : Operator} {bop : BoolOp} {cop cop2 : CmpOp} {r : R2} {sj : Option Str}
theorem g_nm (h : DE X (.Name x pos) ρ α R) : DE X (.Name x pos) ρ α R := h
theorem g_nmx (x : Str) {R : RE} (h : DE X (.Name x pos) ρ α R) : DE X (.Name x pos) ρ α R := h
theorem g_co {v : Const} {sj} (h : DE X (.Constant v sj pos) ρ α R) : DE X (.Constant v sj pos) ρ α R := h
theorem g_bo {es : List Expr} (h : DE X (.BoolOp bop es pos) ρ α R) : DE X (.BoolOp bop es pos) ρ α R := h
theorem g_not (h : DE X (.UnaryOp .Not a pos) ρ α R) : DE X (.UnaryOp .Not a pos) ρ α R := h
theorem g_neg (h : DE X (.UnaryOp .USub a pos) ρ α R) : DE X (.UnaryOp .USub a pos) ρ α R := h
theorem g_ite (h : DE X (.IfExp c a e pos) ρ α R) : DE X (.IfExp c a e pos) ρ α R := h
theorem g_cmp (h : DE X (.Compare a [cop] [e] pos) ρ α R) : DE X (.Compare a [cop] [e] pos) ρ α R := h
theorem g_cmpx (cop : CmpOp) {R : RE} (h : DE X (.Compare a [cop] [e] pos) ρ α R) : DE X (.Compare a [cop] [e] pos) ρ α R := h
theorem g_binx (op : Operator) {R : RE} (h : DE X (.BinOp a op e pos) ρ α R) : DE X (.BinOp a op e pos) ρ α R := h
theorem g_sub (h : DE X (.Subscript a e pos) ρ α R) : DE X (.Subscript a e pos) ρ α R := h
theorem g_callx (x : Str) {R : RE} {ks} (h : DE X (.Call (.Name x p) es ks pos) ρ α R) : DE X (.Call (.Name x p) es ks pos) ρ α R := h
theorem g_tup {j} (h : DE X (.Tuple es j pos) ρ α R) : DE X (.Tuple es j pos) ρ α R := h
theorem g_lst (h : DE X (.List es pos) ρ α R) : DE X (.List es pos) ρ α R := h
theorem g_da (h : DA X es ρ α RL) : DA X es ρ α RL := h
theorem g_tnot (h : DT X (.UnaryOp .Not a pos) ρ α RB) : DT X (.UnaryOp .Not a pos) ρ α RB := h
theorem g_tbo (h : DT X (.BoolOp bop es pos) ρ α RB) : DT X (.BoolOp bop es pos) ρ α RB := h
theorem g_tcmpx (cop : CmpOp) {RB : Bool → Sto → Prop} (h : DT X (.Compare a [cop] [e] pos) ρ α RB) : DT X (.Compare a [cop] [e] pos) ρ α RB := h
theorem g_w (h : DW X e ρ α RB) : DW X e ρ α RB := h
theorem g_od (h : OD K r d1 d2 α R) : OD K r d1 d2 α R := h
theorem g_ex {σ : Sort _} {P : σ → Prop} (h : ∃ x, P x) : ∃ x, P x := h
end
end DH
namespace DH
open PySem PySem.Spec PyProof.Rows L2
theorem g_ift {b : Bool} {A B : Prop} (h : if b = true then A else B) : if b = true then A else B := h
theorem ifT {b : Bool} {A B : Prop} (hb : b = true) (h : A) : if b = true then A else B := by rw [if_pos hb]; exact h
theorem ifF {b : Bool} {A B : Prop} (hb : b = false) (h : B) : if b = true then A else B := by rw [if_neg (by rw [hb]; decide)]; exact h
theorem g_isiT {X : Cx} {ρ : Rho} {α : Sto} {R : RE} {a : Expr} {es : List Expr} {j : Nat} {p q pos : Pos} (h : DE X (.Call (.Name "isinstance" p) [a, .Tuple es j q] [] pos) ρ α R) : DE X (.Call (.Name "isinstance" p) [a, .Tuple es j q] [] pos) ρ α R := h
end DH

end

section
/-! DH: comprehensions whose list is let go as a tree. -/
namespace DH
open PySem PySem.Spec PyProof.Rows L2
def naR (n : Nat) (ρ : Rho) : Prop := ∀ d, some d ∈ ρ → d.na n = true
theorem rep_naR {K : PySem.W.Frag} {A : List Addr} {H : Hp} {σ : L2.St} {ρ : Rho} {α : Sto} (r : Rep K A H σ ρ α) : naR α.length ρ := fun d hd => by
  obtain ⟨i, hi, e⟩ := List.mem_iff_getElem.mp hd
  obtain ⟨v, _, q⟩ := r.slot i d (by simp [hi, e])
  rw [← r.so.len]; exact q.na
theorem naR.mono {n m : Nat} {ρ : Rho} (h : naR n ρ) (l : n ≤ m) : naR m ρ := fun d hd => na_mono l (h d hd)
theorem fz_id {n : Nat} {c : Cl} : ∀ {ρ : Rho}, naR n ρ → Fz n c ρ ρ
  | [], _ => .nil
  | none :: r, h => .none (fz_id fun d hd => h d (by simp [hd]))
  | some d :: r, h => .keep (h d (by simp)) (fz_id fun d hd => h d (by simp [hd]))
theorem fz_set {n : Nat} {c : Cl} : ∀ {ρ : Rho} {j : Nat}, naR n ρ → Fz n c (ρ.set j (some (.acc n))) (ρ.set j (some c.tree))
  | [], _, _ => .nil
  | x :: r, 0, h => .here (fz_id fun d hd => h d (by simp [hd]))
  | none :: r, j + 1, h => .none (fz_set fun d hd => h d (by simp [hd]))
  | some d :: r, j + 1, h => .keep (h d (by simp)) (fz_set fun d hd => h d (by simp [hd]))
section
variable {X : Cx} {n : Nat} {ρ : Rho} {α : Sto} {R : RE} {P : Post} {e : Expr} {st : List Stmt} {c : Cl}
theorem de_na (h : NaS α.length α → naR α.length ρ → DE X e ρ α R) : DE X e ρ α R := fun A σ H Q r c => h r.so.na (rep_naR r) A σ H Q r c
theorem dss_na (h : n ≤ α.length → NaS α.length α → naR α.length ρ → DSs X n st ρ α P) : DSs X n st ρ α P := fun A H0 E B σ H at_ => by
  refine h ?_ at_.rep.so.na (rep_naR at_.rep) A H0 E B σ H at_
  rw [← at_.rep.so.len, List.length_append, at_.len]; exact Nat.le_add_right _ _
variable {elt iter : Expr} {ifs : List Expr} {scope : Scope} {own : List (Str × Nat)} {x : Str} {p pos : Pos} {i : Nat}
/-- what is asked of a comprehension: V k α' zs: k turns on, store α', list zs; Fin α' zs behind -/
def LcG (X : Cx) (elt iter : Expr) (ifs : List Expr) (scope : Scope) (vs : List Nat) (x : Str) (p : Pos) (i : Nat) (ρ : Rho) (α : Sto) (Fin : Sto → List D → Prop) : Prop :=
  DI X (.Name x p) iter ρ α fun ds stays α1 => ∃ V : Nat → Sto → List D → Prop, V 0 α1 [] ∧ ds.length < 1000000 ∧ (∀ k α' zs, V k α' zs → α'.length = α1.length ∧ zs.length ≤ k ∧ stays (α' ++ [.l zs])) ∧
    (∀ k y α' zs, ds[k]? = some y → V k α' zs → ∀ s H C cl fp, DTs (X.blk s H scope (compEnvC scope cl C X.env) fp) ifs ((wipeR ρ vs).set i (some y)) (α' ++ [.l zs]) fun b α2 => α2 = α' ++ [.l zs] ∧
      if b = true then ∀ s H C cl fp, DE (X.blk s H scope (compEnvC scope cl C X.env) fp) elt ((wipeR ρ vs).set i (some y)) (α' ++ [.l zs]) fun z α3 => ∃ α4, α3 = α4 ++ [.l zs] ∧ α4.length = α1.length ∧ V (k + 1) α4 (zs ++ [z])
      else V (k + 1) α' zs) ∧
    (∀ α' zs, V ds.length α' zs → Fin α' zs)
theorem LcG.lc {vs : List Nat} {Fin : Sto → List D → Prop} (h : LcG X elt iter ifs scope vs x p i ρ α Fin) : LcD X elt iter ifs scope vs x p i ρ α fun d α' => ∃ α1 zs, d = .acc α1.length ∧ α' = α1 ++ [.l zs] ∧ Fin α1 zs := by
  intro A σ H Q r c
  refine h A σ H Q r fun J ds stays B α1 H1 h1 g s yl => c J ds stays B α1 H1 ?_ g s yl
  obtain ⟨V, v0, hz, vl, turn, fin⟩ := h1
  refine ⟨fun k α' => k ≤ ds.length ∧ ∃ α2 zs, α' = α2 ++ [.l zs] ∧ α2.length = α1.length ∧ V k α2 zs, ⟨Nat.zero_le _, α1, [], rfl, rfl, v0⟩, ?_, ?_, ?_⟩
  · rintro k α' ⟨hk, α2, zs, rfl, l, v⟩
    exact (vl k α2 zs v).2.2
  · rintro k y α' hy ⟨hk, α2, zs, rfl, l, v⟩ s H C cl fp
    have hk' : k < ds.length := (List.getElem?_eq_some_iff.mp hy).1
    intro A1 σ1 H1 Q1 r1 c1
    refine turn k y α2 zs hy v s H C cl fp A1 σ1 H1 Q1 r1 fun b B2 α3 H3 h3 g3 s3 => c1 b B2 α3 H3 ?_ g3 s3
    obtain ⟨rfl, h3⟩ := h3
    cases b with
    | false => rw [if_neg Bool.false_ne_true] at h3 ⊢; exact ⟨hk', α2, zs, rfl, l, h3⟩
    | true =>
      rw [if_pos rfl] at h3 ⊢
      intro s H C cl fp
      refine (h3 s H C cl fp).imp fun z α4 h4 => ?_
      obtain ⟨α5, rfl, l5, v5⟩ := h4
      refine ⟨zs, by rw [← l5]; simp, Nat.lt_of_le_of_lt ((vl k α2 zs v).2.1) (by omega), hk', α5, zs ++ [z], ?_, l5, v5⟩
      rw [← l5]; simp
  · rintro α' ⟨_, α2, zs, rfl, l, v⟩
    exact ⟨α2, zs, by rw [l], rfl, fin α2 zs v⟩
/-- as a value -/
theorem de_lcG (i : Nat) (hc : X.calm = true) (hN : X.N.Nodup) (ok : BlkOk X.N X.env.scope scope own) (hi : i ∈ own.map (·.2))
    (hg : ∀ (s : Shared) (H : Hp) (C : Addr) (cl : List (Str × Addr)) (fp : List Addr), PG (X.blk s H scope (compEnvC scope cl C X.env) fp) (.Name x p) (gName i))
    (h : NaS α.length α → LcG X elt iter ifs scope (own.map (·.2)) x p i ρ α fun α' zs => α.length ≤ α'.length ∧ NaS α'.length α' ∧ nas α'.length zs = true ∧ R (.lst zs) α') (hs : ∀ x, foldedSetIterable iter X.env x = pure x := by intro _; rfl) : DE X (.ListComp elt [⟨.Name x p, iter, ifs, 0⟩] scope pos) ρ α R := by
  refine de_na fun hna _ => de_frz (de_lc i hc hN ok hi hg ?_ hs)
  intro A σ H Q r c
  refine (h hna).lc A σ H Q r fun J ds stays B α1 H1 h1 g s yl => c J ds stays B α1 H1 ?_ g s yl
  obtain ⟨V, v0, st, turn, fin⟩ := h1
  refine ⟨V, v0, st, turn, fun α' v => ?_⟩
  obtain ⟨α2, zs, e, rfl, h1, h2, h3, h4⟩ := fin α' v
  exact ⟨α2, .l zs, e, rfl, h1, h2, h3, rfl, h4⟩
/-- y = [..] -/
theorem dss_setLc {y : Str} {py spos : Pos} (j i : Nat) (hc : X.calm = true) (hN : X.N.Nodup) (ok : BlkOk X.N X.env.scope scope own) (hi : i ∈ own.map (·.2))
    (hg : ∀ (s : Shared) (H : Hp) (C : Addr) (cl : List (Str × Addr)) (fp : List Addr), PG (X.blk s H scope (compEnvC scope cl C X.env) fp) (.Name x p) (gName i))
    (hsw : swapsWith (.ListComp elt [⟨.Name x p, iter, ifs, 0⟩] scope pos) (some (.Name y py)) spos.line X.env = pure true)
    (h : NaS α.length α → LcG X elt iter ifs scope (own.map (·.2)) x p i ρ α fun α' zs => α.length ≤ α'.length ∧ NaS α'.length α' ∧ nas α'.length zs = true ∧ DSs X n st (ρ.set j (some (.lst zs))) α' P)
    (hy : X.N[j]? = some y := by rfl) (hyl : X.env.scope.names.lookup y = some .local := by rfl) (hs : ∀ x, foldedSetIterable iter X.env x = pure x := by intro _; rfl) :
    DSs X n (.Assign [.Name y py] (.ListComp elt [⟨.Name x p, iter, ifs, 0⟩] scope pos) spos :: st) ρ α P := by
  refine dss_na fun hn hna hρ => dss_cons (ds_setLc j i hc hN ok hi hg hsw ?_ hy hyl hs)
  intro A σ H Q r c
  refine (h hna).lc A σ H Q r fun J ds stays B α1 H1 h1 g s yl => c J ds stays B α1 H1 ?_ g s yl
  obtain ⟨V, v0, st, turn, fin⟩ := h1
  refine ⟨V, v0, st, turn, fun α' v => ?_⟩
  obtain ⟨α2, zs, e, rfl, h1, h2, h3, h4⟩ := fin α' v
  show DSs X n _ (ρ.set j (some (.acc α1.length))) (α2 ++ [.l zs]) P
  rw [show α1.length = α2.length by injection e]
  exact dss_frz (Nat.le_trans hn h1) h2 (c := .l zs) h3 (fz_set (hρ.mono h1)) h4
/-- the elements are reckoned, nothing else done -/
theorem LcG.pure {vs : List Nat} {Fin : Sto → List D → Prop} (h : DI X (.Name x p) iter ρ α fun ds stays α1 => α1 = α ∧ (∀ acc, stays (α ++ [.l acc])) ∧ ds.length < 1000000 ∧ ∃ zs : List D, zs.length = ds.length ∧
    (∀ (k : Nat) (y z : D) (acc : List D), ds[k]? = some y → zs[k]? = some z → ∀ s H C cl fp, DE (X.blk s H scope (compEnvC scope cl C X.env) fp) elt ((wipeR ρ vs).set i (some y)) (α ++ [.l acc]) fun d α3 => d = z ∧ α3 = α ++ [.l acc]) ∧ Fin α zs) : LcG X elt iter [] scope vs x p i ρ α Fin := by
  intro A σ H Q r c
  refine h A σ H Q r fun J ds stays B α1 H1 h1 g s yl => c J ds stays B α1 H1 ?_ g s yl
  obtain ⟨rfl, st, hz, zs, hl, turn, fin⟩ := h1
  refine ⟨fun k α' ys => k ≤ ds.length ∧ α' = α1 ∧ ys = zs.take k, ⟨Nat.zero_le _, rfl, by simp⟩, hz, ?_, ?_, ?_⟩
  · rintro k α' ys ⟨hk, rfl, rfl⟩
    exact ⟨rfl, by simp; omega, st _⟩
  · rintro k y α' ys hy ⟨hk, rfl, rfl⟩ s H C cl fp
    refine dts_nil ⟨rfl, ?_⟩
    rw [if_pos rfl]
    intro s H C cl fp
    have hk' : k < ds.length := (List.getElem?_eq_some_iff.mp hy).1
    have hz' : zs[k]? = some zs[k] := by simp [hl, hk']
    refine (turn k y zs[k] _ hy hz' s H C cl fp).imp fun d α3 h3 => ?_
    obtain ⟨rfl, rfl⟩ := h3
    exact ⟨_, rfl, rfl, hk', rfl, by rw [List.take_add_one, hz']; rfl⟩
  · rintro α' ys ⟨_, rfl, rfl⟩
    rw [← hl, List.take_length]; exact fin
/-- some are left out -/
theorem LcG.filter {vs : List Nat} {Fin : Sto → List D → Prop} (h : DI X (.Name x p) iter ρ α fun ds stays α1 => α1 = α ∧ (∀ acc, stays (α ++ [.l acc])) ∧ ds.length < 1000000 ∧ ∃ zf : D → Option D,
    (∀ y acc, y ∈ ds → ∀ s H C cl fp, DTs (X.blk s H scope (compEnvC scope cl C X.env) fp) ifs ((wipeR ρ vs).set i (some y)) (α ++ [.l acc]) fun b α2 => α2 = α ++ [.l acc] ∧
      if b = true then ∀ s H C cl fp, DE (X.blk s H scope (compEnvC scope cl C X.env) fp) elt ((wipeR ρ vs).set i (some y)) (α ++ [.l acc]) fun d α3 => zf y = some d ∧ α3 = α ++ [.l acc] else zf y = none) ∧ Fin α (ds.filterMap zf)) : LcG X elt iter ifs scope vs x p i ρ α Fin := by
  intro A σ H Q r c
  refine h A σ H Q r fun J ds stays B α1 H1 h1 g s yl => c J ds stays B α1 H1 ?_ g s yl
  obtain ⟨rfl, st, hz, zf, turn, fin⟩ := h1
  refine ⟨fun k α' ys => k ≤ ds.length ∧ α' = α1 ∧ ys = (ds.take k).filterMap zf, ⟨Nat.zero_le _, rfl, by simp⟩, hz, ?_, ?_, ?_⟩
  · rintro k α' ys ⟨hk, rfl, rfl⟩
    refine ⟨rfl, Nat.le_trans (List.length_filterMap_le _ _) (by simp; omega), st _⟩
  · rintro k y α' ys hy ⟨hk, rfl, rfl⟩ s H C cl fp
    have hk' : k < ds.length := (List.getElem?_eq_some_iff.mp hy).1
    have hm : (ds.take (k + 1)).filterMap zf = (ds.take k).filterMap zf ++ (match zf y with | some z => [z] | none => []) := by
      rw [List.take_add_one, hy, List.filterMap_append]
      cases hf : zf y <;> simp [hf]
    intro A1 σ1 H1 Q1 r1 c1
    refine turn y _ (List.mem_of_getElem? hy) s H C cl fp A1 σ1 H1 Q1 r1 fun b B2 α3 H3 h3 g3 s3 => c1 b B2 α3 H3 ?_ g3 s3
    obtain ⟨e3, h3⟩ := h3
    refine ⟨e3, ?_⟩
    cases b with
    | false =>
      rw [if_neg Bool.false_ne_true] at h3 ⊢
      exact ⟨hk', rfl, by rw [hm, h3]; simp⟩
    | true =>
      rw [if_pos rfl] at h3 ⊢
      intro s H C cl fp
      refine (h3 s H C cl fp).imp fun d α4 h4 => ?_
      obtain ⟨e4, rfl⟩ := h4
      exact ⟨_, rfl, rfl, hk', rfl, by rw [hm, e4]⟩
  · rintro α' ys ⟨_, rfl, rfl⟩
    rw [List.take_length]; exact fin
end
end DH

end

section
/-! DH: == of what is often compared. -/
namespace DH
open PySem PySem.Spec PyProof.Rows L2
section
variable {K : PySem.W.Frag} {α : Sto} {R : RE} {d : D} {i j : Int} {x y : Option Int} {s t : Str}
def pyE : Option Int → PyData
  | none => .none
  | some i => .int i
theorem py_enc (x : Option Int) : Py α (encE x) (pyE x) := by cases x <;> constructor
theorem sh_enc (x : Option Int) : SeqAt.shaped (pyE x) = true := by cases x <;> rfl
theorem eqv_enc (x y : Option Int) : PyData.eqv (pyE x) (pyE y) = decide (x = y) := by
  cases x <;> cases y <;> simp [pyE, PyData.eqv]
  rename_i a b
  cases h : (a == b) <;> simp_all
theorem od_eqI (h : R (.bl (decide (i = j))) α) : OD K (rEqD K) (.int i) (.int j) α R :=
  od_eq (.int i) (.int j) rfl rfl (by have : PyData.eqv (.int i) (.int j) = decide (i = j) := by { simp [PyData.eqv]; cases h : (i == j) <;> simp_all }
                                      rw [this]; exact h)
theorem od_neI (h : R (.bl (!decide (i = j))) α) : OD K (rNeD K) (.int i) (.int j) α R :=
  od_ne (.int i) (.int j) rfl rfl (by have : PyData.eqv (.int i) (.int j) = decide (i = j) := by { simp [PyData.eqv]; cases h : (i == j) <;> simp_all }
                                      rw [this]; exact h)
theorem od_neE (h : R (.bl (!decide (x = y))) α) : OD K (rNeD K) (encE x) (encE y) α R := od_ne (py_enc x) (py_enc y) (sh_enc x) (sh_enc y) (by rw [eqv_enc]; exact h)
theorem eqv_str (s t : Str) : PyData.eqv (.str s) (.str t) = decide (s = t) := by
  simp [PyData.eqv]
  cases h : (s == t) <;> simp_all
theorem od_eqS (hs : SeqAt.shaped (.str s) = true) (ht : SeqAt.shaped (.str t) = true) (h : R (.bl (decide (s = t))) α) : OD K (rEqD K) (.str s) (.str t) α R :=
  od_eq (.str s) (.str t) hs ht (by rw [eqv_str]; exact h)
/-- ints in a row -/
def intsP (ns : List Int) : List PyData := ns.map PyData.int
theorem lay_ints : ∀ ns : List Int, PyData.canLayAll0 (intsP ns) = true
  | [] => rfl
  | n :: r => by
    have := lay_ints r
    simp only [intsP, List.map_cons, PyData.canLayAll0, PyData.canLay0, Bool.true_and] at this ⊢
    exact this
theorem dep_ints : ∀ ns : List Int, PyData.depthAll (intsP ns) = 0
  | [] => rfl
  | n :: r => by
    have := dep_ints r
    simp only [intsP, List.map_cons, PyData.depthAll, PyData.depth] at this ⊢
    rw [this]; rfl
theorem sh_intsT (ns : List Int) : SeqAt.shaped (.tuple (intsP ns)) = true := by
  unfold SeqAt.shaped
  simp only [PyData.canLay0, PyData.depth, lay_ints, dep_ints]
  decide
theorem sh_intsL (ns : List Int) : SeqAt.shaped (.list (intsP ns)) = true := by
  unfold SeqAt.shaped
  simp only [PyData.canLay0, PyData.depth, lay_ints, dep_ints]
  decide
theorem eqvAll_ints : ∀ ns ms : List Int, PyData.eqvAll (intsP ns) (intsP ms) = decide (ns = ms)
  | [], [] => rfl
  | [], _ :: _ => rfl
  | _ :: _, [] => rfl
  | n :: r, m :: q => by
    have := eqvAll_ints r q
    simp only [intsP, List.map_cons, PyData.eqvAll, PyData.eqv] at this ⊢
    rw [this]
    by_cases h1 : n = m <;> by_cases h2 : r = q <;> simp [h1, h2]
theorem eqv_intsT (ns ms : List Int) : PyData.eqv (.tuple (intsP ns)) (.tuple (intsP ms)) = decide (ns = ms) := by rw [PyData.eqv, eqvAll_ints]
theorem eqv_intsL (ns ms : List Int) : PyData.eqv (.list (intsP ns)) (.list (intsP ms)) = decide (ns = ms) := by rw [PyData.eqv, eqvAll_ints]
theorem py_intsT (ns : List Int) : Py α (.tup (ns.map D.int)) (.tuple (intsP ns)) := .tup (Pys.ints ns)
theorem py_intsL (ns : List Int) : Py α (.lst (ns.map D.int)) (.list (intsP ns)) := .lst (Pys.ints ns)
/-- a row of int tuples -/
def rowsP (tt : List (List Int)) : List PyData := tt.map fun t => .tuple (intsP t)
theorem py_rows : ∀ tt : List (List Int), Pys α (tt.map fun t => D.tup (t.map D.int)) (rowsP tt)
  | [] => .nil
  | t :: r => .cons (py_intsT t) (py_rows r)
theorem lay_rows : ∀ tt : List (List Int), PyData.canLayAll0 (rowsP tt) = true
  | [] => rfl
  | n :: r => by
    have := lay_rows r
    simp only [rowsP, List.map_cons, PyData.canLayAll0, PyData.canLay0, lay_ints, Bool.true_and] at this ⊢
    exact this
theorem dep_rows : ∀ tt : List (List Int), PyData.depthAll (rowsP tt) ≤ 1
  | [] => Nat.zero_le _
  | n :: r => by
    have := dep_rows r
    simp only [rowsP, List.map_cons, PyData.depthAll, PyData.depth, dep_ints] at this ⊢
    omega
theorem sh_rows (tt : List (List Int)) : SeqAt.shaped (.list (rowsP tt)) = true := by
  unfold SeqAt.shaped
  have := dep_rows tt
  simp only [PyData.canLay0, PyData.depth, lay_rows, Bool.true_and, decide_eq_true_eq]
  apply decide_eq_true
  omega
theorem any_rows (tt : List (List Int)) (t : List Int) : (rowsP tt).any (fun z => PyData.eqv z (.tuple (intsP t))) = decide (t ∈ tt) := by
  induction tt with
  | nil => rfl
  | cons a r ih =>
    simp only [rowsP, List.map_cons, List.any_cons] at ih ⊢
    rw [ih, eqv_intsT, ← Bool.decide_or]
    apply decide_eq_decide.mpr
    rw [List.mem_cons]
    exact ⟨fun h => h.imp Eq.symm id, fun h => h.imp Eq.symm id⟩
end
end DH

end

section
/-! DH: more of what a goal looks like. -/
namespace DH
open PySem PySem.Spec PyProof.Rows L2
section
variable {X : Cx} {ρ : Rho} {α : Sto} {R : RE} {RB : Bool → Sto → Prop} {a b c e : Expr} {es : List Expr} {ks : List Keyword} {p pos : Pos} {ops : List CmpOp}
theorem g_tcall (h : DT X (.Call a es ks pos) ρ α RB) : DT X (.Call a es ks pos) ρ α RB := h
theorem g_tch (o1 o2 : CmpOp) {RB : Bool → Sto → Prop} (h : DT X (.Compare a [o1, o2] [b, c] pos) ρ α RB) : DT X (.Compare a [o1, o2] [b, c] pos) ρ α RB := h
theorem g_ch (o1 o2 : CmpOp) {R : RE} (h : DE X (.Compare a [o1, o2] [b, c] pos) ρ α R) : DE X (.Compare a [o1, o2] [b, c] pos) ρ α R := h
end
end DH

end

section
/-! DH: looks at rows by the walk; soundness. -/
namespace DH
open PySem PySem.Spec PyProof.Rows L2
section
variable {K : PySem.W.Frag} {α : Sto} {R : RE} {d e : D} {n : Nat} {m : Rows}
theorem g_rowT {i : Int} (h : OD K (rIx K) (tupR m) (.int i) α R) : OD K (rIx K) (tupR m) (.int i) α R := h
theorem g_rowL {i : Int} (h : OD K (rIx K) (lstR m) (.int i) α R) : OD K (rIx K) (lstR m) (.int i) α R := h
theorem g_ixo (h : OD K (rIx K) d e α R) : OD K (rIx K) d e α R := h
theorem od_rowT {i : Nat} (hw : Wf n m) (hi : i < n) (h : ∀ e r, cont α e = some (encR r) → m[i]? = some r → R e α) : OD K (rIx K) (tupR m) (.int (i : Nat)) α R := od_row (isRows_tup _ _) hw hi fun e r h1 h2 => h e r h2 h1
theorem od_rowL {i : Nat} (hw : Wf n m) (hi : i < n) (h : ∀ e r, cont α e = some (encR r) → m[i]? = some r → R e α) : OD K (rIx K) (lstR m) (.int (i : Nat)) α R := od_row (isRows_lst _ _) hw hi fun e r h1 h2 => h e r h2 h1
theorem od_end' {i j : Nat} {r : List (Option Int)} (hc : cont α e = some (encR r)) (hr : m[i]? = some r) (hw : Wf n m) (hi : i < n) (hj : j < n) (h : R (encE (look m i j)) α) : OD K (rIx K) e (.int (j : Nat)) α R := od_end hr hc hw hi hj h
end
def meetL (m : Rows) (x : Int) (c : Nat) : Option Int := if x = -1 then some (c : Int) else look m x.toNat c
def meetR (m : Rows) (a : Nat) (y : Int) : Option Int := if y = -1 then some (a : Int) else look m a y.toNat
def Sound (n : Nat) (m : Rows) : Prop := ∀ a b c : Nat, a < n → b < n → c < n → ∀ x y, look m a b = some x → look m b c = some y → meetL m x c = meetR m a y
theorem nat_of {x : Int} (h : -1 ≤ x) (hx : x ≠ -1) : ∃ k : Nat, x = (k : Int) := ⟨x.toNat, by omega⟩
end DH
namespace DH
theorem g_len {ds : List D} {A : Prop} (h : ds.length ≤ 100000 ∧ A) : ds.length ≤ 100000 ∧ A := h
theorem len_and {ds : List D} {A : Prop} (hb : Nat.ble ds.length 100000 = true) (h : A) : ds.length ≤ 100000 ∧ A := ⟨Nat.le_of_ble_eq_true hb, h⟩
end DH

end

section
/-! DH: enumerate(tuple). -/
namespace PySem
open Sem (wp)
set_option maxHeartbeats 1000000 in
theorem dh_meets_enum {v : Value} {o : Obj} {H : Heap → Prop} (B : Begins v o H) :
    Meets (Builtin.«enumerate.__new__» ⟨[.type "enumerate", v], []⟩) (fun _ R s => H s.heap ∧
      R (.ok (.ret (.ref (s.heap.push o).objs.size))) { s with heap := (s.heap.push o).push { cls := .type "enumerate", data := .fields #[.none, .bool false, .ref s.heap.objs.size, rawInt 0, .none, .none] } }) :=
  .of_wp fun prog w A R s h => by
    obtain ⟨hp, g, d, tk, os⟩ := s; obtain ⟨h1, h⟩ := h
    have hsub := sub_enumerate
    have q1 : ∀ {A' : Around} {E : Value → Shared → Prop} {Q : Value → Shared → Prop}, Q (.ref hp.objs.size) ⟨hp.push o, g, d, tk, os⟩ → wpAny (model prog w) A' (pyIter v) Q E ⟨hp, g, d, tk, os⟩ :=
      fun q => B.iter prog w _ _ ⟨hp, g, d, tk, os⟩ _ h1 q
    wp_walk using q1
    refine wpAny_stack_any fun st => wpAny_pure ?_
    split
    · rename_i c _ _ _ _ _
      cases (c == Value.type "enumerate")
      · wp_walk using q1
        exact ⟨_, rfl, h⟩
      · wp_walk using q1
        exact ⟨_, rfl, h⟩
    · wp_walk using q1
      exact ⟨_, rfl, h⟩
section
variable {prog : Program} {w : World} {A : Around} {E : Value → Shared → Prop} {s : Shared}
theorem dh_enum_begins {v : Value} {o : Obj} {H : Heap → Prop} {Q : Value → Shared → Prop} (B : Begins v o H) (h1 : H s.heap)
    (h : ∀ h', IsEnum h' (s.heap.objs.size + 1) s.heap.objs.size 0 .none → h'.get? s.heap.objs.size = some o → h'.objs.size = s.heap.objs.size + 2 →
      (∀ b o, s.heap.get? b = some o → h'.get? b = some o) → Q (.ref (s.heap.objs.size + 1)) { s with heap := h' }) :
    wpAny (model prog w) A (call (.type "enumerate") [v]) Q E s := by
  refine callType_new F.called_enumerate (by decide) (F.typeCall_enumerate_1 _) (F.newCall_enumerate_1 _) (fun obj => F.args_object_init_2 obj _) F.entry_enumerate_new
    (dh_meets_enum B) ⟨h1, ?_⟩
  have hz : (s.heap.push o).objs.size = s.heap.objs.size + 1 := Heap.size_push ..
  show _ ∧ _
  rw [hz]
  have he : IsEnum ((s.heap.push o).push { cls := .type "enumerate", data := .fields #[.none, .bool false, .ref s.heap.objs.size, rawInt 0, .none, .none] }) (s.heap.objs.size + 1) s.heap.objs.size 0 .none := by
    have := Heap.get?_push_size (s.heap.push o) (o := { cls := .type "enumerate", data := .fields #[.none, .bool false, .ref s.heap.objs.size, rawInt 0, .none, .none] }) rfl
    rw [hz] at this; exact this
  refine ⟨⟨_, he, rfl⟩, h _ he (Heap.get?_push_of_some _ (Heap.get?_push_size _ B.free)) (by rw [Heap.size_push, hz]) fun b o x => Heap.get?_push_of_some _ (Heap.get?_push_of_some _ x)⟩
theorem dh_enum_endT {e it l : Addr} {i : Nat} {items : Array Value} {old : Value} {Q : Option Value → Shared → Prop} (hh : A.handled = none)
    (he : IsEnum s.heap e it i old) (hit : s.heap.IsTupleIter it l i) (hl : s.heap.IsTuple l items) (hx : items[i]? = none)
    (hQ : ∀ h', Heap.ExtBut it s.heap h' → Q none { s with heap := h' }) : wpAny (model prog w) A (pyNext (.ref e)) Q E s := by
  have hT : s.TypeIs (.ref e) "enumerate" := ⟨_, he, rfl⟩
  unfold pyNext
  refine wpAny_bind (wpAny_attempt (wpAny_callSpecial?_slot (name := Str.ofString "__next__") hT F.slot_enumerate_next
    (wpAny_call_entry F.slot_enumerate_next hT F.entry_enumerate_next ?_ (F.args_enumerate_next_1 _))))
  show wpAny _ _ (field (.ref e) 2 >>= _) _ _ _
  refine wpAny_bind (wpAny_field he rfl (x := .ref it) rfl ?_)
  refine wpAny_bind (wpAny_nextOf_tuple_end hh hit hl hx fun h' x he' hx' => ?_)
  obtain ⟨o, ho, hc⟩ := hx'
  refine wpAny_bind (wpAny_isInstance (T := "StopIteration") (b := true) ⟨o, ho, hc⟩ isSubtype_stop ?_)
  exact wpAny_pure (hQ _ he')
end
end PySem
namespace DH
open PySem PySem.Spec PyProof.Rows L2
def IteT (K : PySem.W.Frag) (a : Addr) : It :=
  ⟨fun i H => ∃ (xs : List V) (x : V), SqT K H a xs ∧ xs[i]? = some x, fun i H v H' => ∃ T x, v = .ref T ∧ H T = none ∧ H' = upd H T (.tup [.int (i : Nat), x]) ∧ ∀ xs, SqT K H a xs → xs[i]? = some x, fun i H => ∃ xs : List V, SqT K H a xs ∧ xs.length ≤ i⟩
theorem turn_enumT {P : Program} {w : World} {K : PySem.W.Frag} {elts : List Expr} {kk : Nat} {tpos : Pos} (a e it : Addr) :
    Turn P w K (.Tuple elts kk tpos) (IteT K a) [e, it] e (fun i h => (∃ old, IsEnum h e it ((i : Nat) : Int) old) ∧ h.IsTupleIter it a i ∧ e ≠ it ∧ e ≠ a ∧ a ≠ it) where
  mem := by simp
  obj := fun i h st b hb => by
    obtain ⟨⟨old, he⟩, ⟨o, ho, hc, hd⟩, _⟩ := st
    have e' : b = e ∨ b = it := by simpa using hb
    rcases e' with z | z
    · rw [z]; exact ⟨_, he, fun v q => nomatch q⟩
    · rw [z]; exact ⟨o, ho, fun v q => by rw [hd] at q; cases q⟩
  keep := fun i h h' st k => let ⟨⟨old, he⟩, hi, hne⟩ := st; ⟨⟨old, k e (by simp) _ he⟩, hi.at fun o q => k it (by simp) o q, hne⟩
  item := by
    intro X hP hw hK hc i pins s σ H E I hf st hg
    subst hP hw hK
    obtain ⟨⟨old, he⟩, hit, hne, hea, hai⟩ := st
    obtain ⟨xs, x, hq, hx⟩ := hg
    obtain ⟨its, rv, p, hz⟩ := I.tuple hq
    obtain ⟨u, hu, ru⟩ := rv.get hx
    have hel : e < s.heap.objs.size := Heap.lt_size he
    have hil : it < s.heap.objs.size := by obtain ⟨_, q, _⟩ := hit; exact Heap.lt_size q
    have pT : s.heap.IsTuple a its.toArray := p
    refine wpAny_pyNext_enum_itemD (A := X.A) (Draws.tuple (A := X.A.in1) (I.ok.hd hc) it a hai its.toArray) he ⟨hit, pT⟩ (by have := (List.getElem?_eq_some_iff.mp hu).1; simpa using this) hne (by simp [hne, hea]) fun u' h' tk hu' ho hst' hT hsz hk => ?_
    have hu'' : u' = u := by
      have : its[i]? = some u' := by simpa using hu'
      rw [hu] at this; cases this; rfl
    subst hu''
    obtain ⟨hit', _⟩ := hst'
    refine ⟨_, rfl, wpAny_letOwnedTupleGo_enum (s := { s with heap := h', toks := tk + 1 }) ho fun h'' he' sb => ?_⟩
    have hT2 : h''.get? s.heap.objs.size = some { cls := .type "tuple", data := .seq #[.int i tk, u'] } := (sb.2 _ (Nat.ne_of_gt hel)).trans hT
    have new : ObjOk X.prog X.w (upd H s.heap.objs.size (.tup [.int (i : Nat), x])) h'' s.heap.objs.size (.tup [.int (i : Nat), x]) :=
      ⟨by show 2 ≤ sizeLine; decide, [.int i tk, u'], .cons ⟨_, rfl⟩ (.cons ru .nil), ⟨_, hT2, rfl, _, rfl⟩⟩
    have I1 : Inv X pins σ (upd H s.heap.objs.size (.tup [.int (i : Nat), x])) { s with heap := h'', toks := tk + 1 } :=
      I.turnedNew (ch := [e, it]) (fun b ob hb q => (sb.2 b (fun z => hb (by simp [z]))).trans (hk b ob (fun z => hb (by simp [z])) (fun z => hb (by simp [z])) q)) hf (Nat.le_refl _) new
    refine ⟨.ref s.heap.objs.size, _, I1, rfl, ⟨_, x, rfl, I.hok.fresh (Nat.le_refl _), rfl, fun ys hy => by rw [I.tuple_inj hy hq]; exact hx⟩, ⟨⟨u', ?_⟩, hit'.at fun o q => (sb.2 it (Ne.symm hne)).trans q, hne, hea, hai⟩, fun b hb => ?_⟩
    · have e1 : ((i + 1 : Nat) : Int) = (i : Int) + 1 := by omega
      rw [e1]; exact he'
    · have hb' : b < s.heap.objs.size := by
        have e' : b = e ∨ b = it := by simpa using hb
        rcases e' with z | z
        · rw [z]; exact hel
        · rw [z]; exact hil
      rw [upd_ne (Nat.ne_of_lt hb')]
      exact (hf b hb).1
  done := by
    intro X hP hw hK hc i pins s σ H E I hf st hg
    subst hP hw hK
    obtain ⟨⟨old, he⟩, hit, hne, hea, hai⟩ := st
    obtain ⟨xs, hq, hx⟩ := hg
    obtain ⟨its, rv, p, hz⟩ := I.tuple hq
    obtain ⟨f0, f1, f2, f3, f4, f5⟩ := hf it (by simp)
    have hl := rv.length
    have pT : s.heap.IsTuple a its.toArray := p
    exact dh_enum_endT (I.ok.hd hc) he hit pT (by simp; omega) fun h' eb => ⟨rfl, I.turned (t' := s.toks) (fun b o hb q => eb b o hb q) f0 f1 f3 f4 f5⟩
  self := fun A i s Q E st h => let ⟨⟨_, he⟩, _⟩ := st; wpAny_pyIter_enum he h
def iEnumT (K : PySem.W.Frag) (ta : TA) : TI := fun σ H R => ta σ H fun vs H1 => ∃ a xs, vs = [.ref a] ∧ SqT K H1 a xs ∧ R (IteT K a) H1
theorem pi_enumT {X : Cx} {e : Expr} {ta : TA} {p pos tpos : Pos} {elts : List Expr} {kk : Nat} (hg : Gl X "enumerate") (hm : X.mg "enumerate" = none) (ha : PA X [e] ta) (hs : starEach [e] X.env = [(false, eval e X.env)] := by rfl) :
    PI X (.Tuple elts kk tpos) (.Call (.Name "enumerate" p) [e] [] pos) (iEnumT X.K ta) := by
  refine ⟨fun pins s σ H R I h => ?_⟩
  refine Call_ (ld_blt I hg hm boot_enumerate (PyProof.Rows.callWith_type1 (thn (ha.run pos pins s σ H _ I h) fun us s1 ⟨vs, H1, I1, r1, q1⟩ => ?_) hs rfl))
  obtain ⟨a, xs, ex, hq, q⟩ := q1
  subst ex
  cases r1 with
  | cons r rr =>
    cases rr
    cases r
    obtain ⟨its, rv, p', hz⟩ := I1.tuple hq
    have pT : s1.heap.IsTuple a its.toArray := p'
    have al : a < s1.heap.objs.size := by obtain ⟨_, q, _⟩ := pT; exact Heap.lt_size q
    refine dh_enum_begins (begins_tuple a its.toArray) pT fun h' he hit hsz hk => wpAny_pyIter_enum he ?_
    have I2 : Inv X pins σ H1 { s1 with heap := h' } := I1.kept (t' := s1.toks) hk
    refine ⟨s1.heap.objs.size + 1, [s1.heap.objs.size + 1, s1.heap.objs.size], _, _, H1, rfl, I2, turn_enumT a (s1.heap.objs.size + 1) s1.heap.objs.size, ⟨⟨.none, he⟩, ⟨_, hit, rfl, rfl⟩, Nat.succ_ne_self _, Nat.ne_of_gt (Nat.lt_succ_of_lt al), Nat.ne_of_lt al⟩, fun b hb => ?_, q⟩
    have e' : b = s1.heap.objs.size + 1 ∨ b = s1.heap.objs.size := by simpa using hb
    have hle : s1.heap.objs.size ≤ b := by
      rcases e' with z | z
      · rw [z]; exact Nat.le_add_right _ _
      · rw [z]; exact Nat.le_refl _
    exact I1.fpOk hle (I1.hok.fresh hle)
section
variable {X : Cx} {ρ : Rho} {α : Sto} {a tg : Expr} {p pos : Pos}
theorem di_enumT {elts : List Expr} {kk : Nat} {tpos : Pos} {R : List D → (Sto → Prop) → Sto → Prop} (hm : X.mg "enumerate" = none)
    (h : DE X a ρ α fun d α1 => ∃ ds, d = .tup ds ∧ R (enD ds) (fun _ => True) α1) (hg : Gl X "enumerate" := by rfl) (hs : starEach [a] X.env = [(false, eval a X.env)] := by rfl) :
    DI X (.Tuple elts kk tpos) (.Call (.Name "enumerate" p) [a] [] pos) ρ α R := by
  intro A σ H Q r c
  refine wpi_of (pi_enumT hg hm (pa_cons pe_wp pa_nil hs) hs) (h A σ H _ r fun v d B α1 H1 h1 g s q => ?_)
  obtain ⟨ds, rfl, h1⟩ := h1
  cases q with
  | tup na e rr =>
    rename_i a xs
    refine ⟨a, xs, rfl, .inl (.inl e), c _ (enD ds) _ B α1 H1 h1 g s fun B' H' α' g' s' st k => ?_⟩
    have e' : SqT X.K H' a xs := .inl (.inl (g'.at_ _ _ na e))
    have rr' := rr.mono g'
    refine ⟨fun hk => ⟨xs, e', by rw [rr.length, ← enD_len (ds := ds)]; exact hk⟩, fun y hy => ?_⟩
    obtain ⟨d', hd, rfl⟩ := enD_get hy
    obtain ⟨v, hv, qv⟩ := rr'.get hd
    refine ⟨⟨xs, v, e', hv⟩, fun x H'' hx => ?_⟩
    obtain ⟨T, z, rfl, hT, rfl, hx⟩ := hx
    have := hx xs e'
    rw [hv] at this; cases this
    exact ⟨gr_new hT, .tup (not_cell s' hT) upd_same (.cons (.int _) (.cons (qv.new hT) .nil))⟩
end
end DH

end

section
/-! DH: enumerate(list or tuple). -/
namespace DH
open PySem PySem.Spec PyProof.Rows L2
def iEnumS (K : PySem.W.Frag) (ta : TA) : TI := fun σ H R => ta σ H fun vs H1 => ∃ a, vs = [.ref a] ∧ ((∃ xs, SqL K H1 a xs ∧ R (Ite K a) H1) ∨ ∃ xs, SqT K H1 a xs ∧ R (IteT K a) H1)
theorem pi_enumS {X : Cx} {e : Expr} {ta : TA} {p pos tpos : Pos} {elts : List Expr} {kk : Nat} (hg : Gl X "enumerate") (hm : X.mg "enumerate" = none) (ha : PA X [e] ta) (hs : starEach [e] X.env = [(false, eval e X.env)] := by rfl) :
    PI X (.Tuple elts kk tpos) (.Call (.Name "enumerate" p) [e] [] pos) (iEnumS X.K ta) := by
  refine ⟨fun pins s σ H R I h => ?_⟩
  refine Call_ (ld_blt I hg hm boot_enumerate (PyProof.Rows.callWith_type1 (thn (ha.run pos pins s σ H _ I h) fun us s1 ⟨vs, H1, I1, r1, q1⟩ => ?_) hs rfl))
  obtain ⟨a, ex, q⟩ := q1
  subst ex
  cases r1 with
  | cons r rr =>
    cases rr
    cases r
    have fr : ∀ b, b = s1.heap.objs.size + 1 ∨ b = s1.heap.objs.size → s1.heap.objs.size ≤ b := fun b e' => by
      rcases e' with z | z
      · rw [z]; exact Nat.le_add_right _ _
      · rw [z]; exact Nat.le_refl _
    rcases q with ⟨xs, hq, q⟩ | ⟨xs, hq, q⟩
    · obtain ⟨its, rv, p', hz⟩ := I1.list hq
      refine call_enumerate_list p'.isList fun h' he hit hsz hk => wpAny_pyIter_enum he ?_
      have I2 : Inv X pins σ H1 { s1 with heap := h' } := I1.kept (t' := s1.toks) hk
      refine ⟨s1.heap.objs.size + 1, [s1.heap.objs.size + 1, s1.heap.objs.size], _, _, H1, rfl, I2, turn_enum a (s1.heap.objs.size + 1) s1.heap.objs.size, ⟨⟨.none, he⟩, hit, Nat.succ_ne_self _⟩, fun b hb => ?_, q⟩
      have hle := fr b (by simpa using hb)
      exact I1.fpOk hle (I1.hok.fresh hle)
    · obtain ⟨its, rv, p', hz⟩ := I1.tuple hq
      have pT : s1.heap.IsTuple a its.toArray := p'
      have al : a < s1.heap.objs.size := by obtain ⟨_, q, _⟩ := pT; exact Heap.lt_size q
      refine dh_enum_begins (begins_tuple a its.toArray) pT fun h' he hit hsz hk => wpAny_pyIter_enum he ?_
      have I2 : Inv X pins σ H1 { s1 with heap := h' } := I1.kept (t' := s1.toks) hk
      refine ⟨s1.heap.objs.size + 1, [s1.heap.objs.size + 1, s1.heap.objs.size], _, _, H1, rfl, I2, turn_enumT a (s1.heap.objs.size + 1) s1.heap.objs.size, ⟨⟨.none, he⟩, ⟨_, hit, rfl, rfl⟩, Nat.succ_ne_self _, Nat.ne_of_gt (Nat.lt_succ_of_lt al), Nat.ne_of_lt al⟩, fun b hb => ?_, q⟩
      have hle := fr b (by simpa using hb)
      exact I1.fpOk hle (I1.hok.fresh hle)
section
variable {X : Cx} {ρ : Rho} {α : Sto} {a tg : Expr} {p pos : Pos}
theorem di_enumS {elts : List Expr} {kk : Nat} {tpos : Pos} {R : List D → (Sto → Prop) → Sto → Prop} (hm : X.mg "enumerate" = none)
    (h : DE X a ρ α fun d α1 => ∃ ds, cont α1 d = some ds ∧ R (enD ds) (fun α' => cont α' d = some ds) α1) (hg : Gl X "enumerate" := by rfl) (hs : starEach [a] X.env = [(false, eval a X.env)] := by rfl) :
    DI X (.Tuple elts kk tpos) (.Call (.Name "enumerate" p) [a] [] pos) ρ α R := by
  intro A σ H Q r c
  refine wpi_of (pi_enumS hg hm (pa_cons pe_wp pa_nil hs) hs) (h A σ H _ r fun v d B α1 H1 h1 g s q => ?_)
  obtain ⟨ds, hc, h1⟩ := h1
  obtain ⟨a, xs, rfl, hs, rr⟩ := readSeq s q hc
  refine ⟨a, rfl, ?_⟩
  rcases hs with ⟨ht, hs⟩ | ⟨ht, hs⟩
  · refine .inl ⟨xs, hs, c _ (enD ds) _ B α1 H1 h1 g s fun B' H' α' g' s' st k => ?_⟩
    obtain ⟨a', ys, e', hs', rr'⟩ := readSeq s' (q.mono g') st
    cases e'
    rcases hs' with ⟨_, hs'⟩ | ⟨z, _⟩
    · refine ⟨fun hk => ⟨ys, hs', by rw [rr'.length, ← enD_len (ds := ds)]; exact hk⟩, fun y hy => ?_⟩
      obtain ⟨d', hd, rfl⟩ := enD_get hy
      obtain ⟨v, hv, qv⟩ := rr'.get hd
      refine ⟨⟨ys, v, hs', hv⟩, fun x H'' hx => ?_⟩
      obtain ⟨T, z, rfl, hT, rfl, hx⟩ := hx
      have := hx ys hs'
      rw [hv] at this; cases this
      exact ⟨gr_new hT, .tup (not_cell s' hT) upd_same (.cons (.int _) (.cons (qv.new hT) .nil))⟩
    · rw [ht] at z; cases z
  · refine .inr ⟨xs, hs, c _ (enD ds) _ B α1 H1 h1 g s fun B' H' α' g' s' st k => ?_⟩
    obtain ⟨a', ys, e', hs', rr'⟩ := readSeq s' (q.mono g') st
    cases e'
    rcases hs' with ⟨z, _⟩ | ⟨_, hs'⟩
    · rw [ht] at z; cases z
    · refine ⟨fun hk => ⟨ys, hs', by rw [rr'.length, ← enD_len (ds := ds)]; exact hk⟩, fun y hy => ?_⟩
      obtain ⟨d', hd, rfl⟩ := enD_get hy
      obtain ⟨v, hv, qv⟩ := rr'.get hd
      refine ⟨⟨ys, v, hs', hv⟩, fun x H'' hx => ?_⟩
      obtain ⟨T, z, rfl, hT, rfl, hx⟩ := hx
      have := hx ys hs'
      rw [hv] at this; cases this
      exact ⟨gr_new hT, .tup (not_cell s' hT) upd_same (.cons (.int _) (.cons (qv.new hT) .nil))⟩
/-- a field of an instance told as a tree -/
theorem de_fldO {C : Addr} {e : Expr} {f : Str} {R : RE} (hc : Cls X.K C) (hn : NoAttr X.K C f) (h : DE X e ρ α fun d α1 => ∃ ns ds d', d = .obj C ns ds ∧ lookD ns ds f = some d' ∧ R d' α1) (hb : attributeBase e f X.env (eval e X.env) = eval e X.env := by rfl) : DE X (.Attribute e f pos) ρ α R :=
  de_fld (h.imp fun d α1 ⟨ns, ds, d', e, l, r⟩ => ⟨C, ns, ds, d', by rw [e]; rfl, hc, hn, l, r⟩) hb
theorem g_fld {e : Expr} {R : RE} (f : Str) (h : DE X (.Attribute e f pos) ρ α R) : DE X (.Attribute e f pos) ρ α R := h
end
/-- the class of mergers, as it is used -/
structure MC (K : PySem.W.Frag) (C : Addr) : Prop where
  cls : Cls K C
  com : NoAttr K C "commands"
  rows : NoAttr K C "rows"
/-- a merger's fields -/
def mgD (C : Addr) (n : Nat) (m : Rows) : D := .obj C ["commands", "rows"] [.int (n : Nat), tupR m]
def intsD (q : List Nat) : List D := q.map fun x => .int (x : Nat)
theorem intsD_get {q : List Nat} {k : Nat} {y : D} (h : (intsD q)[k]? = some y) : ∃ x, q[k]? = some x ∧ y = .int (x : Nat) := by
  unfold intsD at h
  rw [List.getElem?_map] at h
  cases e : q[k]? with
  | none => rw [e] at h; cases h
  | some x => rw [e] at h; cases h; exact ⟨x, rfl, rfl⟩
theorem intsD_len {q : List Nat} : (intsD q).length = q.length := by simp [intsD]
theorem nas_intsD (k : Nat) (q : List Nat) : nas k (intsD q) = true := nas_of fun x hx => by
  obtain ⟨y, _, rfl⟩ := List.mem_map.mp hx
  rfl
theorem intsD_app (p q : List Nat) : intsD (p ++ q) = intsD p ++ intsD q := by simp [intsD]
end DH

end

section
/-! The plain law: what is left is as long whatever is merged first, where no four commands end unlike. No program in sight. -/
namespace FM
abbrev Tab := Nat → Nat → Option (Option Nat)
/-- a command put to a pile, the last one first -/
def push (t : Tab) : List Nat → Nat → List Nat
  | [], x => [x]
  | l :: s, x => match t l x with
    | none => x :: l :: s
    | some none => s
    | some (some d) => push t s d
def push? (t : Tab) (s : List Nat) : Option Nat → List Nat
  | none => s
  | some x => push t s x
/-- no two neighbours merge -/
def Fol (t : Tab) : List Nat → Prop
  | [] => True
  | [_] => True
  | x :: l :: s => t l x = none ∧ Fol t (l :: s)
theorem Fol.tail {t : Tab} {x : Nat} {s : List Nat} (h : Fol t (x :: s)) : Fol t s := by
  cases s with
  | nil => trivial
  | cons l s => exact h.2
theorem Fol.cons {t : Tab} {x : Nat} {s : List Nat} (hs : Fol t s) (h : ∀ l r, s = l :: r → t l x = none) : Fol t (x :: s) := by
  cases s with
  | nil => trivial
  | cons l r => exact ⟨h l r rfl, hs⟩
theorem Fol.head {t : Tab} {x l : Nat} {s : List Nat} (h : Fol t (x :: l :: s)) : t l x = none := h.1
theorem push_fol {t : Tab} : ∀ {s : List Nat} {x : Nat}, Fol t s → Fol t (push t s x)
  | [], _, _ => trivial
  | l :: s, x, h => by
    unfold push
    split
    · rename_i e; exact ⟨e, h⟩
    · exact h.tail
    · exact push_fol h.tail
theorem push_self {t : Tab} {s : List Nat} {x : Nat} (h : Fol t (x :: s)) : push t s x = x :: s := by
  cases s with
  | nil => rfl
  | cons l r => unfold push; rw [h.1]
theorem push_len {t : Tab} : ∀ {s : List Nat} {x : Nat}, (push t s x).length ≤ s.length + 1
  | [], _ => by simp [push]
  | l :: s, x => by
    unfold push
    split
    · simp
    · simp; omega
    · have := push_len (t := t) (s := s) (x := ‹Nat›); simp; omega
theorem push_lt {t : Tab} {n : Nat} (cl : ∀ a b c, a < n → b < n → t a b = some (some c) → c < n) : ∀ {s : List Nat} {x : Nat}, (∀ y ∈ s, y < n) → x < n → ∀ y ∈ push t s x, y < n
  | [], x, _, hx => by simp [push]; exact hx
  | l :: s, x, hs, hx => by
    unfold push
    split
    · intro y hy
      rcases List.mem_cons.mp hy with rfl | hy
      · exact hx
      · exact hs y hy
    · exact fun y hy => hs y (List.mem_cons_of_mem _ hy)
    · rename_i d e
      exact push_lt cl (fun y hy => hs y (List.mem_cons_of_mem _ hy)) (cl l x d (hs l (by simp)) hx e)
def run (t : Tab) (s : List Nat) (q : List Nat) : List Nat := q.foldl (push t) s
theorem run_app {t : Tab} {s p q : List Nat} : run t s (p ++ q) = run t (run t s p) q := by unfold run; rw [List.foldl_append]
theorem run_fol {t : Tab} : ∀ {q s : List Nat}, Fol t s → Fol t (run t s q)
  | [], _, h => h
  | x :: q, s, h => run_fol (q := q) (push_fol h)
theorem run_lt {t : Tab} {n : Nat} (cl : ∀ a b c, a < n → b < n → t a b = some (some c) → c < n) : ∀ {q s : List Nat}, (∀ y ∈ s, y < n) → (∀ y ∈ q, y < n) → ∀ y ∈ run t s q, y < n
  | [], _, hs, _ => hs
  | x :: q, s, hs, hq => run_lt cl (q := q) (push_lt cl hs (hq x (by simp))) fun y hy => hq y (by simp [hy])

/-! ### sound tables without bad fours, commands below n -/
/-- x c, where x came of two commands -/
def lft (t : Tab) (x : Option Nat) (c : Nat) : Option (Option Nat) := match x with
  | none => some (some c)
  | some d => t d c
def rgt (t : Tab) (a : Nat) (y : Option Nat) : Option (Option Nat) := match y with
  | none => some (some a)
  | some e => t a e
def Hand (t : Tab) (a b c : Nat) : Prop := ∃ e d, t a b = some (some e) ∧ t b c = some (some d) ∧ t e c = none
structure Ev (t : Tab) (n : Nat) : Prop where
  cl : ∀ a b c, a < n → b < n → t a b = some (some c) → c < n
  snd : ∀ a b c, a < n → b < n → c < n → ∀ x y, t a b = some x → t b c = some y → lft t x c = rgt t a y
  mid : ∀ a b c d, a < n → b < n → c < n → d < n → Hand t a b c → Hand t b c d → False
  lef : ∀ x a b c e, x < n → a < n → b < n → c < n → Hand t a b c → t x a = none → t a b = some (some e) → t x e = none
  rig : ∀ a b c w d, a < n → b < n → c < n → w < n → Hand t a b c → t c w = none → t b c = some (some d) → t d w = none
/-- one hand-over, seen from the top -/
inductive Ho (t : Tab) (n : Nat) : List Nat → List Nat → Prop
  | here {a b c d e : Nat} {u : List Nat} : a < n → b < n → c < n → (∀ y ∈ u, y < n) → t a b = some (some e) → t b c = some (some d) → t e c = none → Fol t (c :: e :: u) → Fol t (d :: a :: u) → Ho t n (c :: e :: u) (d :: a :: u)
  | deep {w : Nat} {s s' : List Nat} : w < n → Ho t n s s' → Fol t (w :: s) → Fol t (w :: s') → Ho t n (w :: s) (w :: s')
/-- by hand-overs, to and fro -/
inductive Eq' (t : Tab) (n : Nat) : List Nat → List Nat → Prop
  | refl (s : List Nat) : Eq' t n s s
  | fwd {s s' s'' : List Nat} : Ho t n s s' → Eq' t n s' s'' → Eq' t n s s''
  | bwd {s s' s'' : List Nat} : Ho t n s' s → Eq' t n s' s'' → Eq' t n s s''
section
variable {t : Tab} {n : Nat}
theorem Eq'.trans {s s' s'' : List Nat} (h : Eq' t n s s') (h' : Eq' t n s' s'') : Eq' t n s s'' := by
  induction h with
  | refl _ => exact h'
  | fwd x _ ih => exact .fwd x (ih h')
  | bwd x _ ih => exact .bwd x (ih h')
theorem Eq'.symm {s s' : List Nat} (h : Eq' t n s s') : Eq' t n s' s := by
  induction h with
  | refl _ => exact .refl _
  | fwd x _ ih => exact ih.trans (.bwd x (.refl _))
  | bwd x _ ih => exact ih.trans (.fwd x (.refl _))
theorem Eq'.of {s s' : List Nat} (h : s = s') : Eq' t n s s' := h ▸ .refl _
theorem Ho.len {s s' : List Nat} (h : Ho t n s s') : s.length = s'.length := by
  induction h with
  | here => rfl
  | deep _ _ _ _ ih => simp [ih]
theorem Eq'.len {s s' : List Nat} (h : Eq' t n s s') : s.length = s'.length := by
  induction h with
  | refl _ => rfl
  | fwd x _ ih => rw [x.len, ih]
  | bwd x _ ih => rw [← x.len, ih]
theorem Ho.fol {s s' : List Nat} (h : Ho t n s s') : Fol t s ∧ Fol t s' := by
  cases h with
  | here _ _ _ _ _ _ _ f g => exact ⟨f, g⟩
  | deep _ _ f g => exact ⟨f, g⟩
theorem Ho.lt (E : Ev t n) {s s' : List Nat} (h : Ho t n s s') : (∀ y ∈ s, y < n) ∧ (∀ y ∈ s', y < n) := by
  induction h with
  | here ha hb hc hu e1 e2 _ _ _ =>
    have he := E.cl _ _ _ ha hb e1
    have hd := E.cl _ _ _ hb hc e2
    constructor <;> intro y hy <;> simp only [List.mem_cons] at hy <;> rcases hy with rfl | rfl | hy
    · exact hc
    · exact he
    · exact hu y hy
    · exact hd
    · exact ha
    · exact hu y hy
  | deep hw _ _ _ ih =>
    constructor <;> intro y hy <;> simp only [List.mem_cons] at hy <;> rcases hy with rfl | hy
    · exact hw
    · exact ih.1 y hy
    · exact hw
    · exact ih.2 y hy
/-- the top of two handed-over piles merges alike or not at all with what comes -/
theorem ho_top (E : Ev t n) {s s' : List Nat} (h : Ho t n s s') : True := trivial
/-- (2) two commands that merge, put one by one or merged -/
theorem push_two (E : Ev t n) : ∀ {s : List Nat} {x y : Nat} {z : Option Nat}, Fol t s → (∀ k ∈ s, k < n) → x < n → y < n → t x y = some z → Eq' t n (push t (push t s x) y) (push? t s z)
  | [], x, y, z, _, _, _, _, e => by
    have : push t (push t [] x) y = push? t [] z := by
      cases z <;> simp [push, e, push?]
    exact .of this
  | l :: s, x, y, z, hf, hs, hx, hy, e => by
    have hl : l < n := hs l (by simp)
    have hs' : ∀ k ∈ s, k < n := fun k hk => hs k (by simp [hk])
    cases e1 : t l x with
    | none =>
      have : push t (push t (l :: s) x) y = push? t (l :: s) z := by
        have e2 : push t (l :: s) x = x :: l :: s := by rw [push, e1]
        rw [e2, push, e]
        cases z <;> rfl
      exact .of this
    | some r =>
      have sd := E.snd l x y hl hx hy r z e1 e
      cases r with
      | none =>
        have e2 : push t (l :: s) x = s := by rw [push, e1]
        rw [e2]
        -- l (x y) = y
        have sd' : rgt t l z = some (some y) := sd.symm
        cases z with
        | none =>
          have : l = y := by simpa [rgt] using sd'
          subst this
          exact .of (by rw [push_self hf]; rfl)
        | some z =>
          have e3 : t l z = some (some y) := sd'
          exact .of (by show _ = push t (l :: s) z; rw [push, e3])
      | some d =>
        have e2 : push t (l :: s) x = push t s d := by rw [push, e1]
        have hd : d < n := E.cl l x d hl hx e1
        rw [e2]
        have sd' : t d y = rgt t l z := sd
        cases z with
        | none =>
          -- d y = l
          have e3 : t d y = some (some l) := sd'
          refine (push_two E (s := s) hf.tail hs' hd hy e3).trans (.of ?_)
          show push t s l = l :: s
          exact push_self hf
        | some z =>
          have e3 : t d y = t l z := sd'
          cases e4 : t l z with
          | some r =>
            rw [e4] at e3
            refine (push_two E (s := s) hf.tail hs' hd hy e3).trans (.of ?_)
            show _ = push t (l :: s) z
            rw [push, e4]
            cases r <;> rfl
          | none =>
            rw [e4] at e3
            have hz : z < n := E.cl x y z hx hy e
            have hh : Hand t l x y := ⟨d, z, e1, e, e3⟩
            have top : ∀ k r, s = k :: r → t k d = none := fun k r hk => by
              subst hk
              exact E.lef k l x y d (hs k (by simp)) hl hx hy hh hf.1 e1
            have fd : Fol t (d :: s) := hf.tail.cons top
            have e5 : push t s d = d :: s := push_self fd
            have e6 : push t (d :: s) y = y :: d :: s := by rw [push, e3]
            have e7 : push t (l :: s) z = z :: l :: s := by rw [push, e4]
            rw [e5, e6]
            show Eq' t n _ (push t (l :: s) z)
            rw [e7]
            exact .fwd (.here hl hx hy hs' e1 e e3 ⟨e3, fd⟩ ⟨e4, hf⟩) (.refl _)
/-- (1) one hand-over and a command more -/
theorem push_ho (E : Ev t n) {s s' : List Nat} (h : Ho t n s s') : ∀ {x : Nat}, x < n → Eq' t n (push t s x) (push t s' x) := by
  induction h with
  | @deep w s s' hw h f f' ih =>
    intro x hx
    cases e : t w x with
    | none =>
      have e1 : push t (w :: s) x = x :: w :: s := by rw [push, e]
      have e2 : push t (w :: s') x = x :: w :: s' := by rw [push, e]
      rw [e1, e2]
      exact .fwd (.deep hx (.deep hw h f f') ⟨e, f⟩ ⟨e, f'⟩) (.refl _)
    | some r =>
      cases r with
      | none =>
        have e1 : push t (w :: s) x = s := by rw [push, e]
        have e2 : push t (w :: s') x = s' := by rw [push, e]
        rw [e1, e2]
        exact .fwd h (.refl _)
      | some d =>
        have e1 : push t (w :: s) x = push t s d := by rw [push, e]
        have e2 : push t (w :: s') x = push t s' d := by rw [push, e]
        rw [e1, e2]
        exact ih (E.cl w x d hw hx e)
  | @here a b c d e u ha hb hc hu eab ebc eec f f' =>
    intro x hx
    have he : e < n := E.cl _ _ _ ha hb eab
    have hd : d < n := E.cl _ _ _ hb hc ebc
    have hh : Hand t a b c := ⟨e, d, eab, ebc, eec⟩
    cases ecx : t c x with
    | none =>
      have edx : t d x = none := E.rig a b c x d ha hb hc hx hh ecx ebc
      have e1 : push t (c :: e :: u) x = x :: c :: e :: u := by rw [push, ecx]
      have e2 : push t (d :: a :: u) x = x :: d :: a :: u := by rw [push, edx]
      rw [e1, e2]
      exact .fwd (.deep hx (.here ha hb hc hu eab ebc eec f f') ⟨ecx, f⟩ ⟨edx, f'⟩) (.refl _)
    | some y =>
      have sd : t d x = rgt t b y := E.snd b c x hb hc hx (some d) y ebc ecx
      cases y with
      | none =>
        have edx : t d x = some (some b) := sd
        have e1 : push t (c :: e :: u) x = e :: u := by rw [push, ecx]
        have e2 : push t (d :: a :: u) x = push t (a :: u) b := by rw [push, edx]
        have e3 : push t (a :: u) b = push t u e := by rw [push, eab]
        rw [e1, e2, e3, push_self f.tail]
        exact .refl _
      | some y =>
        have hy : y < n := E.cl c x y hc hx ecx
        have edx : t d x = t b y := sd
        have e1 : push t (c :: e :: u) x = push t (e :: u) y := by rw [push, ecx]
        rw [e1]
        cases eby : t b y with
        | none =>
          exfalso
          rw [eby] at edx
          exact E.mid a b c x ha hb hc hx hh ⟨d, y, ebc, ecx, edx⟩
        | some g =>
          rw [eby] at edx
          have e2 : push t (d :: a :: u) x = push? t (a :: u) g := by rw [push, edx]; cases g <;> rfl
          have fa : Fol t (a :: u) := f'.tail
          have hau : ∀ k ∈ a :: u, k < n := fun k hk => by
            rcases List.mem_cons.mp hk with rfl | hk
            · exact ha
            · exact hu k hk
          have q := push_two E (s := a :: u) (x := b) (y := y) fa hau hb hy eby
          have e3 : push t (a :: u) b = e :: u := by rw [push, eab]; exact push_self f.tail
          rw [e3] at q
          rw [e2]
          exact q
theorem push_eq (E : Ev t n) {s s' : List Nat} (h : Eq' t n s s') {x : Nat} (hx : x < n) : Eq' t n (push t s x) (push t s' x) := by
  induction h with
  | refl _ => exact .refl _
  | fwd a _ ih => exact (push_ho E a hx).trans ih
  | bwd a _ ih => exact (push_ho E a hx).symm.trans ih
theorem run_eq (E : Ev t n) : ∀ {q s s' : List Nat}, Eq' t n s s' → (∀ y ∈ q, y < n) → Eq' t n (run t s q) (run t s' q)
  | [], _, _, h, _ => h
  | x :: q, _, _, h, hq => run_eq E (q := q) (push_eq E h (hq x (by simp))) fun y hy => hq y (by simp [hy])
/-- two queues that come to alike piles, whatever is ahead -/
def Alike (t : Tab) (n : Nat) (q c : List Nat) : Prop := (∀ y ∈ q, y < n) ∧ (∀ y ∈ c, y < n) ∧ ∀ s, Fol t s → (∀ y ∈ s, y < n) → Eq' t n (run t s q) (run t s c)
theorem Alike.refl {q : List Nat} (h : ∀ y ∈ q, y < n) : Alike t n q q := ⟨h, h, fun _ _ _ => .refl _⟩
theorem Alike.trans {p q r : List Nat} (h : Alike t n p q) (h' : Alike t n q r) : Alike t n p r := ⟨h.1, h'.2.1, fun s f l => (h.2.2 s f l).trans (h'.2.2 s f l)⟩
theorem Alike.app (E : Ev t n) {p q r s : List Nat} (h : Alike t n p q) (h' : Alike t n r s) : Alike t n (p ++ r) (q ++ s) := by
  refine ⟨fun y hy => (List.mem_append.mp hy).elim (h.1 y) (h'.1 y), fun y hy => (List.mem_append.mp hy).elim (h.2.1 y) (h'.2.1 y), fun u f l => ?_⟩
  rw [run_app, run_app]
  exact (run_eq E (h.2.2 u f l) h'.1).trans (h'.2.2 _ (run_fol f) (run_lt E.cl l h.2.1))
def opt : Option Nat → List Nat
  | none => []
  | some x => [x]
theorem Alike.two (E : Ev t n) {x y : Nat} {z : Option Nat} (hx : x < n) (hy : y < n) (e : t x y = some z) : Alike t n (opt z) [x, y] := by
  refine ⟨?_, ?_, fun s f l => ?_⟩
  · cases z with
    | none => simp [opt]
    | some d => simp [opt]; exact E.cl x y d hx hy e
  · intro k hk
    simp at hk
    rcases hk with rfl | rfl
    · exact hx
    · exact hy
  · have := (push_two E f l hx hy e).symm
    cases z with
    | none => exact this
    | some d => exact this
/-- a merge amid a queue -/
theorem Alike.merge (E : Ev t n) {u v : List Nat} {x y : Nat} {z : Option Nat} (hq : ∀ k ∈ u ++ x :: y :: v, k < n) (e : t x y = some z) : Alike t n (u ++ opt z ++ v) (u ++ x :: y :: v) := by
  have hx : x < n := hq x (by simp)
  have hy : y < n := hq y (by simp)
  have h1 := (Alike.refl (t := t) (n := n) (q := u) fun k hk => hq k (by simp [hk])).app E (Alike.two E hx hy e)
  have h2 := h1.app E (Alike.refl (t := t) (n := n) (q := v) fun k hk => hq k (by simp [hk]))
  have : u ++ [x, y] ++ v = u ++ x :: y :: v := by simp
  rwa [this] at h2
/-- how many the plain way leaves -/
def left (t : Tab) (q : List Nat) : Nat := (run t [] q).length
theorem Alike.left {p q : List Nat} (h : Alike t n p q) : left t p = left t q := (h.2.2 [] trivial (by simp)).len
/-- queues of which nothing merges, as they stand -/
def Done (t : Tab) : List Nat → Prop
  | [] => True
  | [_] => True
  | x :: y :: s => t x y = none ∧ Done t (y :: s)
theorem run_done : ∀ {q s : List Nat}, Done t q → Fol t s → (∀ x q', q = x :: q' → ∀ l r, s = l :: r → t l x = none) → run t s q = q.reverse ++ s
  | [], s, _, _, _ => by simp [run]
  | x :: q, s, hd, hf, hj => by
    have fx : Fol t (x :: s) := hf.cons (hj x q rfl)
    have e : run t s (x :: q) = run t (push t s x) q := rfl
    rw [e, push_self fx]
    have hd' : Done t q := by
      cases q with
      | nil => trivial
      | cons y q => exact hd.2
    rw [run_done (s := x :: s) hd' fx fun y q' hq l r hl => by
      cases hl
      subst hq
      exact hd.1]
    simp
theorem left_done {q : List Nat} (h : Done t q) : left t q = q.length := by
  unfold left
  rw [run_done h (by trivial) (fun _ _ _ l r h => by cases h)]
  simp
end
end FM

end

section
/-! rows and tables; piles as lists of ints. -/
namespace DH
open PySem PySem.Spec PyProof.Rows L2 FM
def tab (m : Rows) : Tab := fun a b => match look m a b with
  | none => none
  | some x => if x = -1 then some none else some (some x.toNat)
theorem tab_none {m : Rows} {a b : Nat} : tab m a b = none ↔ look m a b = none := by
  unfold tab
  cases look m a b with
  | none => simp
  | some x => by_cases h : x = -1 <;> simp [h]
theorem tab_gone {m : Rows} {a b : Nat} (h : look m a b = some (-1)) : tab m a b = some none := by unfold tab; rw [h]; rfl
theorem tab_some {m : Rows} {a b c : Nat} (h : look m a b = some (c : Int)) : tab m a b = some (some c) := by
  unfold tab; rw [h]
  show (if (c : Int) = -1 then _ else _) = _
  rw [if_neg (by omega)]; rfl
theorem look_some {m : Rows} {a b c : Nat} {n : Nat} (hw : Wf n m) (ha : a < n) (hb : b < n) (h : tab m a b = some (some c)) : look m a b = some (c : Int) := by
  unfold tab at h
  cases e : look m a b with
  | none => rw [e] at h; cases h
  | some x =>
    rw [e] at h
    simp only at h
    by_cases hx : x = -1
    · rw [if_pos hx] at h; cases h
    · rw [if_neg hx] at h
      have := (hw.look ha hb e).1
      cases h
      congr 1; omega
theorem look_gone {m : Rows} {a b : Nat} (h : tab m a b = some none) : look m a b = some (-1) := by
  unfold tab at h
  cases e : look m a b with
  | none => rw [e] at h; cases h
  | some x =>
    rw [e] at h
    simp only at h
    by_cases hx : x = -1
    · rw [hx]
    · rw [if_neg hx] at h; cases h
theorem tab_cl {m : Rows} {n : Nat} (hw : Wf n m) : ∀ a b c, a < n → b < n → tab m a b = some (some c) → c < n := fun a b c ha hb h => by
  have := (hw.look ha hb (look_some hw ha hb h)).2
  omega
theorem tab_snd {m : Rows} {n : Nat} (hw : Wf n m) (hs : Sound n m) : ∀ a b c, a < n → b < n → c < n → ∀ x y, tab m a b = some x → tab m b c = some y → lft (tab m) x c = rgt (tab m) a y := by
  intro a b c ha hb hc x y e1 e2
  have enc : ∀ {a b : Nat} {x : Option Nat}, a < n → b < n → tab m a b = some x → ∃ i, look m a b = some i ∧ (x = none → i = -1) ∧ (∀ d, x = some d → i = (d : Int)) := by
    intro a b x ha hb h
    cases x with
    | none => exact ⟨-1, look_gone h, fun _ => rfl, fun d hd => by cases hd⟩
    | some d => exact ⟨d, look_some hw ha hb h, (fun z => by cases z), (fun d' hd => by cases hd; rfl)⟩
  obtain ⟨i, l1, i1, i2⟩ := enc ha hb e1
  obtain ⟨j, l2, j1, j2⟩ := enc hb hc e2
  have q := hs a b c ha hb hc i j l1 l2
  have tL : ∀ {u v : Nat} {o : Option Int}, look m u v = o → tab m u v = (match o with | none => none | some x => if x = -1 then some none else some (some x.toNat)) := fun h => by unfold tab; rw [h]
  let g : Option Int → Option (Option Nat) := fun o => match o with | none => none | some x => if x = -1 then some none else some (some x.toNat)
  have q' : g (meetL m i c) = g (meetR m a j) := by rw [q]
  have L : g (meetL m i c) = lft (tab m) x c := by
    cases x with
    | none => rw [i1 rfl]; show g (some (c : Int)) = some (some c); show (if (c : Int) = -1 then _ else _) = _; rw [if_neg (by omega)]; rfl
    | some d =>
      rw [i2 d rfl]
      unfold meetL
      rw [if_neg (by omega)]
      rfl
  have R : g (meetR m a j) = rgt (tab m) a y := by
    cases y with
    | none => rw [j1 rfl]; show g (some (a : Int)) = some (some a); show (if (a : Int) = -1 then _ else _) = _; rw [if_neg (by omega)]; rfl
    | some d =>
      rw [j2 d rfl]
      unfold meetR
      rw [if_neg (by omega)]
      rfl
  rw [← L, ← R, q']
/-! piles: the top is the last item -/
theorem pile_len {w : List Nat} : (intsD w.reverse).length = w.length := by rw [intsD_len, List.length_reverse]
theorem pile_app {x : Nat} {w : List Nat} : intsD w.reverse ++ [.int (x : Nat)] = intsD (x :: w).reverse := by rw [List.reverse_cons, intsD_app]; rfl
theorem pile_drop {x : Nat} {w : List Nat} : (intsD (x :: w).reverse).dropLast = intsD w.reverse := by rw [← pile_app, List.dropLast_concat]
theorem pile_last {x : Nat} {w : List Nat} : (intsD (x :: w).reverse)[(intsD (x :: w).reverse).length - 1]? = some (.int (x : Nat)) := by
  rw [← pile_app]; simp
theorem pile_m1 {x : Nat} {w : List Nat} : atI (intsD (x :: w).reverse) (-1) = some (.int (x : Nat)) := by
  have := atI_back (ds := intsD (x :: w).reverse) (i := 0) (d := .int (x : Nat)) (by rw [pile_len]; simp) (by simpa using pile_last (x := x) (w := w))
  simpa using this
theorem pile_m2 {x l : Nat} {w : List Nat} : atI (intsD (x :: l :: w).reverse) (-2) = some (.int (l : Nat)) := by
  have := atI_back (ds := intsD (x :: l :: w).reverse) (i := 1) (d := .int (l : Nat)) (by rw [pile_len]; simp) (by
    have h1 : (intsD (x :: l :: w).reverse) = intsD (l :: w).reverse ++ [.int (x : Nat)] := pile_app.symm
    rw [h1, List.getElem?_append_left (by simp [intsD_len])]
    have := pile_last (x := l) (w := w)
    simpa using this)
  simpa using this
end DH
namespace DH
open PySem PySem.Spec PyProof.Rows L2 FM
theorem SlR.any {n : Nat} {α : Sto} {x : Option D} {r r' : Rho} (h : SlR n α r r') : SlR n α (x :: r) (Option.none :: r') := by
  cases x with
  | none => exact .none h
  | some d => exact .let_ h
theorem na_tupR {k : Nat} (m : Rows) : (tupR m).na k = true := by
  unfold tupR
  simp only [D.na]
  refine nas_of fun x hx => ?_
  obtain ⟨r, _, rfl⟩ := List.mem_map.mp hx
  simp only [D.na]
  refine nas_of fun x hx => ?_
  obtain ⟨y, _, rfl⟩ := List.mem_map.mp hx
  cases y <;> rfl
theorem na_lstR {k : Nat} (m : Rows) : (lstR m).na k = true := by
  unfold lstR
  simp only [D.na]
  refine nas_of fun x hx => ?_
  obtain ⟨r, _, rfl⟩ := List.mem_map.mp hx
  simp only [D.na]
  refine nas_of fun x hx => ?_
  obtain ⟨y, _, rfl⟩ := List.mem_map.mp hx
  cases y <;> rfl
theorem na_mgD {k n : Nat} {C : Addr} (m : Rows) : (mgD C n m).na k = true := by
  unfold mgD
  simp [D.na, nas, na_tupR]
theorem na_tupI {k : Nat} (q : List Nat) : (D.tup (intsD q)).na k = true := by simp only [D.na]; exact nas_intsD k q
theorem na_lstI {k : Nat} (q : List Nat) : (D.lst (intsD q)).na k = true := by simp only [D.na]; exact nas_intsD k q
end DH

end

section
/-! DH: assignments to any target; kinds of fours. -/
namespace DH
open PySem PySem.Spec PyProof.Rows L2 FM
section
variable {X : Cx} {n : Nat} {ρ : Rho} {α : Sto} {P : Post} {tg e : Expr} {pos : Pos}
/-- target = e -/
theorem ds_asg (h : DE X e ρ α fun d α1 => DG X tg d ρ α1 P.nx)
    (hs : swapsWithSole [tg] e pos.line X.env = pure false := by rfl) (hw : swappedStores [tg] e X.env = pure none := by rfl)
    (h1 : (assignEach [tg] X.env).map (·.2) = [assign tg X.env] := by rfl) : DS X n (.Assign [tg] e pos) ρ α P := by
  intro A H0 E B σ H at_
  refine wps_of (ps_asg pe_wp pg_wp hs hw h1) (h _ σ H _ at_.rep fun v d B1 α1 H1 h1 g s q => ?_)
  have at1 := at_.step g s
  refine h1 _ σ H1 _ _ at1.rep (da_assoc q) fun ρ2 α2 B2 σ2 H2 h2 g2 r2 => ?_
  exact at_.con.nx ρ2 α2 (B ++ B1 ++ B2) σ2 H2 h2 (at1.gr.trans at1.rep.so g2) (by rw [← List.append_assoc]; exact r2)
/-- a text of the module -/
theorem de_gS {R : RE} {x : Str} {i : Str} (hg : Gl X x) (hm : ∃ t, X.mg x = some (.str i t)) (hR : R (.str i) α) (hd : (x == ("__debug__" : Str)) = false := by decide) : DE X (.Name x pos) ρ α R := by
  obtain ⟨t, hm⟩ := hm
  exact de_glob hg hm (v := .str i) ⟨t, rfl⟩ (fun _ _ => .str i) hR hd
end
/-- a, b and c hand over -/
def handB (m : Rows) (a b c : Nat) : Bool := match look m a b, look m b c with
  | some x, some y => decide (0 ≤ x) && decide (0 ≤ y) && (look m x.toNat c).isNone
  | _, _ => false
/-- what a and b make -/
def mk (m : Rows) (a b : Nat) : Nat := ((look m a b).getD 0).toNat
def kindOf (m : Rows) (a b c d : Nat) : Option Str :=
  if handB m a b c && handB m b c d then some "middle"
  else if handB m b c d && (look m a b).isNone && !(look m a (mk m b c)).isNone then some "left"
  else if handB m a b c && (look m c d).isNone && !(look m (mk m b c) d).isNone then some "right"
  else none
theorem handB_two {m : Rows} {a b c : Nat} (h : handB m a b c = true) : ∃ x y : Nat, look m a b = some (x : Int) ∧ look m b c = some (y : Int) ∧ look m x c = none := by
  unfold handB at h
  cases e1 : look m a b with
  | none => rw [e1] at h; cases h
  | some x =>
    cases e2 : look m b c with
    | none => rw [e1, e2] at h; cases h
    | some y =>
      rw [e1, e2] at h
      simp only [Bool.and_eq_true, decide_eq_true_eq, Option.isNone_iff_eq_none] at h
      exact ⟨x.toNat, y.toNat, by congr 1; omega, by congr 1; omega, h.2⟩
theorem handB_of {m : Rows} {a b c x y : Nat} (h1 : look m a b = some (x : Int)) (h2 : look m b c = some (y : Int)) (h3 : look m x c = none) : handB m a b c = true := by
  unfold handB
  rw [h1, h2]
  simp [h3]
/-- no bad four -/
def NoBad (n : Nat) (m : Rows) : Prop := ∀ a b c d : Nat, a < n → b < n → c < n → d < n → kindOf m a b c d = none
theorem hand_iff {m : Rows} {n a b c : Nat} (hw : Wf n m) (ha : a < n) (hb : b < n) (hc : c < n) : Hand (tab m) a b c → handB m a b c = true := by
  rintro ⟨e, d, h1, h2, h3⟩
  exact handB_of (look_some hw ha hb h1) (look_some hw hb hc h2) (tab_none.mp h3)
theorem ev_of {m : Rows} {n : Nat} (hw : Wf n m) (hs : Sound n m) (hb : NoBad n m) : Ev (tab m) n where
  cl := tab_cl hw
  snd := tab_snd hw hs
  mid := fun a b c d ha hb' hc hd h1 h2 => by
    have := hb a b c d ha hb' hc hd
    unfold kindOf at this
    rw [hand_iff hw ha hb' hc h1, hand_iff hw hb' hc hd h2] at this
    simp at this
  lef := fun x a b c e hx ha hb' hc h1 h2 h3 => by
    have k := hb x a b c hx ha hb' hc
    unfold kindOf at k
    have h1' := hand_iff hw ha hb' hc h1
    have e1 := look_some hw ha hb' h3
    have e2 : mk m a b = e := by unfold mk; rw [e1]; simp
    rw [h1', tab_none.mp h2, e2] at k
    cases hx' : handB m x a b with
    | true => rw [hx'] at k; simp at k
    | false =>
      rw [hx'] at k
      simp at k
      exact tab_none.mpr k
  rig := fun a b c w d ha hb' hc hw' h1 h2 h3 => by
    have k := hb a b c w ha hb' hc hw'
    unfold kindOf at k
    have h1' := hand_iff hw ha hb' hc h1
    have e1 := look_some hw hb' hc h3
    have e2 : mk m b c = d := by unfold mk; rw [e1]; simp
    rw [h1', tab_none.mp h2, e2] at k
    cases hx' : handB m b c w with
    | true => rw [hx'] at k; simp at k
    | false =>
      rw [hx'] at k
      simp at k
      exact tab_none.mpr k
end DH

end

section
/-! DH: ints' operations by shape; the box that draws; rows by IsRows. -/
namespace DH
open PySem PySem.Spec PyProof.Rows L2 FM
section
variable {K : PySem.W.Frag} {α : Sto} {R : RE} {d e : D} {n : Nat} {m : Rows} {i j : Int}
theorem od_rowR {i : Nat} (hr : IsRows α d m) (hw : Wf n m) (hi : i < n) (h : ∀ e r, cont α e = some (encR r) → m[i]? = some r → R e α) : OD K (rIx K) d (.int (i : Nat)) α R := od_row hr hw hi fun e r h1 h2 => h e r h2 h1
theorem od_mul (h : R (.int (i * j)) α) (hc : CMul i j := by first | exact Or.inl ⟨by decide, by decide⟩ | exact Or.inr ⟨by decide, by decide⟩ | exact Or.inl ⟨by omega, by omega⟩ | exact Or.inr ⟨by omega, by omega⟩) : OD K (rI CMul fun i j => .int (i * j)) (.int i) (.int j) α R := od_ic hc h
theorem od_mod (h : R (.int (i % j)) α) (hc : 0 < j := by first | decide | omega) : OD K (rI (fun _ j => 0 < j) fun i j => .int (i % j)) (.int i) (.int j) α R := od_ic hc h
theorem od_fdv (h : R (.int (i / j)) α) (hc : CDiv i j := by first | exact ⟨by decide, by decide⟩ | exact ⟨by omega, by omega⟩) : OD K (rI CDiv fun i j => .int (i / j)) (.int i) (.int j) α R := od_ic hc h
end
/-- x, where one may be nothing -/
def meetV (m : Rows) (a b : Int) : Option Int := if a = -1 then some b else if b = -1 then some a else look m a.toNat b.toNat
theorem meetV_L {m : Rows} {x : Int} {c : Nat} : meetV m x c = meetL m x c := by
  unfold meetV meetL
  by_cases h : x = -1
  · rw [if_pos h, if_pos h]
  · rw [if_neg h, if_neg h, if_neg (by omega)]; simp
theorem meetV_R {m : Rows} {y : Int} {a : Nat} : meetV m a y = meetR m a y := by
  unfold meetV meetR
  rw [if_neg (by omega)]
  simp
/-- the box of draws -/
abbrev bx (x y : Int) : Cl := .l [.int x, .int y]
end DH

end

section
/-! DH: what is returned, sealed; rows as cells. -/
namespace DH
open PySem PySem.Spec PyProof.Rows L2 FM
theorem dss_sealR {X : Cx} {n : Nat} {ρ : Rho} {α : Sto} {P : Post} {st : List Stmt} (h : DSs X n st ρ α ⟨P.nx, fun d α' => ∃ α1 β d', α' = α1 ++ β ∧ n ≤ α1.length ∧ NaS α1.length α1 ∧ Seal α1.length α' d d' ∧ P.rt d' α1, P.bk, P.ct⟩) : DSs X n st ρ α P := by
  intro A H0 E B σ H at_
  refine h A H0 E B σ H (at_.to ⟨at_.con.nx, ?_, at_.con.bk, at_.con.ct⟩)
  rintro d α' B' v H' ⟨α1, β, d', rfl, hn, hα, hs, hR⟩ g s q
  obtain ⟨B1, B2, rfl, hl⟩ := split_at (A := A) (B := B') (m := α1.length) (by rw [at_.len]; exact hn) (by rw [s.len]; simp)
  rw [← List.append_assoc] at s q
  exact at_.con.rt d' α1 B1 v H' hR ⟨fun b hb => g.new b (by simp [hb]), g.old⟩ (s.drop hl hα) (hs.da s hl q)
/-- rows as a list of lists that change, behind γ -/
def refs (L n : Nat) : List D := (List.range n).map fun i => D.acc (L + 1 + i)
def Mat (γ : Sto) (m : Rows) : Sto := γ ++ (.l (refs γ.length m.length) :: m.map fun r => .l (encR r))
theorem Mat.outer {γ : Sto} {m : Rows} : (Mat γ m)[γ.length]? = some (.l (refs γ.length m.length)) := by simp [Mat]
theorem Mat.inner {γ : Sto} {m : Rows} {i : Nat} {r : List (Option Int)} (h : m[i]? = some r) : (Mat γ m)[γ.length + 1 + i]? = some (.l (encR r)) := by
  unfold Mat
  rw [List.getElem?_append_right (by omega), show γ.length + 1 + i - γ.length = i + 1 by omega]
  simp [h]
theorem refs_get {L n i : Nat} (h : i < n) : (refs L n)[i]? = some (.acc (L + 1 + i)) := by simp [refs, h]
theorem Mat.isRows {γ : Sto} {m : Rows} : IsRows (Mat γ m) (.acc γ.length) m := by
  refine ⟨refs γ.length m.length, cont_acc.mpr Mat.outer, by simp [refs], fun i r h => ⟨.acc (γ.length + 1 + i), refs_get (List.getElem?_eq_some_iff.mp h).1, cont_acc.mpr (Mat.inner h)⟩⟩
theorem Mat.set {γ : Sto} {m : Rows} {i : Nat} {r' : List (Option Int)} : (Mat γ m).set (γ.length + 1 + i) (.l (encR r')) = Mat γ (m.set i r') := by
  unfold Mat
  rw [List.set_append_right _ _ (by omega), show γ.length + 1 + i - γ.length = i + 1 by omega, List.set_cons_succ, List.length_set]
  rw [List.map_set]
theorem encR_set {r : List (Option Int)} {j : Nat} {v : Option Int} : (encR r).set j (encE v) = encR (r.set j v) := by simp [encR, List.map_set]
theorem Wf.set {n : Nat} {m : Rows} (h : Wf n m) {i j : Nat} {r : List (Option Int)} {v : Option Int} (hr : m[i]? = some r) (hv : ∀ x, v = some x → -1 ≤ x ∧ x < (n : Nat)) : Wf n (m.set i (r.set j v)) := by
  have hrm := List.mem_of_getElem? hr
  refine ⟨by rw [List.length_set, h.len], fun q hq => ?_, fun q hq x hx y hy => ?_⟩
  · rcases List.mem_or_eq_of_mem_set hq with hq | rfl
    · exact h.row q hq
    · rw [List.length_set, h.row r hrm]
  · rcases List.mem_or_eq_of_mem_set hq with hq | rfl
    · exact h.ends q hq x hx y hy
    · rcases List.mem_or_eq_of_mem_set hx with hx | rfl
      · exact h.ends r hrm x hx y hy
      · exact hv y hy
def noR (n : Nat) : Rows := List.replicate n (List.replicate n none)
theorem wf_noR (n : Nat) : Wf n (noR n) := by
  refine ⟨by simp [noR], fun r hr => ?_, fun r hr x hx y hy => ?_⟩
  · rw [List.eq_of_mem_replicate hr]; simp
  · rw [List.eq_of_mem_replicate hr] at hx
    rw [List.eq_of_mem_replicate hx] at hy; cases hy
theorem look_noR {n a b : Nat} : look (noR n) a b = none := by
  unfold look noR
  rw [List.getElem?_replicate]
  by_cases h : a < n
  · rw [if_pos h]
    simp only [Option.getD_some]
    rw [List.getElem?_replicate]
    by_cases h2 : b < n <;> simp [h2]
  · rw [if_neg h]; rfl
theorem snd_noR (n : Nat) : Sound n (noR n) := fun a b c _ _ _ x y h => by rw [look_noR] at h; cases h
theorem seals_encR {n : Nat} {α : Sto} (r : List (Option Int)) : Seals n α (encR r) (encR r) := by
  induction r with
  | nil => exact .nil
  | cons x r ih => exact .cons (by cases x <;> constructor) ih
theorem seals_refs {γ : Sto} {m : Rows} : Seals γ.length (Mat γ m) (refs γ.length m.length) (m.map fun r => .lst (encR r)) := by
  have : ∀ (k : Nat) (m' : Rows), (∀ i r, m'[i]? = some r → m[k + i]? = some r) → Seals γ.length (Mat γ m) ((List.range' k m'.length).map fun i => D.acc (γ.length + 1 + i)) (m'.map fun r => .lst (encR r)) := by
    intro k m'
    induction m' generalizing k with
    | nil => intro _; exact .nil
    | cons r m' ih =>
      intro h
      rw [List.length_cons, List.range'_succ, List.map_cons, List.map_cons]
      exact .cons (.high (by omega) (Mat.inner (by simpa using h 0 r rfl)) (seals_encR r)) (ih (k + 1) fun i r' hi => by have := h (i + 1) r' (by simpa using hi); rwa [show k + (i + 1) = k + 1 + i by omega] at this)
  have h := this 0 m (fun i r hi => by simpa using hi)
  unfold refs
  rw [List.range_eq_range']
  exact h
theorem seal_mat {γ : Sto} {m : Rows} : Seal γ.length (Mat γ m) (.acc γ.length) (lstR m) := .high (Nat.le_refl _) Mat.outer seals_refs
theorem nas_refs {L n k : Nat} (h : L + 1 + n ≤ k) : nas k (refs L n) = true := nas_of fun x hx => by
  obtain ⟨i, hi, rfl⟩ := List.mem_map.mp hx
  simp at hi
  simp [D.na]; omega
/-- the rows' matrix without merges, being made -/
def MatK (γ : Sto) (n k : Nat) : Sto := γ ++ (.l (refs γ.length k) :: List.replicate k (.l (List.replicate n .non)))
theorem MatK.zero {γ : Sto} {n : Nat} : MatK γ n 0 = γ ++ [.l []] := rfl
theorem MatK.len {γ : Sto} {n k : Nat} : (MatK γ n k).length = γ.length + 1 + k := by simp [MatK]; omega
theorem MatK.outer {γ : Sto} {n k : Nat} {c : Cl} : (MatK γ n k ++ [c])[γ.length]? = some (.l (refs γ.length k)) := by
  unfold MatK
  rw [List.getElem?_append_left (by simp), List.getElem?_append_right (Nat.le_refl _), Nat.sub_self]
  rfl
theorem refs_succ {L k : Nat} : refs L (k + 1) = refs L k ++ [.acc (L + 1 + k)] := by unfold refs; rw [List.range_succ, List.map_append]; rfl
theorem MatK.succ {γ : Sto} {n k : Nat} : (MatK γ n k ++ [Cl.l (List.replicate n .non)]).set γ.length (Cl.l (refs γ.length k ++ [D.acc (γ.length + 1 + k)])) = MatK γ n (k + 1) := by
  unfold MatK
  rw [← refs_succ, List.append_assoc, List.set_append_right _ _ (Nat.le_refl _), Nat.sub_self]
  rw [List.replicate_succ']
  rfl
theorem MatK.full {γ : Sto} {n : Nat} : MatK γ n n = Mat γ (noR n) := by
  unfold MatK Mat noR
  simp [encR, encE]
end DH

end

section
/-! DH: rows of tables: index; machines. -/
namespace DH
open PySem PySem.Spec PyProof.Rows L2 FM
def tabD (t : List Nat) : D := .tup (intsD t)
def tabsD (T : List (List Nat)) : List D := T.map tabD
theorem na_tabs (k : Nat) (T : List (List Nat)) : nas k (tabsD T) = true := nas_of fun x hx => by
  obtain ⟨t, _, rfl⟩ := List.mem_map.mp hx
  exact na_tupI t
def cst (t : List Nat) : List Int := t.map Int.ofNat
theorem cst_inj {s t : List Nat} (h : cst s = cst t) : s = t := by
  induction s generalizing t with
  | nil => cases t with
    | nil => rfl
    | cons b t => cases h
  | cons a s ih => cases t with
    | nil => cases h
    | cons b t =>
      unfold cst at h
      simp only [List.map_cons, List.cons.injEq] at h
      rw [ih h.2, Int.ofNat.inj h.1]
theorem tabD_eq (t : List Nat) : tabD t = .tup ((cst t).map D.int) := by unfold tabD intsD cst; rw [List.map_map]; rfl
theorem tabsD_eq (T : List (List Nat)) : tabsD T = (T.map cst).map fun t => D.tup (t.map D.int) := by
  unfold tabsD
  rw [List.map_map]
  congr 1
  funext t
  exact tabD_eq t
section
variable {X : Cx} {ρ : Rho} {α : Sto} {R : RE} {o e : Expr} {apos cpos : Pos} {K : PySem.W.Frag}
/-- tables.index(table) -/
theorem de_index (hu : X.A.units + 65 < cLine) (h : DE X o ρ α fun d α1 => ∃ T, d = .lst (tabsD T) ∧ DE X e ρ α1 fun d2 α2 => ∃ (t : List Nat) (j : Nat), d2 = tabD t ∧ T[j]? = some t ∧ (∀ i, i < j → T[i]? ≠ some t) ∧ R (.int (j : Nat)) α2)
    (hbase : attributeBase o "index" X.env (eval o X.env) = eval o X.env := by rfl)
    (hfew : ((backTo cpos (starEach (e :: []) X.env)).all (fun x => !x.1) && (backToKw cpos (keywordEach [] X.env)).all (fun x => x.1.isSome)
      && decide ((e :: ([] : List Expr)).length + ([] : List Keyword).length + (if ([] : List Keyword).isEmpty then 0 else 1) < 30)) = true := by rfl)
    (hline : (apos.endLine == cpos.line) = true := by rfl) (hst : starEach (e :: []) X.env = (false, eval e X.env) :: starEach [] X.env := by rfl) (hplain : (backTo cpos (starEach [] X.env)).any (·.1) = false := by rfl) :
    DE X (.Call (.Attribute o "index" apos) [e] [] cpos) ρ α R := by
  intro A σ H Q rep con
  refine wp_of (pe_bm PySem.F.plainAttrs_list PySem.F.slot_list_index PySem.F.type_list_index (mt_indexD hu) pe_wp (pa_cons pe_wp pa_nil hst) hbase hfew hline hst hplain) (h A σ H _ rep fun v d B α1 H1 h1 g s q => ?_)
  obtain ⟨T, rfl, h1⟩ := h1
  have q0 := q
  cases q with
  | lst na eh r =>
    rename_i a xs
    refine ⟨.inl ⟨rfl, _, .inl (.inl eh)⟩, ?_⟩
    refine h1 _ σ H1 _ (rep.mono g s) fun u d2 B2 α2 H2 h2 g2 s2 q2 => ?_
    obtain ⟨t, j, rfl, ht, hno, hR⟩ := h2
    have d1 : Dp X.K H2 (.ref a) (.list (rowsP (T.map cst))) := py_dp s2 (Py.lst (α := α2) (by rw [tabsD_eq]; exact py_rows _)) (q0.mono g2)
    have d2 : Dp X.K H2 u (.tuple (intsP (cst t))) := py_dp s2 (by rw [tabD_eq]; exact py_intsT (α := α2) _) q2
    have gi : ∀ (i : Nat) (t' : List Nat), T[i]? = some t' → (rowsP (T.map cst))[i]? = some (PyData.tuple (intsP (cst t'))) := fun i t' h => by unfold rowsP; simp [h]
    refine ⟨a, u, _, _, j, _, rfl, rfl, d1, d2, sh_rows _, sh_intsT _, gi j t ht, by rw [eqv_intsT]; simp, fun i z hi hz => ?_, ?_⟩
    · cases e1 : T[i]? with
      | none =>
        have : (rowsP (T.map cst))[i]? = none := by unfold rowsP; simp; simpa using e1
        rw [this] at hz; cases hz
      | some t' =>
        rw [gi i t' e1] at hz
        cases hz
        rw [eqv_intsT]
        apply decide_eq_false
        intro hc
        have := cst_inj hc
        subst this
        exact hno i hi e1
    · exact ((con.step g s).step g2 s2).now s2 (.int _) hR
theorem od_eqT {s t : List Nat} (h : R (.bl (decide (s = t))) α) : OD K (rEqD K) (tabD s) (tabD t) α R :=
  od_eq (by rw [tabD_eq]; exact py_intsT _) (by rw [tabD_eq]; exact py_intsT _) (sh_intsT _) (sh_intsT _) (by
    rw [eqv_intsT]
    have : decide (cst s = cst t) = decide (s = t) := decide_eq_decide.mpr ⟨cst_inj, fun h => by rw [h]⟩
    rw [this]; exact h)
theorem od_neT {s t : List Nat} (h : R (.bl (!decide (s = t))) α) : OD K (rNeD K) (tabD s) (tabD t) α R :=
  od_ne (by rw [tabD_eq]; exact py_intsT _) (by rw [tabD_eq]; exact py_intsT _) (sh_intsT _) (sh_intsT _) (by
    rw [eqv_intsT]
    have : decide (cst s = cst t) = decide (s = t) := decide_eq_decide.mpr ⟨cst_inj, fun h => by rw [h]⟩
    rw [this]; exact h)
theorem mem_cst {t : List Nat} {T : List (List Nat)} : cst t ∈ T.map cst ↔ t ∈ T := by
  rw [List.mem_map]
  exact ⟨fun ⟨s, hs, e⟩ => cst_inj e ▸ hs, fun h => ⟨t, h, rfl⟩⟩
theorem od_inT {t : List Nat} {T : List (List Nat)} (h : R (.bl (decide (t ∈ T))) α) : OD K (rInD K) (tabD t) (.lst (tabsD T)) α R :=
  od_in (by rw [tabD_eq]; exact py_intsT _) (.lst (by rw [tabsD_eq]; exact py_rows _)) (sh_intsT _) (sh_rows _) (by
    rw [any_rows]
    have : decide (cst t ∈ T.map cst) = decide (t ∈ T) := decide_eq_decide.mpr mem_cst
    rw [this]; exact h)
theorem od_ninT {t : List Nat} {T : List (List Nat)} (h : R (.bl (!decide (t ∈ T))) α) : OD K (rNotInD K) (tabD t) (.lst (tabsD T)) α R :=
  od_nin (by rw [tabD_eq]; exact py_intsT _) (.lst (by rw [tabsD_eq]; exact py_rows _)) (sh_intsT _) (sh_rows _) (by
    rw [any_rows]
    have : decide (cst t ∈ T.map cst) = decide (t ∈ T) := decide_eq_decide.mpr mem_cst
    rw [this]; exact h)
end
theorem rgD_tab (n : Nat) : D.tup (rgD 0 n) = tabD (List.range n) := by
  unfold rgD tabD intsD
  congr 1
  apply List.map_congr_left
  intro x _
  rw [Int.zero_add]
/-! ### machines -/
/-- first f, then g -/
def comp (f g : List Nat) : List Nat := f.map fun s => g.getD s 0
structure MOk (N : Nat) (T : List (List Nat)) : Prop where
  tabs : ∀ t ∈ T, t.length = N ∧ ∀ s ∈ t, s < N
  nd : T.Nodup
  idle : List.range N ∉ T
theorem comp_ok {N : Nat} {f g : List Nat} (hf : f.length = N ∧ ∀ s ∈ f, s < N) (hg : g.length = N ∧ ∀ s ∈ g, s < N) : (comp f g).length = N ∧ ∀ s ∈ comp f g, s < N := by
  refine ⟨by unfold comp; rw [List.length_map, hf.1], fun s hs => ?_⟩
  obtain ⟨x, hx, rfl⟩ := List.mem_map.mp hs
  have hx' := hf.2 x hx
  rw [List.getD_eq_getElem?_getD, List.getElem?_eq_getElem (by rw [hg.1]; exact hx')]
  exact hg.2 _ (List.getElem_mem _)
theorem comp_assoc {N : Nat} {f g h : List Nat} (hf : f.length = N ∧ ∀ s ∈ f, s < N) (hg : g.length = N ∧ ∀ s ∈ g, s < N) : comp (comp f g) h = comp f (comp g h) := by
  unfold comp
  rw [List.map_map]
  apply List.map_congr_left
  intro s hs
  have hs' := hf.2 s hs
  have : s < g.length := by rw [hg.1]; exact hs'
  simp [List.getD_eq_getElem?_getD, this]
theorem comp_id {N : Nat} {g : List Nat} (hg : g.length = N) : comp (List.range N) g = g := by
  unfold comp
  apply List.ext_getElem?
  intro i
  by_cases hi : i < N
  · rw [List.getElem?_map, List.getElem?_range hi]
    simp [hg, hi]
  · rw [List.getElem?_eq_none (by simp; omega), List.getElem?_eq_none (by omega)]
theorem id_comp {N : Nat} {f : List Nat} (hf : f.length = N ∧ ∀ s ∈ f, s < N) : comp f (List.range N) = f := by
  unfold comp
  have : ∀ s ∈ f, (List.range N).getD s 0 = s := fun s hs => by
    rw [List.getD_eq_getElem?_getD, List.getElem?_range (hf.2 s hs)]; rfl
  rw [List.map_congr_left this, List.map_id']
/-- what a table is told as -/
def encT (N : Nat) (T : List (List Nat)) (f : List Nat) : Option Int := if f = List.range N then some (-1) else if f ∈ T then some (T.idxOf f : Nat) else none
def machR (N : Nat) (T : List (List Nat)) : Rows := T.map fun a => T.map fun b => encT N T (comp a b)
theorem machR_look {N : Nat} {T : List (List Nat)} {a b : Nat} (ha : a < T.length) (hb : b < T.length) : look (machR N T) a b = encT N T (comp T[a] T[b]) := by
  unfold look machR
  simp [ha, hb]
theorem encT_lt {N : Nat} {T : List (List Nat)} {f : List Nat} {x : Int} (h : encT N T f = some x) : -1 ≤ x ∧ x < (T.length : Nat) := by
  unfold encT at h
  by_cases h1 : f = List.range N
  · rw [if_pos h1] at h; cases h; omega
  · rw [if_neg h1] at h
    by_cases h2 : f ∈ T
    · rw [if_pos h2] at h
      cases h
      have := List.idxOf_lt_length_of_mem h2
      omega
    · rw [if_neg h2] at h; cases h
theorem wf_mach {N : Nat} {T : List (List Nat)} : Wf T.length (machR N T) := by
  refine ⟨by simp [machR], fun r hr => ?_, fun r hr x hx i hi => ?_⟩
  · obtain ⟨a, _, rfl⟩ := List.mem_map.mp hr
    simp
  · obtain ⟨a, _, rfl⟩ := List.mem_map.mp hr
    obtain ⟨b, _, rfl⟩ := List.mem_map.mp hx
    exact encT_lt hi
theorem snd_mach {N : Nat} {T : List (List Nat)} (hm : MOk N T) : Sound T.length (machR N T) := by
  intro a b c ha hb hc x y h1 h2
  rw [machR_look ha hb] at h1
  rw [machR_look hb hc] at h2
  have oa := hm.tabs _ (List.getElem_mem ha)
  have ob := hm.tabs _ (List.getElem_mem hb)
  have oc := hm.tabs _ (List.getElem_mem hc)
  have self : ∀ k (hk : k < T.length), encT N T T[k] = some (k : Int) := fun k hk => by
    unfold encT
    have nI : T[k] ≠ List.range N := fun e => hm.idle (by rw [← e]; exact List.getElem_mem hk)
    rw [if_neg nI, if_pos (List.getElem_mem hk), hm.nd.idxOf_getElem]
  have L : meetL (machR N T) x c = encT N T (comp (comp T[a] T[b]) T[c]) := by
    unfold meetL
    unfold encT at h1
    by_cases e1 : comp T[a] T[b] = List.range N
    · rw [if_pos e1] at h1
      cases h1
      rw [if_pos rfl, e1, comp_id oc.1, self c hc]
    · rw [if_neg e1] at h1
      by_cases e2 : comp T[a] T[b] ∈ T
      · rw [if_pos e2] at h1
        cases h1
        rw [if_neg (by omega)]
        have hi := List.idxOf_lt_length_of_mem e2
        rw [Int.toNat_natCast, machR_look hi hc]
        simp
      · rw [if_neg e2] at h1; cases h1
  have R : meetR (machR N T) a y = encT N T (comp T[a] (comp T[b] T[c])) := by
    unfold meetR
    unfold encT at h2
    by_cases e1 : comp T[b] T[c] = List.range N
    · rw [if_pos e1] at h2
      cases h2
      rw [if_pos rfl, e1, id_comp oa, self a ha]
    · rw [if_neg e1] at h2
      by_cases e2 : comp T[b] T[c] ∈ T
      · rw [if_pos e2] at h2
        cases h2
        rw [if_neg (by omega)]
        have hi := List.idxOf_lt_length_of_mem e2
        rw [Int.toNat_natCast, machR_look ha hi]
        simp
      · rw [if_neg e2] at h2; cases h2
  rw [L, R, comp_assoc oa ob]
end DH
namespace DH
open PySem PySem.Spec PyProof.Rows L2 FM
theorem od_neNil {K : PySem.W.Frag} {α : Sto} {R : RE} {T : List (List Nat)} (h : R (.bl (!decide (T = []))) α) : OD K (rNeD K) (.lst (tabsD T)) (.lst []) α R :=
  od_ne (p2 := .list []) (.lst (by rw [tabsD_eq]; exact py_rows _)) (.lst .nil) (sh_rows _) rfl (by
    have : PyData.eqv (.list (rowsP (T.map cst))) (.list []) = decide (T = []) := by
      cases T with
      | nil => rfl
      | cons t T => rfl
    rw [this]; exact h)
theorem tabsD_app {S T : List (List Nat)} : tabsD S ++ tabsD T = tabsD (S ++ T) := by simp [tabsD]
theorem tabsD_len {T : List (List Nat)} : (tabsD T).length = T.length := by simp [tabsD]
theorem tabsD_mem {T : List (List Nat)} {e : D} (h : e ∈ tabsD T) : ∃ t ∈ T, e = tabD t := by
  obtain ⟨t, ht, rfl⟩ := List.mem_map.mp h
  exact ⟨t, ht, rfl⟩
theorem tabsD_get {T : List (List Nat)} {k : Nat} {y : D} (h : (tabsD T)[k]? = some y) : ∃ t, T[k]? = some t ∧ y = tabD t := by
  unfold tabsD at h
  rw [List.getElem?_map] at h
  cases e : T[k]? with
  | none => rw [e] at h; cases h
  | some t => rw [e] at h; cases h; exact ⟨t, rfl, rfl⟩
end DH
namespace DH
open PySem PySem.Spec PyProof.Rows L2 FM
theorem units65 {k : Nat} {A : Around} (r : Room k A) : A.units + 65 < cLine := by have := r.un; omega
end DH
namespace DH
open PySem
def noS : Stmt := .Pass ⟨0, 0, 0, 0⟩
def forB : Stmt → List Stmt
  | .For (body := b) .. => b
  | _ => []
def ifB : Stmt → List Stmt
  | .If (body := b) .. => b
  | _ => []
def ifE : Stmt → List Stmt
  | .If (orelse := b) .. => b
  | _ => []
end DH

end

section
/-! DH: the told rows, by a look at each. -/
namespace DH
open PySem PySem.Spec PyProof.Rows L2 FM
def set2 (m : Rows) (i j : Nat) (v : Option Int) : Rows := m.set i ((m[i]?.getD []).set j v)
theorem set2_eq {m : Rows} {i j : Nat} {r : List (Option Int)} {v : Option Int} (h : m[i]? = some r) : set2 m i j v = m.set i (r.set j v) := by unfold set2; rw [h]; rfl
theorem wf_set2 {n : Nat} {m : Rows} (hw : Wf n m) {i j : Nat} {v : Option Int} (hi : i < n) (hv : ∀ x, v = some x → -1 ≤ x ∧ x < (n : Nat)) : Wf n (set2 m i j v) := by
  obtain ⟨r, h, _⟩ := hw.get hi
  rw [set2_eq h]; exact hw.set h hv
/-- one entry written -/
theorem Mat.set2 {γ : Sto} {m : Rows} {i j : Nat} {r : List (Option Int)} {v : Option Int} (h : m[i]? = some r) : (Mat γ m).set (γ.length + 1 + i) (.l ((encR r).set j (encE v))) = Mat γ (set2 m i j v) := by
  rw [encR_set, set2_eq h]; exact Mat.set
def sndB (n : Nat) (m : Rows) : Bool := (List.range n).all fun a => (List.range n).all fun b => (List.range n).all fun c => match look m a b, look m b c with
  | some x, some y => decide (meetL m x c = meetR m a y)
  | _, _ => true
theorem snd_of {n : Nat} {m : Rows} (h : sndB n m = true) : Sound n m := by
  intro a b c ha hb hc x y h1 h2
  unfold sndB at h
  have := List.all_eq_true.mp (List.all_eq_true.mp (List.all_eq_true.mp h a (by simpa using ha)) b (by simpa using hb)) c (by simpa using hc)
  rw [h1, h2] at this
  simpa using this
def wfB (n : Nat) (m : Rows) : Bool := decide (m.length = n) && m.all fun r => decide (r.length = n) && r.all fun x => match x with
  | none => true
  | some i => decide (-1 ≤ i) && decide (i < (n : Nat))
theorem wf_of {n : Nat} {m : Rows} (h : wfB n m = true) : Wf n m := by
  unfold wfB at h
  simp only [Bool.and_eq_true, decide_eq_true_eq] at h
  obtain ⟨h1, h2⟩ := h
  have h3 := List.all_eq_true.mp h2
  refine ⟨h1, fun r hr => ?_, fun r hr x hx i hi => ?_⟩
  · have := h3 r hr
    simp only [Bool.and_eq_true, decide_eq_true_eq] at this
    exact this.1
  · have := h3 r hr
    simp only [Bool.and_eq_true, decide_eq_true_eq] at this
    have := List.all_eq_true.mp this.2 x hx
    subst hi
    simpa using this
/-! adds and sides -/
def addR (n : Nat) : Rows := (List.range n).map fun a => (List.range n).map fun b => if a + b + 1 < n then some ((a + b + 1 : Nat) : Int) else none
def sideR (n s : Nat) : Rows := (List.range n).map fun a => (List.range n).map fun b => some ((if s = 0 then a else b : Nat) : Int)
theorem add_ok {n : Nat} (h1 : 2 ≤ n) (h2 : n ≤ 4) : Wf n (addR n) ∧ Sound n (addR n) := by
  have : n = 2 ∨ n = 3 ∨ n = 4 := by omega
  rcases this with rfl | rfl | rfl
  · exact ⟨wf_of (by decide +kernel), snd_of (by decide +kernel)⟩
  · exact ⟨wf_of (by decide +kernel), snd_of (by decide +kernel)⟩
  · exact ⟨wf_of (by decide +kernel), snd_of (by decide +kernel)⟩
theorem side_ok {n s : Nat} (h1 : 2 ≤ n) (h2 : n ≤ 4) (h3 : s < 2) : Wf n (sideR n s) ∧ Sound n (sideR n s) := by
  have hn : n = 2 ∨ n = 3 ∨ n = 4 := by omega
  have this : s = 0 ∨ s = 1 := by omega
  rcases hn with rfl | rfl | rfl <;> rcases this with rfl | rfl <;> exact ⟨wf_of (by decide +kernel), snd_of (by decide +kernel)⟩
/-! pairs -/
def pairL : Nat → List (Nat × Nat × Nat)
  | 0 => [(0, 1, 4), (1, 2, 5), (2, 3, 6)]
  | 1 => [(1, 2, 4), (2, 3, 5), (0, 4, 6)]
  | 2 => [(0, 1, 4), (1, 2, 5), (5, 3, 6)]
  | _ => [(0, 1, 0), (1, 2, 2)]
def pairM (L : List (Nat × Nat × Nat)) : Rows := L.foldl (fun m p => set2 m p.1 p.2.1 (some (p.2.2 : Nat))) (noR 7)
theorem pair_ok {k : Nat} (h : k < 4) : Wf 7 (pairM (pairL k)) ∧ Sound 7 (pairM (pairL k)) ∧ ∀ p ∈ pairL k, p.1 < 7 ∧ p.2.1 < 7 ∧ p.2.2 < 7 := by
  have : k = 0 ∨ k = 1 ∨ k = 2 ∨ k = 3 := by omega
  rcases this with rfl | rfl | rfl | rfl <;> exact ⟨wf_of (by decide +kernel), snd_of (by decide +kernel), by decide⟩
/-! carries -/
def cX (turn own left right i : Nat) (m : Rows) (x : Nat) : Rows :=
  let m1 := set2 m i (turn - 1 + x) (some ((turn - 1 + x / turn * turn + (x + left * (i + 1)) % turn : Nat) : Int))
  let m2 := set2 m1 (turn - 1 + x) i (some ((turn - 1 + x / turn * turn + (x + right * (i + 1)) % turn : Nat) : Int))
  if own = 0 ∧ turn = 2 then
    set2 (set2 m2 i (turn - 1 + x) (some ((turn - 1 + (if left = 0 then x else 0) : Nat) : Int))) (turn - 1 + x) i (some ((turn - 1 + (if right = 0 then x else 0) : Nat) : Int))
  else m2
def cJ (turn own i : Nat) (m : Rows) (j : Nat) : Rows := set2 m i j (some (if own = 0 ∧ turn = 2 then 0 else (((i + 1 + (j + 1)) % turn : Nat) : Int) - 1))
def cI (turn own many left right : Nat) (m : Rows) (i : Nat) : Rows := (List.range many).foldl (cX turn own left right i) ((List.range (turn - 1)).foldl (cJ turn own i) m)
def carryM (turn own many left right : Nat) : Rows := (List.range (turn - 1)).foldl (cI turn own many left right) (noR (turn - 1 + many))
def carryAll : Bool := [(2, 2), (2, 4), (3, 3)].all fun tm => [0, 1, 2].all fun own => (List.range tm.1).all fun l => (List.range tm.1).all fun r => wfB (tm.1 - 1 + tm.2) (carryM tm.1 own tm.2 l r) && sndB (tm.1 - 1 + tm.2) (carryM tm.1 own tm.2 l r)
theorem carryAll_ok : carryAll = true := by decide +kernel
theorem carry_ok {turn own many left right : Nat} (ht : (turn = 2 ∧ (many = 2 ∨ many = 4)) ∨ (turn = 3 ∧ many = 3)) (ho : own < 3) (hl : left < turn) (hr : right < turn) : Wf (turn - 1 + many) (carryM turn own many left right) ∧ Sound (turn - 1 + many) (carryM turn own many left right) := by
  have h := carryAll_ok
  unfold carryAll at h
  have hm : (turn, many) ∈ [(2, 2), (2, 4), (3, 3)] := by
    rcases ht with ⟨rfl, rfl | rfl⟩ | ⟨rfl, rfl⟩ <;> simp
  have hoo : own ∈ [0, 1, 2] := by
    have : own = 0 ∨ own = 1 ∨ own = 2 := by omega
    rcases this with rfl | rfl | rfl <;> simp
  have := List.all_eq_true.mp (List.all_eq_true.mp (List.all_eq_true.mp (List.all_eq_true.mp h _ hm) _ hoo) left (by simpa using hl)) right (by simpa using hr)
  simp only [Bool.and_eq_true] at this
  exact ⟨wf_of this.1, snd_of this.2⟩
/-- rows without merges, made as cells -/
theorem lcD_mat {X : Cx} {ρ : Rho} {γ : Sto} {elt iA : Expr} {sA : Scope} {xa : Str} {pa : Pos} {vs : List Nat} {i n : Nat} {R : RE} (hn : n < 1000000)
    (hA : DI X (.Name xa pa) iA ρ γ fun ds stays α1 => α1 = γ ∧ ds.length = n ∧ ∀ α', stays α')
    (hB : ∀ (y : D) α' s H C cl fp, DE (X.blk s H sA (compEnvC sA cl C X.env) fp) elt ((wipeR ρ vs).set i (some y)) α' fun d α2 => d = .acc α'.length ∧ α2 = α' ++ [.l (List.replicate n .non)])
    (hR : R (.acc γ.length) (Mat γ (noR n))) : LcD X elt iA [] sA vs xa pa i ρ γ R := by
  intro A σ H Q r c
  refine hA A σ H Q r fun J ds stays B α1 H1 h1 g s yl => c J ds stays B α1 H1 ?_ g s yl
  obtain ⟨rfl, hl, st⟩ := h1
  refine ⟨fun k α' => k ≤ n ∧ α' = MatK α1 n k, ⟨Nat.zero_le _, rfl⟩, fun _ _ _ => st _, ?_, ?_⟩
  · rintro k y1 α' hy ⟨hk, rfl⟩ s H C cl fp
    have hk2 : k < n := by rw [← hl]; exact (List.getElem?_eq_some_iff.mp hy).1
    refine dts_nil ?_
    rw [if_pos rfl]
    intro s H C cl fp
    refine (hB y1 _ s H C cl fp).imp fun d α2 h2 => ?_
    obtain ⟨rfl, rfl⟩ := h2
    refine ⟨refs α1.length k, MatK.outer, by simp [refs]; omega, by omega, ?_⟩
    rw [MatK.len, ← MatK.succ]
  · rintro α' ⟨_, rfl⟩
    rw [hl, MatK.full]
    exact hR
theorem lcD_row {X : Cx} {ρ : Rho} {γ : Sto} {elt iA : Expr} {sA : Scope} {xa : Str} {pa : Pos} {vs : List Nat} {i n : Nat} {R : RE} (hn : n < 1000000)
    (hA : DI X (.Name xa pa) iA ρ γ fun ds stays α1 => α1 = γ ∧ ds.length = n ∧ ∀ α', stays α')
    (hB : ∀ (y : D) α' s H C cl fp, DE (X.blk s H sA (compEnvC sA cl C X.env) fp) elt ((wipeR ρ vs).set i (some y)) α' fun d α2 => d = .non ∧ α2 = α')
    (hR : R (.acc γ.length) (γ ++ [.l (List.replicate n .non)])) : LcD X elt iA [] sA vs xa pa i ρ γ R := by
  intro A σ H Q r c
  refine hA A σ H Q r fun J ds stays B α1 H1 h1 g s yl => c J ds stays B α1 H1 ?_ g s yl
  obtain ⟨rfl, hl, st⟩ := h1
  refine ⟨fun k α' => α' = α1 ++ [.l (List.replicate k .non)], rfl, fun _ _ _ => st _, ?_, ?_⟩
  · rintro k y1 α' hy rfl s H C cl fp
    have hk2 : k < n := by rw [← hl]; exact (List.getElem?_eq_some_iff.mp hy).1
    refine dts_nil ?_
    rw [if_pos rfl]
    intro s H C cl fp
    refine (hB y1 _ s H C cl fp).imp fun d α2 h2 => ?_
    obtain ⟨rfl, rfl⟩ := h2
    exact ⟨List.replicate k .non, by simp, by simp; omega, by simp [List.replicate_succ']⟩
  · rintro α' rfl
    rw [hl]
    exact hR
theorem g_lst2 {X : Cx} {ρ : Rho} {α : Sto} {R : RE} {es : List Expr} {pos : Pos} (h : DE X (.List es pos) ρ α R) : DE X (.List es pos) ρ α R := h
end DH

end

section
/-! DH: arguments by their heads. -/
namespace DH
open PySem PySem.Spec PyProof.Rows L2
section
variable {X : Cx} {ρ : Rho} {α : Sto} {R : List D → Sto → Prop} {es es' : List Expr} {p : Pos} {x : Str}
theorem da_consT {c : Nat} (h : DE X (.Tuple es' c p) ρ α fun d α1 => DA X es ρ α1 fun ds α2 => R (d :: ds) α2) : DA X (.Tuple es' c p :: es) ρ α R := da_cons h rfl
theorem da_consL (h : DE X (.List es' p) ρ α fun d α1 => DA X es ρ α1 fun ds α2 => R (d :: ds) α2) : DA X (.List es' p :: es) ρ α R := da_cons h rfl
theorem da_consC {v : Const} {j} (h : DE X (.Constant v j p) ρ α fun d α1 => DA X es ρ α1 fun ds α2 => R (d :: ds) α2) : DA X (.Constant v j p :: es) ρ α R := da_cons h rfl
theorem da_consN (h : DE X (.Name x p) ρ α fun d α1 => DA X es ρ α1 fun ds α2 => R (d :: ds) α2) : DA X (.Name x p :: es) ρ α R := da_cons h rfl
theorem da_consB {a b : Expr} {op : Operator} (h : DE X (.BinOp a op b p) ρ α fun d α1 => DA X es ρ α1 fun ds α2 => R (d :: ds) α2) : DA X (.BinOp a op b p :: es) ρ α R := da_cons h rfl
theorem da_consF {a : Expr} {ks : List Keyword} (h : DE X (.Call a es' ks p) ρ α fun d α1 => DA X es ρ α1 fun ds α2 => R (d :: ds) α2) : DA X (.Call a es' ks p :: es) ρ α R := da_cons h rfl
theorem da_consS {a b : Expr} (h : DE X (.Subscript a b p) ρ α fun d α1 => DA X es ρ α1 fun ds α2 => R (d :: ds) α2) : DA X (.Subscript a b p :: es) ρ α R := da_cons h rfl
theorem da_consA {a : Expr} (h : DE X (.Attribute a x p) ρ α fun d α1 => DA X es ρ α1 fun ds α2 => R (d :: ds) α2) : DA X (.Attribute a x p :: es) ρ α R := da_cons h rfl
end
end DH

end

section
/-! DH: queues: slices, places. -/
namespace DH
open PySem PySem.Spec PyProof.Rows L2 FM
section
variable {K : PySem.W.Frag} {α : Sto} {R : RE}
theorem intsD_cst (q : List Nat) : intsD q = (cst q).map D.int := by unfold intsD cst; rw [List.map_map]; rfl
theorem cst_nil {q : List Nat} : cst q = [] ↔ q = [] := by unfold cst; simp
theorem od_eqN {q : List Nat} (h : R (.bl (decide (q = []))) α) : OD K (rEqD K) (.lst (intsD q)) (.lst []) α R :=
  od_eq (p2 := .list (intsP [])) (by rw [intsD_cst]; exact py_intsL _) (.lst .nil) (sh_intsL _) (sh_intsL []) (by
    rw [eqv_intsL]
    have : decide (cst q = []) = decide (q = []) := decide_eq_decide.mpr cst_nil
    rw [this]; exact h)
theorem od_neN {q : List Nat} (h : R (.bl (!decide (q = []))) α) : OD K (rNeD K) (.lst (intsD q)) (.lst []) α R :=
  od_ne (p2 := .list (intsP [])) (by rw [intsD_cst]; exact py_intsL _) (.lst .nil) (sh_intsL _) (sh_intsL []) (by
    rw [eqv_intsL]
    have : decide (cst q = []) = decide (q = []) := decide_eq_decide.mpr cst_nil
    rw [this]; exact h)
end
theorem sIx_of (n d k : Nat) : HT.sIx n d (some (k : Int)) = min k n := HT.sIx_nat n d k
theorem cut_take {q : List Nat} {k : Nat} : cutD (intsD q) none (some (k : Int)) = intsD (q.take k) := by
  unfold cutD
  rw [sIx_of, HT.sIx_none, Nat.sub_zero, List.drop_zero]
  unfold intsD
  rw [List.length_map, ← List.map_take]
  congr 1
  rcases Nat.le_total k q.length with h | h
  · rw [Nat.min_eq_left h]
  · rw [Nat.min_eq_right h, List.take_length, List.take_of_length_le h]
theorem cut_drop {q : List Nat} {k : Nat} : cutD (intsD q) (some (k : Int)) none = intsD (q.drop k) := by
  unfold cutD
  rw [sIx_of, HT.sIx_none]
  unfold intsD
  rw [List.length_map, ← List.map_drop]
  rcases Nat.le_total k q.length with h | h
  · rw [Nat.min_eq_left h]
    exact List.take_of_length_le (by simp)
  · rw [Nat.min_eq_right h, Nat.sub_self, List.drop_of_length_le h, List.take_zero]; rfl
theorem intsD_at {q : List Nat} {k x : Nat} (h : q[k]? = some x) : atI (intsD q) (k : Int) = some (.int (x : Nat)) := atI_nn (by unfold intsD; rw [List.getElem?_map, h]; rfl)
/-- where a queue merges -/
def places (t : Tab) (q : List Nat) : List Nat := (List.range (q.length - 1)).filter fun a => match q[a]?, q[a + 1]? with
  | some x, some y => (t x y).isSome
  | _, _ => false
theorem places_mem {t : Tab} {q : List Nat} {a : Nat} (h : a ∈ places t q) : ∃ u x y v z, q = u ++ x :: y :: v ∧ u.length = a ∧ t x y = some z := by
  unfold places at h
  rw [List.mem_filter] at h
  obtain ⟨h1, h2⟩ := h
  have h1' : a < q.length - 1 := by simpa using h1
  have e1 : q[a]? = some q[a] := List.getElem?_eq_getElem _
  have e2 : q[a + 1]? = some (q[a + 1]'(by omega)) := List.getElem?_eq_getElem _
  rw [e1, e2] at h2
  obtain ⟨z, hz⟩ := Option.isSome_iff_exists.mp h2
  refine ⟨q.take a, q[a], q[a + 1], q.drop (a + 2), z, ?_, by simp; omega, hz⟩
  have := List.take_append_drop a q
  rw [List.drop_eq_getElem_cons (by omega), List.drop_eq_getElem_cons (by omega)] at this
  exact this.symm
theorem done_of {t : Tab} : ∀ {q : List Nat}, (∀ a x y, q[a]? = some x → q[a + 1]? = some y → t x y = none) → Done t q
  | [], _ => trivial
  | [_], _ => trivial
  | x :: y :: s, h => ⟨h 0 x y rfl rfl, done_of fun a u v h1 h2 => h (a + 1) u v (by simpa using h1) (by simpa using h2)⟩
theorem places_nil {t : Tab} {q : List Nat} (h : places t q = []) : Done t q := by
  refine done_of fun a x y h1 h2 => ?_
  cases e : t x y with
  | none => rfl
  | some z =>
    have l2 := (List.getElem?_eq_some_iff.mp h2).1
    have : a ∈ places t q := by
      unfold places
      rw [List.mem_filter]
      refine ⟨by simp; omega, ?_⟩
      rw [h1, h2]
      simp [e]
    rw [h] at this; cases this
theorem tab_some_iff {m : Rows} {a b : Nat} : (tab m a b).isSome = !(look m a b).isNone := by
  cases e : look m a b with
  | none => rw [tab_none.mpr e]; rfl
  | some x =>
    cases e2 : tab m a b with
    | none => rw [tab_none] at e2; rw [e] at e2; cases e2
    | some y => rfl
end DH

end

section
/-! DH: sorted(pairs of an int tuple and a text). -/
namespace DH
open PySem PySem.Spec PyProof.Rows L2
/-- an item: an int tuple, a text -/
def itD (e : List Int × Str) : D := .tup [.tup (e.1.map D.int), .str e.2]
def itP (e : List Int × Str) : PyData := .tuple [.tuple (intsP e.1), .str e.2]
theorem py_it (α : Sto) (e : List Int × Str) : Py α (itD e) (itP e) := .tup (.cons (py_intsT e.1) (.cons (.str e.2) .nil))
theorem it_dep (e : List Int × Str) : (itP e).depth ≤ 2 := by
  unfold itP
  simp only [PyData.depth, PyData.depthAll, dep_ints]
  decide
theorem each_bs {X : Cx} {pins : List (Addr × Obj)} {σ : L2.St} {H : Hp} {s : Shared} (I : Inv X pins σ H s) : ∀ {xs : List V} {its : List Value} {es : List (List Int × Str)}, Vals xs its → (∀ (i : Nat) (x : V) (e : List Int × Str), xs[i]? = some x → es[i]? = some e → Dp X.K H x (itP e)) → xs.length = es.length →
    PySem.W.EachIs (fun (v : Value) (b : V × (List Int × Str)) => RelV b.1 v) its (xs.zip es) ∧ PySem.W.EachIs (fun (v : Value) (b : V × (List Int × Str)) => ∃ as, Reads s.heap v (itP b.2) as) its (xs.zip es)
  | [], _, es, .nil, _, h => by
    cases es with
    | nil => exact ⟨.nil, .nil⟩
    | cons _ _ => cases h
  | x :: xs, _, es, .cons r rr, hd, h => by
    cases es with
    | nil => cases h
    | cons e es =>
      obtain ⟨h1, h2⟩ := each_bs I rr (fun i x e h1 h2 => hd (i + 1) x e (by simpa using h1) (by simpa using h2)) (by simpa using h)
      exact ⟨.cons r h1, .cons (Dp.reads I _ _ _ (hd 0 x e rfl rfl) r) h2⟩
theorem each_vals : ∀ {out : List Value} {bs : List (V × (List Int × Str))}, PySem.W.EachIs (fun (v : Value) (b : V × (List Int × Str)) => RelV b.1 v) out bs → Vals (bs.map (·.1)) out
  | _, _, .nil => .nil
  | _, _, .cons r t => .cons r (each_vals t)
def rSortIS (K : PySem.W.Frag) : List V → Hp → VK → Prop := fun vs H Q => ∃ (a : Addr) (xs : List V) (es : List (List Int × Str)), vs = [V.ref a] ∧ SqL K H a xs ∧ xs.length = es.length ∧ (∀ (i : Nat) (x : V) (e : List Int × Str), xs[i]? = some x → es[i]? = some e → Dp K H x (itP e)) ∧
  (∀ e ∈ es, ∃ x r, e.1 = x :: r) ∧ ∀ (bs : List (V × (List Int × Str))) (p : Addr), bs.Perm (xs.zip es) → H p = none → Q (.ref p) (upd H p (.lst (bs.map (·.1))))
theorem cr_sortIS {X : Cx} (hu : X.A.units + 64 < cLine) : CallR X (.builtin "sorted") (rSortIS X.K) := by
  intro pins s σ H vs us Q I r h
  obtain ⟨a, xs, es, rfl, hs, hlen, hD, hne, q⟩ := h
  obtain ⟨its, rv, hl, hz⟩ := I.list hs
  obtain ⟨u, rfl, ru⟩ := vals1 r
  obtain rfl : u = Value.ref a := ru
  obtain ⟨e1, e2⟩ := each_bs I rv hD hlen
  have hzl : (xs.zip es).length = xs.length := by rw [List.length_zip, hlen, Nat.min_self]
  refine PySem.W.sorted_data (enc := fun b => itP b.2) hl.isList e1 e2 (.of fun b b' => ?_) (.tuples fun b => ⟨_, _, rfl⟩) (by rw [hzl]; exact hz) (fun b hb => ?_) fun out ho eo => ?_
  · show PySem.W.alike (itP b.2) (itP b'.2) = true
    unfold itP
    simp only [PySem.W.alike, PySem.W.alikeAll]
    rw [show intsP b.2.1 = b.2.1.map PyData.int from rfl, show intsP b'.2.1 = b'.2.1.map PyData.int from rfl, PySem.W.alike_ints]
    simp
  · have := it_dep b.2
    show X.A.units + 2 + (itP b.2).depth < cLine
    omega
  · obtain ⟨c, hc⟩ := sortedAll_at s.heap its out.toArray
    have hf : s.heap.objs.size ≤ s.heap.objs.size + 1 := Nat.le_succ _
    have hp := List.mergeSort_perm (xs.zip es) (PySem.W.dataLe false fun b => itP b.2)
    refine ⟨.ref (s.heap.objs.size + 1), upd H (s.heap.objs.size + 1) (.lst (((xs.zip es).mergeSort (PySem.W.dataLe false fun b => itP b.2)).map (·.1))), I.laid (t' := s.toks) (fun _ _ => sortedAll_old) hf ⟨?_, out, c, each_vals eo, hc⟩, rfl, q _ _ hp (I.hok.fresh hf)⟩
    rw [List.length_map, hp.length_eq, hzl]
    exact hz
end DH

end

section
set_option maxHeartbeats 2000000
/-! DH: list(d.items()), d a dict of int tuples. -/
namespace PySem
open PySem.W PySem.Calls PyProof.Rows PyProof.V PySem.Spec DT
section
variable {prog : Program} {w : World} {A : Around} {E : Value → Shared → Prop} {s : Shared} {r d : Addr} {es : Array DictEntry} {ep : Nat}
theorem dh_init {R : Result → Shared → Prop} (hh : A.handled = none) (hv : s.heap.IsItemsView r d) (hm : Raw s.heap d es ep) (S : Addr) (hSr : S ≠ r) (hSd : d ≠ S) (hS : s.heap.get? S = some { cls := .type "list", data := .seq #[] })
    (hR : ∀ h' tk acc c as, (∀ b o, b ≠ S → s.heap.get? b = some o → h'.get? b = some o) → h'.get? S = some { cls := .type "list", dict := none, data := .seq acc c, slots := #[] } → as.length = es.size → DT.Made es S h' as →
      acc.toList = as.map Value.ref → R (.ok (.ret .none)) { s with heap := h', toks := tk }) (hn : es.size ≤ sizeLine) :
    wpAny (model prog w) A.in1 (Builtin.«list.__init__» ⟨[.ref S, .ref r], []⟩)
      (fun fin s' => match fin with | .done f => R (.ok f) s' | .again c' => c'.quiet = true ∧ codeAny (model prog w) A c' R s') (fun e s' => R (.error e) s') s := by
  show wpAny _ _ (do let old ← Builtin.List.listItems (.ref S); Builtin.List.listUpdate (.ref S) (fun _ => #[]); letGo old.toList.reverse; Builtin.List.listExtendWith (.ref S) (.ref r) .none) _ _ s
  refine wpAny_bind ?_
  unfold Builtin.List.listItems
  refine wpAny_bind (wpAny_seqItems hS rfl (wpAny_pure ?_))
  show wpAny _ _ (updateSeq S (fun _ => #[]) >>= fun _ => letGo (#[] : Array Value).toList.reverse >>= fun _ => Builtin.List.listExtendWith (.ref S) (.ref r) .none) _ _ s
  refine wpAny_bind (wpAny_updateSeq hS rfl ?_)
  have hS₂ := Heap.get?_update_self (Obj.mapSeq (fun _ => (#[] : Array Value))) hS rfl
  have oth : ∀ b o, b ≠ S → s.heap.get? b = some o → (s.heap.update S (Obj.mapSeq (fun _ => (#[] : Array Value)))).get? b = some o :=
    fun b o hb e => (Heap.get?_update_other _ _ (Ne.symm hb)).trans e
  refine wpAny_bind (wpAny_letGo ?_)
  refine extI (es := es) (ep := ep) hh (let ⟨o, ho, x⟩ := hv; ⟨o, oth r o hSr.symm ho, x⟩) (hm.at' fun o e => oth d o hSd e) S hSr hSd .none _ hS₂ (fun h' tk acc c as hk hS' hl hG hacc => ?_) hn
  exact hR h' tk acc c as (fun b o hb e => hk b o hb (oth b o hb e)) hS' hl (hG.low (Nat.le_of_lt (Heap.lt_size hS₂))) hacc
theorem dh_call {Q : Value → Shared → Prop} (hh : A.handled = none) (hv : s.heap.IsItemsView r d) (hm : Raw s.heap d es ep) (hn : es.size ≤ sizeLine)
    (hQ : ∀ h' tk acc c as, (∀ b o, s.heap.get? b = some o → h'.get? b = some o) → h'.get? s.heap.objs.size = some { cls := .type "list", dict := none, data := .seq acc c, slots := #[] } → as.length = es.size → DT.Made es s.heap.objs.size h' as →
      acc.toList = as.map Value.ref → Q (.ref s.heap.objs.size) { s with heap := h', toks := tk }) :
    wpAny (model prog w) A (call (.type "list") [.ref r]) Q E s := by
  refine callType_codes (Q₁ := fun obj s₁ => obj = .ref s.heap.objs.size ∧ s₁ = { s with heap := s.heap.push { cls := .type "list", data := .seq #[] } }) PySem.F.called_list (PySem.F.typeCall_list_1 _) PySem.F.entry_list_init
    (code_list_new _ ⟨rfl, rfl⟩) fun obj s₁ h₁ => ?_
  obtain ⟨rfl, rfl⟩ := h₁
  have hS : (s.heap.push { cls := .type "list", data := .seq #[] }).get? s.heap.objs.size = some { cls := .type "list", data := .seq #[] } := Heap.get?_push_size _ rfl
  have hr : r < s.heap.objs.size := let ⟨_, ho, _⟩ := hv; Heap.lt_size ho
  have hd : d < s.heap.objs.size := hm.lt
  refine ⟨⟨_, hS, rfl⟩, PySem.F.args_list_init_2 _ _, dh_init (es := es) (ep := ep) (A := A.in1) hh (let ⟨o, ho, x⟩ := hv; ⟨o, Heap.get?_push_of_some _ ho, x⟩) (hm.push _) _ (Nat.ne_of_gt hr) (Nat.ne_of_lt hd) hS (fun h' tk acc c as hk hS' hl hG hacc => ?_) hn⟩
  exact ⟨rfl, hQ h' tk acc c as (fun b o e => hk b o (Nat.ne_of_lt (Heap.lt_size e)) (Heap.get?_push_of_some _ e)) hS' hl hG hacc⟩
end
end PySem
namespace DH
open PySem PySem.Spec PyProof.Rows L2
/-- pairs at their addresses -/
def putR : Hp → List Addr → List (V × V) → Hp
  | H, a :: as, p :: kvs => putR (upd H a (.tup [p.1, p.2])) as kvs
  | H, _, _ => H
theorem putR_off {b : Addr} : ∀ (as : List Addr) (kvs : List (V × V)) (H : Hp), b ∉ as → putR H as kvs b = H b
  | [], _, _, _ => rfl
  | _ :: _, [], _, _ => rfl
  | a :: as, p :: kvs, H, h => by
    show putR (upd H a (.tup [p.1, p.2])) as kvs b = H b
    rw [putR_off as kvs _ (fun z => h (List.mem_cons_of_mem _ z)), upd_ne (fun z => h (by rw [z]; exact List.mem_cons_self))]
theorem putR_at : ∀ (as : List Addr) (kvs : List (V × V)) (H : Hp), as.length = kvs.length → as.Nodup → ∀ (j : Nat) (t : Addr) (p : V × V), as[j]? = some t → kvs[j]? = some p → putR H as kvs t = some (.tup [p.1, p.2])
  | [], _, _, _, _, _, _, _, h, _ => by simp at h
  | _ :: _, [], _, h, _, _, _, _, _, _ => by cases h
  | a :: as, p :: kvs, H, h, hn, 0, t, q, e1, e2 => by
    simp at e1 e2; subst e1; subst e2
    have hn' := List.nodup_cons.mp hn
    show putR (upd H a (.tup [p.1, p.2])) as kvs a = some (.tup [p.1, p.2])
    rw [putR_off as kvs _ hn'.1, upd_same]
  | a :: as, p :: kvs, H, h, hn, j + 1, t, q, e1, e2 => putR_at as kvs _ (Nat.succ.inj h) (List.nodup_cons.mp hn).2 j t q (by simpa using e1) (by simpa using e2)
def rItemsLT : V → Hp → VK → Prop := fun x H Q => ∃ (d : Addr) (kvs : List (List Key × V)), x = .ref d ∧ H d = some (.dT kvs) ∧
  ∀ (H' : Hp) (p : Addr) (ts : List Addr), (∀ b o, H b = some o → H' b = some o) → H p = none → (∀ t ∈ ts, H t = none) → p ∉ ts → H' p = some (.lst (ts.map V.ref)) → ts.length = kvs.length →
    (∀ (j : Nat) (t : Addr) (kv : List Key × V), ts[j]? = some t → kvs[j]? = some kv → ∃ b, H' t = some (.tup [.ref b, kv.2]) ∧ H b = some (.tup (kv.1.map kV))) → Q (.ref p) H'
def tListItemsT (te : TE) : TE := fun σ H Q => te σ H fun x H1 => rItemsLT x H1 Q
section
variable {X : Cx} {e : Expr} {te : TE} {p apos cpos pos : Pos}
theorem pe_listItemsT (hc : X.calm = true) (he : PE X e te) (hg : Gl X "list") (hm : X.mg "list" = none) (hv : bootBuiltins "list" = some (.type "list")) (hbase : attributeBase e "items" X.env (eval e X.env) = eval e X.env := by rfl) (hline : (apos.endLine == cpos.line) = true := by rfl)
    (hs : starEach [.Call (.Attribute e "items" apos) [] [] cpos] X.env = (false, eval (.Call (.Attribute e "items" apos) [] [] cpos) X.env) :: starEach [] X.env := by rfl) :
    PE X (.Call (.Name "list" p) [.Call (.Attribute e "items" apos) [] [] cpos] [] pos) (tListItemsT te) := by
  refine ⟨fun pins s σ H Q I hq => ?_⟩
  refine wpAny_Call_Name_kw (ld_blt I hg hm hv ?_)
  refine PyProof.Rows.callWith_type1 ?_ hs rfl
  rw [hs]
  show wpAny _ _ (spliced ((false, eval (.Call (.Attribute e "items" apos) [] [] cpos) X.env) :: backTo pos (starEach [] X.env))) _ _ s
  refine Calls.spliced_cons ?_
  refine wpAny_Call_method (T := "dict") (id := "dict.items") hbase rfl hline F.plainAttrs_dict F.slot_dict_items F.type_dict_items (thn (he.run pins s σ H _ I hq) fun u s1 ⟨x, H1, I1, rx, d, kvs, ex, hd, q⟩ => ?_)
  subst ex
  obtain rfl : u = Value.ref d := rx
  obtain ⟨z, hdm, xs', rel, o, es, ep, ho, hx, hdat, hes, his, hn⟩ := dt_of I1.hok hd
  have raw : DT.Raw s1.heap d es ep := ⟨o, ho, hx, hdat⟩
  have l1 : kvs.length = xs'.length := Paired.length rel
  have l2 : es.size = xs'.length := size_of_entries hes
  have I2 : Inv X pins σ H1 { s1 with heap := s1.heap.push { cls := .type "dict_items", data := .fields #[.ref d] } } := I1.kept (t' := s1.toks) fun b ob q => Heap.get?_push_of_some _ q
  refine ⟨raw.typeIs, fun a ea => by cases ea; exact ⟨o, ho, hx.2.1⟩, ?_⟩
  show wpAny _ _ (callWith cpos (.builtin "dict.items") [.ref d] [] []) _ X.xe s1
  refine method_meetsIn F.slot_dict_items F.entry_dict_items rfl (PySem.evalArgs_none ⟨rfl, raw.typeIs, F.args_dict_items_1 _, _, DT.meetsItems (es := es) (ep := ep) hdm, raw, ?_⟩)
  refine Calls.spliced_nil ?_
  refine dh_call (es := es) (ep := ep) (I1.ok.hd hc) ⟨_, Heap.get?_push_size _ rfl, rfl, rfl⟩ (raw.push _) (by omega) fun h' tk acc c as hk hS hl hG hacc => ?_
  generalize hs2 : s1.heap.push { cls := .type "dict_items", data := .fields #[.ref d] } = hh2 at I2 hk hS hG ⊢
  let pr : List (V × V) := (xs'.zip kvs).map fun q => (V.ref q.1.2.1, q.2.2)
  have lz : (xs'.zip kvs).length = kvs.length := by rw [List.length_zip, l1, Nat.min_self]
  have lk : as.length = pr.length := by simp only [pr]; rw [List.length_map, lz, hl, l2, l1]
  have hSn : hh2.objs.size ∉ as := fun z => Nat.lt_irrefl _ (hG.above _ z)
  have nd : as.Nodup := List.Pairwise.imp (fun {a b} (h : a < b) => Nat.ne_of_lt h) hG.rise
  have new : ∀ t ∈ as, H1 t = none := fun t ht => I2.hok.fresh (Nat.le_of_lt (hG.above t ht))
  have newS : H1 hh2.objs.size = none := I2.hok.fresh (Nat.le_refl _)
  have atP := putR_at as pr (upd H1 hh2.objs.size (.lst (as.map V.ref))) lk nd
  have off : ∀ b, b ∉ as → b ≠ hh2.objs.size → putR (upd H1 hh2.objs.size (.lst (as.map V.ref))) as pr b = H1 b := fun b h1 h2 => by rw [putR_off as pr _ h1, upd_ne h2]
  have low : ∀ b o, hh2.get? b = some o → b ∉ as ∧ b ≠ hh2.objs.size := fun b o e => ⟨fun z => absurd (Heap.lt_size e) (Nat.not_lt.mpr (Nat.le_of_lt (hG.above b z))), Nat.ne_of_lt (Heap.lt_size e)⟩
  have kp : ∀ b u, H1 b = some u → (putR (upd H1 hh2.objs.size (.lst (as.map V.ref))) as pr) b = some u := fun b u e => by
    rw [off b (fun z => by rw [new b z] at e; cases e) (fun z => by rw [z, newS] at e; cases e)]
    exact e
  have eS : putR (upd H1 hh2.objs.size (.lst (as.map V.ref))) as pr hh2.objs.size = some (.lst (as.map V.ref)) := by rw [putR_off as pr _ hSn, upd_same]
  -- what stands at each place
  have at' : ∀ (j : Nat) (t : Addr), as[j]? = some t → ∃ (x : List Key × Addr × Value) (kv : List Key × V), xs'[j]? = some x ∧ kvs[j]? = some kv ∧ pr[j]? = some (V.ref x.2.1, kv.2) ∧ kv.1 = x.1 ∧ H1 x.2.1 = some (.tup (kv.1.map kV)) ∧ RelV kv.2 x.2.2 ∧ h'.get? t = some { cls := .type "tuple", data := .seq #[Value.ref x.2.1, x.2.2] } := by
    intro j t hj
    obtain ⟨en, he, hg⟩ := hG.pairs j t hj
    rw [entry_at hes j] at he
    cases hxj : xs'[j]? with
    | none => rw [hxj] at he; exact nomatch (show (none : Option DictEntry) = some en from he)
    | some x =>
      rw [hxj] at he
      have een : entryOfKey (tupleKind (mixKind X.prog X.w)) x = en := Option.some.inj he
      obtain ⟨kv, hkv, r1, r2, r3⟩ := L2.DX.pget rel hxj
      refine ⟨x, kv, rfl, hkv, ?_, r1, r2, r3, ?_⟩
      · simp only [pr]
        rw [List.getElem?_map, List.getElem?_zip_eq_some (z := (x, kv)) |>.mpr ⟨hxj, hkv⟩]
        rfl
      · rw [hg, ← een]
        rfl
  have J : Inv X pins σ (putR (upd H1 hh2.objs.size (.lst (as.map V.ref))) as pr) { s1 with heap := h', toks := tk } := by
    refine I2.call' (ch := []) rfl ⟨fun b o q _ _ _ => hk b o q, fun b o q _ _ _ => ⟨o.slots, hk b o q⟩, fun b o q n _ => ?_, fun b o q _ => ⟨o, hk b o q⟩, fun b xs q => kp b _ q, fun b o u q => kp b _ q, fun b ps q => ⟨#[], by rw [kp b _ q]; simp⟩⟩ (fun b u q => ?_) I2.bare fun b z => by simp at z
    · obtain ⟨z1, z2⟩ := low b o q
      rw [off b z1 z2]
      exact n
    · by_cases hb : b ∈ as
      · obtain ⟨j, hj⟩ := List.mem_iff_getElem?.mp hb
        obtain ⟨x, kv, g1, g2, g3, g4, g5, g6, g7⟩ := at' j b hj
        rw [atP j b _ hj g3] at q
        cases q
        exact ⟨by show 2 ≤ sizeLine; decide, [Value.ref x.2.1, x.2.2], .cons rfl (.cons g6 .nil), ⟨_, g7, rfl, _, rfl⟩⟩
      · by_cases hb2 : b = hh2.objs.size
        · rw [hb2] at q ⊢
          rw [eS] at q
          cases q
          refine ⟨by rw [List.length_map]; omega, acc.toList, c, by rw [hacc]; exact LiI.vals_refs as, ?_⟩
          rw [Array.toArray_toList]
          exact hS
        · rw [off b hb hb2] at q
          exact (I2.hok b u q).stay (fun d v _ y => hk d v y) (fun d y => kp d _ y) fun d xs y => kp d _ y
  refine ⟨.ref _, _, J, rfl, q _ _ as kp newS new hSn eS (by rw [hl, l2, l1]) fun j t kv hj hkv => ?_⟩
  obtain ⟨x, kv', g1, g2, g3, g4, g5, g6, g7⟩ := at' j t hj
  rw [g2] at hkv
  cases hkv
  exact ⟨x.2.1, atP j t _ hj g3, g5⟩
end
end DH

end

section
/-! DH: dicts of int tuples to texts. -/
namespace DH
open PySem PySem.Spec PyProof.Rows L2
def putE (es : List (List Int × Str)) (k : List Int) (s : Str) : List (List Int × Str) := if (es.any fun p => decide (p.1 = k)) = true then es.map (fun p => if p.1 = k then (p.1, s) else p) else es ++ [(k, s)]
abbrev encEn (p : List Int × Str) : List Key × V := (p.1.map Sum.inl, V.str p.2)
theorem inl_inj : ∀ {a b : List Int}, (a.map Sum.inl : List Key) = b.map Sum.inl → a = b
  | [], [], _ => rfl
  | [], _ :: _, h => by cases h
  | _ :: _, [], h => by cases h
  | a :: r, b :: q, h => by
    simp only [List.map_cons, List.cons.injEq] at h
    rw [inl_inj h.2, Sum.inl.inj h.1]
theorem putE_eq {es : List (List Int × Str)} {k : List Int} {s : Str} : putK (es.map encEn) (k.map Sum.inl) (.str s) = (putE es k s).map encEn := by
  unfold putK putE
  have e1 : ((es.map encEn).any fun kv => decide (kv.1 = (k.map Sum.inl : List Key))) = es.any fun p => decide (p.1 = k) := by
    rw [List.any_map]
    congr 1
    funext p
    show decide ((p.1.map Sum.inl : List Key) = k.map Sum.inl) = decide (p.1 = k)
    exact decide_eq_decide.mpr ⟨inl_inj, fun h => by rw [h]⟩
  rw [e1]
  by_cases h : (es.any fun p => decide (p.1 = k)) = true
  · rw [if_pos h, if_pos h, List.map_map, List.map_map]
    apply List.map_congr_left
    intro p _
    show (if (p.1.map Sum.inl : List Key) = k.map Sum.inl then ((p.1.map Sum.inl : List Key), V.str s) else (p.1.map Sum.inl, V.str p.2)) = encEn (if p.1 = k then (p.1, s) else p)
    by_cases e : p.1 = k
    · rw [if_pos e, if_pos (by rw [e])]
    · rw [if_neg e, if_neg fun z => e (inl_inj z)]
  · rw [if_neg h, if_neg h, List.map_append]; rfl
theorem putE_len {es : List (List Int × Str)} {k : List Int} {s : Str} : (putE es k s).length ≤ es.length + 1 := by
  unfold putE
  split <;> simp
theorem putE_mem {es : List (List Int × Str)} {k : List Int} {s : Str} {p : List Int × Str} (h : p ∈ putE es k s) : p = (k, s) ∨ p ∈ es := by
  unfold putE at h
  split at h
  · obtain ⟨q, hq, rfl⟩ := List.mem_map.mp h
    by_cases e : q.1 = k
    · rw [if_pos e, e]; exact .inl rfl
    · rw [if_neg e]; exact .inr hq
  · rcases List.mem_append.mp h with h | h
    · exact .inr h
    · simp at h; exact .inl h
theorem putE_ne {es : List (List Int × Str)} {k : List Int} {s : Str} : putE es k s ≠ [] := by
  unfold putE
  split
  · rename_i h
    intro z
    have : es = [] := List.map_eq_nil_iff.mp z
    subst this
    simp at h
  · simp
theorem das_ints {K : PySem.W.Frag} {A : List Addr} {H : Hp} : ∀ {xs : List V} {ns : List Int}, Das K A H xs (ns.map D.int) → xs = ns.map V.int
  | _, [], .nil => rfl
  | _, n :: ns, .cons h t => by rw [h.int_inv, das_ints t]; rfl
theorem So.dict {K : PySem.W.Frag} {A : List Addr} {H : Hp} {α : Sto} {k : Nat} {es : List (List Int × Str)} (s : So K A H α) (h : α[k]? = some (.d es)) : ∃ a, A[k]? = some a ∧ H a = some (.dT (es.map encEn)) := by
  obtain ⟨a, e, o, h1, h2⟩ := s.getC h
  exact ⟨a, e, by rw [h1]; congr 1⟩
theorem So.noTup {K : PySem.W.Frag} {A : List Addr} {H : Hp} {α : Sto} {b : Addr} {ys : List V} (s : So K A H α) (h : H b = some (.tup ys)) : b ∉ A := fun z => by
  obtain ⟨k, hk, e⟩ := List.mem_iff_getElem.mp z
  have hα : k < α.length := by rw [← s.len]; exact hk
  obtain ⟨o, h1, h2⟩ := s.cell k b α[k] (by simp [hk, e]) (by simp [hα])
  rw [h] at h1
  cases h1
  cases hc : α[k] with
  | l es => rw [hc] at h2; obtain ⟨xs, e, _⟩ := h2; cases e
  | o C ns es => rw [hc] at h2; obtain ⟨dx, xs, e, _⟩ := h2; cases e
  | d es => rw [hc] at h2; cases h2
  | kd es => rw [hc] at h2; obtain ⟨_, e, _⟩ := h2; cases e
  | td es => rw [hc] at h2; obtain ⟨_, e, _⟩ := h2; cases e
  | tb P q => rw [hc] at h2; obtain ⟨_, e, _⟩ := h2; cases e
section
variable {X : Cx} {ρ : Rho} {α : Sto} {R : RE} {o e i : Expr} {p apos cpos pos pos' : Pos}
/-- {} -/
theorem de_dict (h : R (.acc α.length) (α ++ [.d []])) : DE X (.Dict [] [] pos) ρ α R := by
  intro A σ H Q rep con
  refine wp_of pe_dnewT fun p hp => ?_
  obtain ⟨s', g⟩ := rep.so.cellNew (c := .d []) (o := .dT []) hp rfl
  refine con _ _ [p] _ _ h g s' (.acc ?_)
  rw [← rep.so.len, List.getElem?_append_right (Nat.le_refl _)]
  simp
/-- d[k] = v -/
theorem ds_putKey {n : Nat} {P : Post} (hu : X.A.units + 1 < cLine) (h : DE X e ρ α fun d α1 => DE X o ρ α1 fun d1 α2 => DE X i ρ α2 fun d2 α3 => ∃ (k : Nat) (es : List (List Int × Str)) (key : List Int) (s : Str), d1 = .acc k ∧ d2 = .tup (key.map D.int) ∧ d = .str s ∧ α3[k]? = some (.d es) ∧ es.length < 1000000 ∧ P.nx ρ (α3.set k (.d (putE es key s))))
    (hs : swapsWith e (some (.Subscript o i pos')) pos.line X.env = pure false := by rfl) : DS X n (.Assign [.Subscript o i pos'] e pos) ρ α P := by
  intro A H0 E B σ H at_
  refine wps_of (ps_dput hu pe_wp pe_wp pe_wp hs) (h _ σ H _ at_.rep fun v d B1 α1 H1 h1 g s q => ?_)
  have at1 := at_.step g s
  refine h1 _ σ H1 _ at1.rep fun u d1 B2 α2 H2 h2 g2 s2 q2 => ?_
  have at2 := at1.step g2 s2
  refine h2 _ σ H2 _ at2.rep fun t d2 B3 α3 H3 h3 g3 s3 q3 => ?_
  have at3 := at2.step g3 s3
  obtain ⟨k, es, key, st, rfl, rfl, rfl, hk, hl, h3⟩ := h3
  have q2' := da_assoc ((da_assoc q2).mono g3)
  cases q2' with
  | acc ea =>
    rename_i a
    obtain ⟨a', ea', ha⟩ := at3.rep.so.dict hk
    rw [ea] at ea'; cases ea'
    have ev := q.str_inv
    subst ev
    have q3' := da_assoc q3
    cases q3' with
    | tup na eb r =>
      rename_i b xs
      have ex := das_ints r
      subst ex
      have eb' : H3 b = some (.tup ((key.map Sum.inl : List Key).map kV)) := by rw [eb, List.map_map]; rfl
      refine ⟨a, _, rfl, DPut.t ha eb' (by rw [List.length_map]; exact Nat.lt_of_lt_of_le hl (by decide)), ?_⟩
      rw [putE_eq]
      exact (at3.cell (cl := .d (putE es key st)) ea rfl).nx h3
/-- list(d.items()) -/
theorem de_items (hc : X.calm = true) (hm : X.mg "list" = none) (h : DE X e ρ α fun d α1 => ∃ (k : Nat) (es : List (List Int × Str)), d = .acc k ∧ α1[k]? = some (.d es) ∧ R (.lst (es.map itD)) α1)
    (hg : Gl X "list" := by rfl) (hbase : attributeBase e "items" X.env (eval e X.env) = eval e X.env := by rfl) (hline : (apos.endLine == cpos.line) = true := by rfl)
    (hs : starEach [.Call (.Attribute e "items" apos) [] [] cpos] X.env = (false, eval (.Call (.Attribute e "items" apos) [] [] cpos) X.env) :: starEach [] X.env := by rfl) :
    DE X (.Call (.Name "list" p) [.Call (.Attribute e "items" apos) [] [] cpos] [] pos) ρ α R := by
  intro A σ H Q rep con
  refine wp_of (pe_listItemsT hc pe_wp hg hm boot_list hbase hline hs) (h A σ H _ rep fun v d B α1 H1 h1 g s q => ?_)
  obtain ⟨k, es, rfl, hk, h1⟩ := h1
  cases q with
  | acc ea =>
    rename_i a
    obtain ⟨a', ea', ha⟩ := s.dict hk
    rw [ea] at ea'; cases ea'
    refine ⟨a, _, rfl, ha, fun H' pp ts hkeep hp hts hpn hpl hlen hj => ?_⟩
    have g' : Gr (A ++ B) H1 [] H' := gr_same hkeep
    have s' : So X.K (A ++ B) H' α1 := s.same hkeep
    have das : ∀ (ts' : List Addr) (es' : List (List Int × Str)), ts'.length = es'.length → (∀ (j : Nat) (t : Addr) (en : List Int × Str), ts'[j]? = some t → es'[j]? = some en → t ∉ A ++ B ∧ ∃ b, H' t = some (.tup [.ref b, .str en.2]) ∧ H1 b = some (.tup ((en.1.map Sum.inl : List Key).map kV))) → Das X.K (A ++ B) H' (ts'.map V.ref) (es'.map itD) := by
      intro ts'
      induction ts' with
      | nil => intro es' hl _; cases es' with
        | nil => exact .nil
        | cons _ _ => cases hl
      | cons t ts' ih => intro es' hl hj; cases es' with
        | nil => cases hl
        | cons en es' =>
          obtain ⟨nt, b, ht, hb⟩ := hj 0 t en rfl rfl
          refine .cons (.tup nt ht (.cons (.tup (s'.noTup (hkeep _ _ hb)) (hkeep _ _ hb) ?_) (.cons (.str _) .nil))) (ih es' (by simpa using hl) fun j t' en' h1 h2 => hj (j + 1) t' en' (by simpa using h1) (by simpa using h2))
          rw [List.map_map]
          exact Das.ints en.1
    have dl : Da X.K (A ++ B) H' (.ref pp) (.lst (es.map itD)) := .lst (not_cell s hp) hpl (das ts es (by rw [hlen, List.length_map]) fun j t en h1 h2 => by
      obtain ⟨b, hb1, hb2⟩ := hj j t (encEn en) h1 (by rw [List.getElem?_map, h2]; rfl)
      exact ⟨not_cell s (hts t (List.mem_of_getElem? h1)), b, hb1, hb2⟩)
    exact (con.step g s) _ _ [] α1 H' h1 g' (by rw [List.append_nil]; exact s') (by rw [List.append_nil]; exact dl)
end
/-- sorted(items) -/
theorem cd_sortIS {K : PySem.W.Frag} {α : Sto} {R : RE} {es : List (List Int × Str)} (hne : ∀ e ∈ es, ∃ x r, e.1 = x :: r) (h : ∀ es', List.Perm es' es → R (.lst (es'.map itD)) α) : CD K (rSortIS K) [.lst (es.map itD)] α R := by
  intro A H xs s q Q c
  cases q with
  | cons q r =>
    cases r
    cases q with
    | lst n e rr =>
      rename_i a ys
      have hl : ys.length = es.length := by rw [rr.length, List.length_map]
      refine ⟨a, ys, es, rfl, .inl (.inl e), hl, fun i x en h1 h2 => ?_, hne, fun bs p hp hn => ?_⟩
      · obtain ⟨v, hv, qv⟩ := rr.get (i := i) (d := itD en) (by rw [List.getElem?_map, h2]; rfl)
        rw [h1] at hv; cases hv
        exact py_dp s (py_it α en) qv
      · have e2 : List.Perm (bs.map (·.2)) es := by
          have := hp.map (·.2)
          rwa [List.map_snd_zip (by omega)] at this
        have das : ∀ bs' : List (V × (List Int × Str)), (∀ b ∈ bs', b ∈ ys.zip es) → Das K A H (bs'.map (·.1)) ((bs'.map (·.2)).map itD) := by
          intro bs'
          induction bs' with
          | nil => intro _; exact .nil
          | cons b bs' ih =>
            intro hb
            refine .cons ?_ (ih fun x hx => hb x (by simp [hx]))
            obtain ⟨j, hj⟩ := List.mem_iff_getElem?.mp (hb b (by simp))
            obtain ⟨j1, j2⟩ := List.getElem?_zip_eq_some.mp hj
            obtain ⟨v, hv, qv⟩ := rr.get (i := j) (d := itD b.2) (by rw [List.getElem?_map, j2]; rfl)
            rw [j1] at hv; cases hv
            exact qv
        exact c.newL s hn (das bs fun b hb => hp.mem_iff.mp hb) (h _ e2)
end DH

end

section
/-! DH: dicts by ints, texts, tuples of them; values are trees. -/
namespace DH
open PySem PySem.Spec PyProof.Rows L2
section
variable {κ : Type} [DecidableEq κ]
def putP (es : List (κ × D)) (k : κ) (d : D) : List (κ × D) := if (es.any fun p => decide (p.1 = k)) = true then es.map (fun p => if p.1 = k then (p.1, d) else p) else es ++ [(k, d)]
def lookP : List (κ × D) → κ → Option D
  | [], _ => none
  | p :: es, k => if p.1 = k then some p.2 else lookP es k
/-- a value and what is told of it, or neither -/
def LkV (K : PySem.W.Frag) (A : List Addr) (H : Hp) (ov : Option V) : Option D → Prop
  | none => ov = none
  | some d => ∃ v, ov = some v ∧ Da K A H v d
variable {K : PySem.W.Frag} {A : List Addr} {H : Hp} {vs : List (κ × V)} {es : List (κ × D)} {k : κ} {v : V} {d : D}
theorem Pr.len {κ : Type} : ∀ {vs : List (κ × V)} {es : List (κ × D)}, Pr K A H vs es → vs.length = es.length
  | _, _, .nil => rfl
  | _, _, .cons _ t => congrArg (· + 1) t.len
theorem Pr.look : ∀ {vs : List (κ × V)} {es : List (κ × D)}, Pr K A H vs es → LkV K A H (valV vs k) (lookP es k)
  | _, _, .nil => rfl
  | (j, u) :: vs, (_, e) :: es, .cons q t => by
    have ih := t.look
    unfold lookP
    by_cases h : j = k
    · rw [if_pos h]
      exact ⟨u, valV_pos h, q⟩
    · rw [if_neg h, valV_neg (p := (j, u)) h]
      exact ih
theorem Pr.any : ∀ {vs : List (κ × V)} {es : List (κ × D)}, Pr K A H vs es → (vs.any fun p => decide (p.1 = k)) = es.any fun p => decide (p.1 = k)
  | _, _, .nil => rfl
  | _, _, .cons q t => by simp only [List.any_cons]; rw [t.any]
theorem Pr.repl (q : Da K A H v d) : ∀ {vs : List (κ × V)} {es : List (κ × D)}, Pr K A H vs es → Pr K A H (vs.map fun p => if p.1 = k then (p.1, v) else p) (es.map fun p => if p.1 = k then (p.1, d) else p)
  | _, _, .nil => .nil
  | (j, u) :: vs, (_, e) :: es, .cons r t => by
    have ih := Pr.repl q t
    by_cases h : j = k
    · simp only [List.map_cons, h, if_true]
      exact .cons q ih
    · simp only [List.map_cons, h, if_false]
      exact .cons r ih
theorem Pr.app {κ : Type} : ∀ {vs us : List (κ × V)} {es fs : List (κ × D)}, Pr K A H vs es → Pr K A H us fs → Pr K A H (vs ++ us) (es ++ fs)
  | _, _, _, _, .nil, h => h
  | _, _, _, _, .cons q t, h => .cons q (t.app h)
theorem Pr.put (h : Pr K A H vs es) (q : Da K A H v d) : Pr K A H (putK vs k v) (putP es k d) := by
  unfold putK putP
  rw [h.any]
  by_cases e : (es.any fun p => decide (p.1 = k)) = true
  · rw [if_pos e, if_pos e]; exact h.repl q
  · rw [if_neg e, if_neg e]; exact h.app (.cons q .nil)
theorem putP_len : (putP es k d).length ≤ es.length + 1 := by
  unfold putP
  split <;> simp
theorem lookP_map {j : κ} : ∀ es : List (κ × D), lookP (es.map fun p => if p.1 = k then (p.1, d) else p) j = if k = j then (if (es.any fun p => decide (p.1 = k)) = true then some d else none) else lookP es j
  | [] => by simp [lookP]
  | p :: es => by
    have ih := lookP_map (j := j) es
    by_cases h : p.1 = k <;> by_cases hj : k = j
    · simp [lookP, h, hj]
    · simp only [hj, if_false] at ih
      simp [lookP, h, hj, ih]
    · subst hj
      simp only [if_true] at ih
      rw [if_pos rfl, List.any_cons, decide_eq_false h, Bool.false_or, ← ih, List.map_cons, if_neg h]
      exact if_neg h
    · simp only [hj, if_false] at ih
      simp [lookP, h, hj, ih]
theorem lookP_app {j : κ} : ∀ es : List (κ × D), (es.any fun p => decide (p.1 = k)) = false → lookP (es ++ [(k, d)]) j = if k = j then some d else lookP es j
  | [], _ => by simp [lookP]
  | p :: es, h => by
    simp only [List.any_cons, Bool.or_eq_false_iff, decide_eq_false_iff_not] at h
    have ih := lookP_app (j := j) es h.2
    by_cases hp : p.1 = j
    · have : ¬ k = j := fun z => h.1 (hp.trans z.symm)
      simp [lookP, hp, this]
    · simp [lookP, hp, ih]
theorem lookP_put {j : κ} : lookP (putP es k d) j = if k = j then some d else lookP es j := by
  unfold putP
  by_cases e : (es.any fun p => decide (p.1 = k)) = true
  · rw [if_pos e, lookP_map]
    by_cases hj : k = j
    · rw [if_pos hj, if_pos hj, if_pos e]
    · rw [if_neg hj, if_neg hj]
  · rw [if_neg e, lookP_app es (Bool.eq_false_iff.mpr e)]
end
def kD : Key → D
  | .inl i => .int i
  | .inr s => .str s
theorem kD_inv {K : PySem.W.Frag} {A : List Addr} {H : Hp} {v : V} : ∀ {k : Key}, Da K A H v (kD k) → v = kV k
  | .inl _, q => q.int_inv
  | .inr _, q => q.str_inv
theorem kDs_inv {K : PySem.W.Frag} {A : List Addr} {H : Hp} : ∀ {vs : List V} {ks : List Key}, Das K A H vs (ks.map kD) → vs = ks.map kV
  | _, [], .nil => rfl
  | _, k :: ks, .cons h t => by rw [kD_inv h, kDs_inv t]; rfl
/-- what a dict's cell holds at a key -/
def DLk (α : Sto) (c : Nat) (dk : D) (o : Option D) : Prop :=
  (∃ es k, α[c]? = some (.kd es) ∧ dk = kD k ∧ o = lookP es k) ∨ ∃ es ks, α[c]? = some (.td es) ∧ dk = .tup (ks.map kD) ∧ o = lookP es ks
def DPt (α : Sto) (c : Nat) (dk d : D) (cl : Cl) : Prop :=
  (∃ es k, α[c]? = some (.kd es) ∧ dk = kD k ∧ es.length < 1000000 ∧ cl = .kd (putP es k d)) ∨ ∃ es ks, α[c]? = some (.td es) ∧ dk = .tup (ks.map kD) ∧ es.length < 1000000 ∧ cl = .td (putP es ks d)
def isDc : Option Cl → Bool
  | some (.kd _) => true
  | some (.td _) => true
  | _ => false
section
variable {K : PySem.W.Frag} {A : List Addr} {H : Hp} {α : Sto} {c : Nat} {x y : V} {dk d : D} {o : Option D}
theorem dlk_get (s : So K A H α) (qx : Da K A H x (.acc c)) (qy : Da K A H y dk) (h : DLk α c dk o) : ∃ a ov, x = .ref a ∧ DGet H a y ov ∧ LkV K A H ov o := by
  cases qx with
  | acc ea =>
    rename_i a
    rcases h with ⟨es, k, hc, rfl, rfl⟩ | ⟨es, ks, hc, rfl, rfl⟩
    · obtain ⟨a', ea', u, hu, vs, rfl, q⟩ := s.getC hc
      rw [ea] at ea'; cases ea'
      rw [kD_inv qy]
      exact ⟨a, _, rfl, DGet.k hu, q.look⟩
    · obtain ⟨a', ea', u, hu, vs, rfl, q⟩ := s.getC hc
      rw [ea] at ea'; cases ea'
      cases qy with
      | tup na eb r =>
        rename_i b xs
        rw [kDs_inv r] at eb
        exact ⟨a, _, rfl, DGet.t hu eb, q.look⟩
theorem isD_of (s : So K A H α) (qx : Da K A H x (.acc c)) (h : isDc α[c]? = true) : ∃ a, x = .ref a ∧ IsD H a := by
  cases qx with
  | acc ea =>
    rename_i a
    cases hc : α[c]? with
    | none => rw [hc] at h; cases h
    | some cl =>
      obtain ⟨a', ea', u, hu, q⟩ := s.getC hc
      rw [ea] at ea'; cases ea'
      rw [hc] at h
      cases cl with
      | kd es => obtain ⟨vs, rfl, q⟩ := q; exact ⟨a, rfl, .inl ⟨vs, .inl hu⟩⟩
      | td es => obtain ⟨vs, rfl, q⟩ := q; exact ⟨a, rfl, .inr ⟨vs, .inl hu⟩⟩
      | _ => cases h
end
theorem m1_of {X : Cx} {o e : Expr} {m : Str} {apos cpos : Pos} (base : attributeBase o m X.env (eval o X.env) = eval o X.env := by rfl)
    (few : ((backTo cpos (starEach [e] X.env)).all (fun x => !x.1) && (backToKw cpos (keywordEach [] X.env)).all (fun x => x.1.isSome)
      && decide (([e] : List Expr).length + ([] : List Keyword).length + (if ([] : List Keyword).isEmpty then 0 else 1) < 30)) = true := by rfl)
    (line : (apos.endLine == cpos.line) = true := by rfl) (trees : backTo cpos (starEach [e] X.env) = [(false, eval e X.env)] := by rfl) : M1 X o m apos e cpos := ⟨base, few, line, trees⟩
theorem m2_of {X : Cx} {o e f : Expr} {m : Str} {apos cpos : Pos} (base : attributeBase o m X.env (eval o X.env) = eval o X.env := by rfl)
    (few : ((backTo cpos (starEach [e, f] X.env)).all (fun x => !x.1) && (backToKw cpos (keywordEach [] X.env)).all (fun x => x.1.isSome)
      && decide (([e, f] : List Expr).length + ([] : List Keyword).length + (if ([] : List Keyword).isEmpty then 0 else 1) < 30)) = true := by rfl)
    (line : (apos.endLine == cpos.line) = true := by rfl) (trees : backTo cpos (starEach [e, f] X.env) = [(false, eval e X.env), (false, eval f X.env)] := by rfl) : M2 X o m apos e f cpos := ⟨base, few, line, trees⟩
section
variable {X : Cx} {ρ : Rho} {α : Sto} {R : RE} {o e f i : Expr} {p apos cpos pos pos' : Pos}
/-- {} -/
theorem de_kd0 (h : R (.acc α.length) (α ++ [.kd []])) : DE X (.Dict [] [] pos) ρ α R := by
  intro A σ H Q rep con
  refine wp_of pe_dnewK fun p hp => ?_
  obtain ⟨s', g⟩ := rep.so.cellNew (c := .kd []) (o := .dK []) hp ⟨[], rfl, .nil⟩
  refine con _ _ [p] _ _ h g s' (.acc ?_)
  rw [← rep.so.len, List.getElem?_append_right (Nat.le_refl _)]
  simp
theorem de_td0 (h : R (.acc α.length) (α ++ [.td []])) : DE X (.Dict [] [] pos) ρ α R := by
  intro A σ H Q rep con
  refine wp_of pe_dnewT fun p hp => ?_
  obtain ⟨s', g⟩ := rep.so.cellNew (c := .td []) (o := .dT []) hp ⟨[], rfl, .nil⟩
  refine con _ _ [p] _ _ h g s' (.acc ?_)
  rw [← rep.so.len, List.getElem?_append_right (Nat.le_refl _)]
  simp
/-- d[k] -/
theorem de_dget (hu : X.A.units + 1 < cLine) (h : DE X o ρ α fun d1 α1 => DE X i ρ α1 fun d2 α2 => ∃ c d, d1 = .acc c ∧ DLk α2 c d2 (some d) ∧ R d α2) (hs : NoSl i := by exact fun _ _ => rfl) : DE X (.Subscript o i pos) ρ α R := by
  intro A σ H Q rep con
  refine wp_of (pe_dget hu pe_wp pe_wp hs) (h A σ H _ rep fun v d B α1 H1 h1 g s q => ?_)
  refine h1 _ σ H1 _ (rep.mono g s) fun y d2 B2 α2 H2 h2 g2 s2 q2 => ?_
  obtain ⟨c, d, rfl, hl, hR⟩ := h2
  obtain ⟨a, ov, rfl, hg, v', rfl, qv⟩ := dlk_get s2 (q.mono g2) q2 hl
  exact ⟨a, v', rfl, hg, ((con.step g s).step g2 s2).now s2 qv hR⟩
/-- k in d, k not in d -/
theorem de_din (hu : X.A.units + 1 < cLine) (hb : behindInMarks .In o = false) (h : DE X i ρ α fun d2 α1 => DE X o ρ α1 fun d1 α2 => ∃ c ov, d1 = .acc c ∧ DLk α2 c d2 ov ∧ R (.bl ov.isSome) α2) : DE X (.Compare i [.In] [o] pos) ρ α R := by
  intro A σ H Q rep con
  refine wp_of (pe_cmp (pc_din hu pe_wp pe_wp) hb) (h A σ H _ rep fun y d2 B α1 H1 h1 g s q => ?_)
  refine h1 _ σ H1 _ (rep.mono g s) fun x d1 B2 α2 H2 h2 g2 s2 q2 => ?_
  obtain ⟨c, o', rfl, hl, hR⟩ := h2
  obtain ⟨a, ov, rfl, hg, hv⟩ := dlk_get s2 q2 (q.mono g2) hl
  have e : ov.isSome = o'.isSome := by
    cases o' with
    | none => rw [hv]; rfl
    | some d => obtain ⟨v, rfl, _⟩ := hv; rfl
  exact ⟨a, ov, rfl, hg, by rw [e]; exact ((con.step g s).step g2 s2).now s2 (.bl _) hR⟩
theorem de_dnotin (hu : X.A.units + 1 < cLine) (hb : behindInMarks .NotIn o = false) (h : DE X i ρ α fun d2 α1 => DE X o ρ α1 fun d1 α2 => ∃ c ov, d1 = .acc c ∧ DLk α2 c d2 ov ∧ R (.bl (!ov.isSome)) α2) : DE X (.Compare i [.NotIn] [o] pos) ρ α R := by
  intro A σ H Q rep con
  refine wp_of (pe_cmp (pc_dnotin hu pe_wp pe_wp) hb) (h A σ H _ rep fun y d2 B α1 H1 h1 g s q => ?_)
  refine h1 _ σ H1 _ (rep.mono g s) fun x d1 B2 α2 H2 h2 g2 s2 q2 => ?_
  obtain ⟨c, o', rfl, hl, hR⟩ := h2
  obtain ⟨a, ov, rfl, hg, hv⟩ := dlk_get s2 q2 (q.mono g2) hl
  have e : ov.isSome = o'.isSome := by
    cases o' with
    | none => rw [hv]; rfl
    | some d => obtain ⟨v, rfl, _⟩ := hv; rfl
  exact ⟨a, ov, rfl, hg, by rw [e]; exact ((con.step g s).step g2 s2).now s2 (.bl _) hR⟩
theorem dt_din {R : Bool → Sto → Prop} (hu : X.A.units + 1 < cLine) (hb : behindInMarks .In o = false) (h : DE X i ρ α fun d2 α1 => DE X o ρ α1 fun d1 α2 => ∃ c ov, d1 = .acc c ∧ DLk α2 c d2 ov ∧ R ov.isSome α2) : DT X (.Compare i [.In] [o] pos) ρ α R := by
  intro A σ H Q rep con
  refine wpt_of (pt_cmp (pc_din hu pe_wp pe_wp) hb) (h A σ H _ rep fun y d2 B α1 H1 h1 g s q => ?_)
  refine h1 _ σ H1 _ (rep.mono g s) fun x d1 B2 α2 H2 h2 g2 s2 q2 => ?_
  obtain ⟨c, o', rfl, hl, hR⟩ := h2
  obtain ⟨a, ov, rfl, hg, hv⟩ := dlk_get s2 q2 (q.mono g2) hl
  have e : ov.isSome = o'.isSome := by
    cases o' with
    | none => rw [hv]; rfl
    | some d => obtain ⟨v, rfl, _⟩ := hv; rfl
  exact ⟨a, ov, rfl, hg, _, rfl, by rw [e]; exact ((con.step g s).step g2 s2).now s2 hR⟩
theorem dt_dnotin {R : Bool → Sto → Prop} (hu : X.A.units + 1 < cLine) (hb : behindInMarks .NotIn o = false) (h : DE X i ρ α fun d2 α1 => DE X o ρ α1 fun d1 α2 => ∃ c ov, d1 = .acc c ∧ DLk α2 c d2 ov ∧ R (!ov.isSome) α2) : DT X (.Compare i [.NotIn] [o] pos) ρ α R := by
  intro A σ H Q rep con
  refine wpt_of (pt_cmp (pc_dnotin hu pe_wp pe_wp) hb) (h A σ H _ rep fun y d2 B α1 H1 h1 g s q => ?_)
  refine h1 _ σ H1 _ (rep.mono g s) fun x d1 B2 α2 H2 h2 g2 s2 q2 => ?_
  obtain ⟨c, o', rfl, hl, hR⟩ := h2
  obtain ⟨a, ov, rfl, hg, hv⟩ := dlk_get s2 q2 (q.mono g2) hl
  have e : ov.isSome = o'.isSome := by
    cases o' with
    | none => rw [hv]; rfl
    | some d => obtain ⟨v, rfl, _⟩ := hv; rfl
  exact ⟨a, ov, rfl, hg, _, rfl, by rw [e]; exact ((con.step g s).step g2 s2).now s2 hR⟩
/-- d.get(k), d.get(k, x) -/
theorem de_get1 (hu : X.A.units + 1 < cLine) (m : M1 X o "get" apos e cpos) (h : DE X o ρ α fun d1 α1 => ∃ c, d1 = .acc c ∧ isDc α1[c]? = true ∧ DE X e ρ α1 fun d2 α2 => ∃ ov, DLk α2 c d2 ov ∧ R (ov.getD .non) α2) :
    DE X (.Call (.Attribute o "get" apos) [e] [] cpos) ρ α R := by
  intro A σ H Q rep con
  refine wp_of (pe_dget1 hu pe_wp pe_wp m) (h A σ H _ rep fun v d B α1 H1 h1 g s q => ?_)
  obtain ⟨c, rfl, hd, h1⟩ := h1
  obtain ⟨a, rfl, hD⟩ := isD_of s q hd
  refine ⟨a, rfl, hD, h1 _ σ H1 _ (rep.mono g s) fun y d2 B2 α2 H2 h2 g2 s2 q2 => ?_⟩
  obtain ⟨o', hl, hR⟩ := h2
  obtain ⟨a', ov, ea, hg, hv⟩ := dlk_get s2 (q.mono g2) q2 hl
  cases ea
  refine ⟨ov, hg, ?_⟩
  have c2 := (con.step g s).step g2 s2
  cases o' with
  | none => rw [hv]; exact c2.now s2 .non hR
  | some d => obtain ⟨v, rfl, qv⟩ := hv; exact c2.now s2 qv hR
theorem de_get2 (hu : X.A.units + 1 < cLine) (m : M2 X o "get" apos e f cpos) (h : DE X o ρ α fun d1 α1 => ∃ c, d1 = .acc c ∧ isDc α1[c]? = true ∧ DE X e ρ α1 fun d2 α2 => DE X f ρ α2 fun d3 α3 => ∃ ov, DLk α3 c d2 ov ∧ R (ov.getD d3) α3) :
    DE X (.Call (.Attribute o "get" apos) [e, f] [] cpos) ρ α R := by
  intro A σ H Q rep con
  refine wp_of (pe_dget2 hu pe_wp pe_wp pe_wp m) (h A σ H _ rep fun v d B α1 H1 h1 g s q => ?_)
  obtain ⟨c, rfl, hd, h1⟩ := h1
  obtain ⟨a, rfl, hD⟩ := isD_of s q hd
  refine ⟨a, rfl, hD, h1 _ σ H1 _ (rep.mono g s) fun y d2 B2 α2 H2 h2 g2 s2 q2 => ?_⟩
  refine h2 _ σ H2 _ ((rep.mono g s).mono g2 s2) fun z d3 B3 α3 H3 h3 g3 s3 q3 => ?_
  obtain ⟨o', hl, hR⟩ := h3
  obtain ⟨a', ov, ea, hg, hv⟩ := dlk_get s3 ((q.mono g2).mono g3) (q2.mono g3) hl
  cases ea
  refine ⟨ov, hg, ?_⟩
  have c2 := ((con.step g s).step g2 s2).step g3 s3
  cases o' with
  | none => rw [hv]; exact c2.now s3 q3 hR
  | some d => obtain ⟨v, rfl, qv⟩ := hv; exact c2.now s3 qv hR
/-- d[k] = v -/
theorem ds_dput {n : Nat} {P : Post} (hu : X.A.units + 1 < cLine) (h : DE X e ρ α fun d α1 => DE X o ρ α1 fun d1 α2 => DE X i ρ α2 fun d2 α3 => ∃ c cl, d1 = .acc c ∧ DPt α3 c d2 d cl ∧ P.nx ρ (α3.set c cl))
    (hs : swapsWith e (some (.Subscript o i pos')) pos.line X.env = pure false := by rfl) : DS X n (.Assign [.Subscript o i pos'] e pos) ρ α P := by
  intro A H0 E B σ H at_
  refine wps_of (ps_dput hu pe_wp pe_wp pe_wp hs) (h _ σ H _ at_.rep fun v d B1 α1 H1 h1 g s q => ?_)
  have at1 := at_.step g s
  refine h1 _ σ H1 _ at1.rep fun u d1 B2 α2 H2 h2 g2 s2 q2 => ?_
  have at2 := at1.step g2 s2
  refine h2 _ σ H2 _ at2.rep fun t d2 B3 α3 H3 h3 g3 s3 q3 => ?_
  have at3 := at2.step g3 s3
  obtain ⟨c, cl, rfl, hp, h3⟩ := h3
  have q' := da_assoc ((da_assoc ((da_assoc q).mono g2)).mono g3)
  have q2' := da_assoc ((da_assoc q2).mono g3)
  have q3' := da_assoc q3
  cases q2' with
  | acc ea =>
    rename_i a
    rcases hp with ⟨es, k, hc, rfl, hl, rfl⟩ | ⟨es, ks, hc, rfl, hl, rfl⟩
    · obtain ⟨a', ea', u, hu', vs, rfl, q⟩ := at3.rep.so.getC hc
      rw [ea] at ea'; cases ea'
      rw [kD_inv q3']
      exact ⟨a, _, rfl, DPut.k hu' (by rw [q.len]; exact Nat.lt_of_lt_of_le hl (by decide)), (at3.cell (cl := .kd (putP es k d)) ea ⟨_, rfl, q.put q'⟩).nx h3⟩
    · obtain ⟨a', ea', u, hu', vs, rfl, q⟩ := at3.rep.so.getC hc
      rw [ea] at ea'; cases ea'
      cases q3' with
      | tup na eb r =>
        rw [kDs_inv r] at eb
        exact ⟨a, _, rfl, DPut.t hu' eb (by rw [q.len]; exact Nat.lt_of_lt_of_le hl (by decide)), (at3.cell (cl := .td (putP es ks d)) ea ⟨_, rfl, q.put q'⟩).nx h3⟩
end
/-! d.get(None), d by ints and texts -/
section
variable {X : Cx} {pins : List (Addr × Obj)} {σ : L2.St} {H : Hp} {s : Shared} {a : Addr} {kvs : List (Key × V)} {A : Around} {E : Value → Shared → Prop}
theorem dh_getNone {Q : Value → Shared → Prop} (I : Inv X pins σ H s) (e : Rd H a (.dK kvs)) (h : ∀ s', Inv X pins σ H s' → Q .none s') : wpAny (model X.prog X.w) A (call (.builtin "dict.get") [.ref a, .none]) Q E s := by
  obtain ⟨_, hd, vs, _, dd⟩ := dk_rd I.hok e
  obtain ⟨f, hm, hf⟩ := none_map dd
  refine call_meetsIn PySem.F.slot_dict_get dd.typeIs PySem.F.entry_dict_get (PySem.F.args_dict_get_2 _ _) (meets_dict_get (k := none) (noneKind X.prog X.w) a (by rfl) hd) ⟨_, hm, ?_⟩
  rw [hf]
  exact h _ (I.tok _)
end
def tGetN (td ty : TE) : TE := fun σ H Q => td σ H fun x H1 => ∃ a, x = .ref a ∧ IsD H1 a ∧ ty σ H1 fun y H2 => (∃ o, DGet H2 a y o ∧ Q (o.getD .non) H2) ∨ ∃ kvs, y = .non ∧ Rd H2 a (.dK kvs) ∧ Q .non H2
theorem pe_getN {X : Cx} {o e : Expr} {apos cpos : Pos} {td ty : TE} (hu : X.A.units + 1 < cLine) (ho : PE X o td) (he : PE X e ty) (m : M1 X o "get" apos e cpos) : PE X (.Call (.Attribute o "get" apos) [e] [] cpos) (tGetN td ty) := by
  refine ⟨fun pins s σ H Q I h => wpAny_Call_method m.base m.few m.line PySem.F.plainAttrs_dict PySem.F.slot_dict_get PySem.F.type_dict_get (thn (ho.run pins s σ H _ I h) fun u s1 hh => ?_)⟩
  obtain ⟨x, H1, I1, rx, a, rfl, d, q1⟩ := hh
  obtain rfl : u = Value.ref a := rx
  have t := isD_at I1 d
  refine ⟨t.1, t.2.1, ?_⟩
  rw [m.trees]
  refine Calls.callWith_builtin rfl (Calls.evalArgs_plain (Calls.spliced_cons (thn (he.run pins s1 σ H1 _ I1 q1) fun iv s2 hq => Calls.spliced_nil ?_)))
  obtain ⟨y, H2, I2, ry, ⟨ov, g, q2⟩ | ⟨kvs, rfl, g, q2⟩⟩ := hq
  · exact d_get1 hu I2 g ry fun w' s3 I3 rw' => ⟨_, H2, I3, rw', q2⟩
  · obtain rfl : iv = Value.none := ry
    exact dh_getNone I2 g fun s3 I3 => ⟨.non, H2, I3, rfl, q2⟩
section
variable {X : Cx} {ρ : Rho} {α : Sto} {R : RE} {o e f i : Expr} {p apos cpos pos pos' : Pos}
/-- d.get(k), k perhaps None -/
theorem de_getN (hu : X.A.units + 1 < cLine) (m : M1 X o "get" apos e cpos) (h : DE X o ρ α fun d1 α1 => ∃ c, d1 = .acc c ∧ isDc α1[c]? = true ∧ DE X e ρ α1 fun d2 α2 => (∃ ov, DLk α2 c d2 ov ∧ R (ov.getD .non) α2) ∨ (d2 = .non ∧ (∃ es, α2[c]? = some (.kd es)) ∧ R .non α2)) :
    DE X (.Call (.Attribute o "get" apos) [e] [] cpos) ρ α R := by
  intro A σ H Q rep con
  refine wp_of (pe_getN hu pe_wp pe_wp m) (h A σ H _ rep fun v d B α1 H1 h1 g s q => ?_)
  obtain ⟨c, rfl, hd, h1⟩ := h1
  obtain ⟨a, rfl, hD⟩ := isD_of s q hd
  refine ⟨a, rfl, hD, h1 _ σ H1 _ (rep.mono g s) fun y d2 B2 α2 H2 h2 g2 s2 q2 => ?_⟩
  have c2 := (con.step g s).step g2 s2
  rcases h2 with ⟨o', hl, hR⟩ | ⟨rfl, ⟨es, hc⟩, hR⟩
  · obtain ⟨a', ov, ea, hg, hv⟩ := dlk_get s2 (q.mono g2) q2 hl
    cases ea
    refine .inl ⟨ov, hg, ?_⟩
    cases o' with
    | none => rw [hv]; exact c2.now s2 .non hR
    | some d => obtain ⟨v, rfl, qv⟩ := hv; exact c2.now s2 qv hR
  · cases (q.mono g2) with
    | acc ea =>
      obtain ⟨a', ea', u, hu', vs, rfl, qp⟩ := s2.getC hc
      rw [ea] at ea'; cases ea'
      exact .inr ⟨vs, q2.non_inv, .inl hu', c2.now s2 .non hR⟩
end
end DH

end

section
/-! DH: targets of comprehensions of any form; comprehensions of lists and dicts over them. -/
namespace DH
open PySem PySem.Spec PyProof.Rows L2
/-- a target: a slot, or a tuple of targets -/
inductive Tg where
  | nm (i : Nat)
  | tp (ts : List Tg)
mutual
def Tg.g (K : PySem.W.Frag) : Tg → TG
  | .nm i => gName i
  | .tp ts => gTup K ts.length (tgsG K ts)
def tgsG (K : PySem.W.Frag) : List Tg → TGs
  | [] => gNil
  | t :: ts => gCons (t.g K) (tgsG K ts)
end
mutual
def Tg.put : Tg → Rho → D → Option Rho
  | .nm i, ρ, d => some (ρ.set i (some d))
  | .tp ts, ρ, .tup ds => tgsPut ts ρ ds
  | .tp _, _, _ => none
def tgsPut : List Tg → Rho → List D → Option Rho
  | [], ρ, [] => some ρ
  | t :: ts, ρ, d :: ds => match t.put ρ d with
    | some ρ' => tgsPut ts ρ' ds
    | none => none
  | _, _, _ => none
end
mutual
def Tg.all (p : Nat → Bool) : Tg → Bool
  | .nm i => p i
  | .tp ts => tgsAll p ts
def tgsAll (p : Nat → Bool) : List Tg → Bool
  | [] => true
  | t :: ts => t.all p && tgsAll p ts
end
theorem wipe_set {σ : L2.St} {vs : List Nat} {i : Nat} {x : Option V} (hi : i ∈ vs) : wipe (σ.set i x) vs = wipe σ vs := by
  apply List.ext_getElem?
  intro j
  rw [wipe_get, wipe_get, List.length_set, List.getElem?_set]
  by_cases hj : j ∈ vs
  · simp [hj]
  · have : i ≠ j := fun z => hj (z ▸ hi)
    simp [hj, this]
theorem tgsPut_len {ts : List Tg} {ρ ρ' : Rho} {ds : List D} (h : tgsPut ts ρ ds = some ρ') : ts.length = ds.length := by
  induction ts generalizing ρ ds with
  | nil => cases ds with
    | nil => rfl
    | cons _ _ => simp [tgsPut] at h
  | cons t ts ih => cases ds with
    | nil => simp [tgsPut] at h
    | cons d ds =>
      unfold tgsPut at h
      split at h
      · rename_i r _
        simp [ih h]
      · cases h
section
variable {K : PySem.W.Frag} {A : List Addr} {H : Hp} {α : Sto} {vs : List Nat}
mutual
theorem Tg.ok : ∀ {t : Tg} {Q : L2.St → Hp → Prop} {σ σ0 : L2.St} {ρ ρ' : Rho} {v : V} {d : D}, t.all (fun i => decide (i ∈ vs)) = true → Rep K A H σ ρ α → Da K A H v d → t.put ρ d = some ρ' → wipe σ vs = wipe σ0 vs → (∀ σ2, Rep K A H σ2 ρ' α → wipe σ2 vs = wipe σ0 vs → Q σ2 H) → t.g K v σ H Q
  | .nm i, Q, σ, σ0, ρ, ρ', v, d, hi, r, q, h, hw, k => by
    simp only [Tg.put, Option.some.injEq] at h
    subst h
    have hi' : i ∈ vs := by simpa [Tg.all] using hi
    show Q (σ.set i (some v)) H
    exact k _ (r.put q) (by rw [wipe_set hi', hw])
  | .tp ts, Q, σ, σ0, ρ, ρ', v, d, hi, r, q, h, hw, k => by
    cases q with
    | tup na e qs =>
      rename_i a xs ds
      simp only [Tg.put] at h
      refine ⟨a, xs, rfl, .inl (.inl e), by rw [qs.length, tgsPut_len h], ?_⟩
      exact tgs_ok (by simpa only [Tg.all] using hi) r qs h hw k
    | _ => simp [Tg.put] at h
theorem tgs_ok : ∀ {ts : List Tg} {Q : L2.St → Hp → Prop} {σ σ0 : L2.St} {ρ ρ' : Rho} {xs : List V} {ds : List D}, tgsAll (fun i => decide (i ∈ vs)) ts = true → Rep K A H σ ρ α → Das K A H xs ds → tgsPut ts ρ ds = some ρ' → wipe σ vs = wipe σ0 vs → (∀ σ2, Rep K A H σ2 ρ' α → wipe σ2 vs = wipe σ0 vs → Q σ2 H) → tgsG K ts xs σ H Q
  | [], Q, σ, σ0, ρ, ρ', xs, ds, hi, r, q, h, hw, k => by
    cases q with
    | nil =>
      simp only [tgsPut, Option.some.injEq] at h
      subst h
      exact ⟨rfl, k _ r hw⟩
    | cons _ _ => simp [tgsPut] at h
  | t :: ts, Q, σ, σ0, ρ, ρ', xs, ds, hi, r, q, h, hw, k => by
    cases q with
    | nil => simp [tgsPut] at h
    | cons q1 q2 =>
      unfold tgsPut at h
      simp only [tgsAll, Bool.and_eq_true] at hi
      split at h
      · rename_i r1 e1
        exact ⟨_, _, rfl, Tg.ok (σ0 := σ0) hi.1 r q1 e1 hw fun σ2 r2 w2 => tgs_ok hi.2 r2 q2 h w2 k⟩
      · cases h
end
end
section
variable {X : Cx} {ρ : Rho} {α : Sto} {R : RE} {elt kx vx iter tg : Expr} {ifs : List Expr} {scope : Scope} {own : List (Str × Nat)} {x : Str} {p pos : Pos} {T : Tg}
/-- [elt for tg in iter if ..]: the new list is a cell -/
def LcT (X : Cx) (elt tg iter : Expr) (ifs : List Expr) (scope : Scope) (vs : List Nat) (T : Tg) (ρ : Rho) (α : Sto) (R : RE) : Prop :=
  DI X tg iter ρ α fun ds stays α1 => ∃ V : Nat → Sto → Prop, V 0 (α1 ++ [.l []]) ∧ (∀ k α', V k α' → stays α') ∧
    (∀ k y α', ds[k]? = some y → V k α' → ∃ ρ', T.put (wipeR ρ vs) y = some ρ' ∧ ∀ s H C cl fp, DTs (X.blk s H scope (compEnvC scope cl C X.env) fp) ifs ρ' α' fun b α2 =>
      if b = true then ∀ s H C cl fp, DE (X.blk s H scope (compEnvC scope cl C X.env) fp) elt ρ' α2 fun z α3 => ∃ acc, α3[α1.length]? = some (.l acc) ∧ acc.length < 1000000 ∧ V (k + 1) (α3.set α1.length (.l (acc ++ [z])))
      else V (k + 1) α2) ∧
    (∀ α', V ds.length α' → R (.acc α1.length) α')
theorem lct_read {vs : List Nat} (hi : T.all (fun i => decide (i ∈ vs)) = true) (h : LcT X elt tg iter ifs scope vs T ρ α R) {A : List Addr} {σ : L2.St} {H : Hp} {Q : VK} (rep : Rep X.K A H σ ρ α) (con : Con X.K A H R Q) :
    tLc (wpI X tg iter) (T.g X.K) (blkT X scope ifs) (blkE X scope elt) vs σ H Q := by
  refine h A σ H _ rep fun J ds stays B1 α1 H1 h1 g1 s1 yl L hL => ?_
  obtain ⟨V, v0, st, turn, fin⟩ := h1
  obtain ⟨s2, g2⟩ := s1.cellNew (c := .l []) hL ⟨[], rfl, .nil⟩
  have rep1 := rep.mono g1 s1
  have rep2 := rep1.mono g2 s2
  refine ⟨fun k m H' => m = ds.length - k ∧ k ≤ ds.length ∧ ∃ B' α', V k α' ∧ Gr (A ++ B1 ++ [L]) (upd H1 L (.lst [])) B' H' ∧ So X.K (A ++ B1 ++ [L] ++ B') H' α', ⟨_, rfl, Nat.zero_le _, [], _, v0, Gr.refl _ _, by rw [List.append_nil]; exact s2⟩, ?_⟩
  rintro k m H' ⟨rfl, hk, B', α', vk, g', s'⟩
  have gt : Gr (A ++ B1) H1 ([L] ++ B') H' := g2.trans s2 g'
  have st' : So X.K (A ++ B1 ++ ([L] ++ B')) H' α' := by rw [← List.append_assoc]; exact s'
  have yl' := yl ([L] ++ B') H' α' gt st' (st k α' vk) k
  by_cases hlt : k < ds.length
  · obtain ⟨go, yd⟩ := yl'.2 ds[k] (by simp [hlt])
    refine .inr ⟨go, fun H3 => ∃ B3 α3, V (k + 1) α3 ∧ Gr (A ++ B1 ++ [L]) (upd H1 L (.lst [])) B3 H3 ∧ So X.K (A ++ B1 ++ [L] ++ B3) H3 α3, fun H3 ⟨B3, α3, v3, g3, a3⟩ => ⟨_, by omega, rfl, hlt, B3, α3, v3, g3, a3⟩, fun y H'' hy => ?_⟩
    obtain ⟨keep, da⟩ := yd y H'' hy
    have gk : Gr (A ++ B1 ++ [L] ++ B') H' [] H'' := gr_same keep
    have sk : So X.K (A ++ B1 ++ [L] ++ B') H'' α' := s'.same keep
    have gk3 : Gr (A ++ B1 ++ [L]) (upd H1 L (.lst [])) B' H'' := by have := g'.trans s' gk; rwa [List.append_nil] at this
    have rk : Rep X.K (A ++ B1 ++ [L] ++ B') H'' σ ρ α' := (rep2.mono gk3 sk)
    have da' : Da X.K (A ++ B1 ++ [L] ++ B') H'' y ds[k] := by rw [← List.append_assoc] at da; exact da
    obtain ⟨ρ', hp, turn'⟩ := turn k ds[k] α' (by simp [hlt]) vk
    refine Tg.ok (σ0 := σ) hi (rep_wipe rk vs) da' hp (by
      apply List.ext_getElem?
      intro j
      rw [wipe_get, wipe_get, wipe_length]
      by_cases hj : j ∈ vs <;> simp [hj]) fun σ2 rw_ hw2 => ⟨hw2, fun s H0 C cl fp => ?_⟩
    refine turn' s H0 C cl fp _ _ H'' _ rw_ fun b B4 α4 H4 h4 g4 s4 => ?_
    have g5 : Gr (A ++ B1 ++ [L]) (upd H1 L (.lst [])) (B' ++ B4) H4 := gk3.trans sk g4
    have s5 : So X.K (A ++ B1 ++ [L] ++ (B' ++ B4)) H4 α4 := by rw [← List.append_assoc]; exact s4
    show if b = true then _ else _
    cases b with
    | false =>
      rw [if_neg Bool.false_ne_true] at h4 ⊢
      exact ⟨_, α4, h4, g5, s5⟩
    | true =>
      rw [if_pos rfl] at h4 ⊢
      intro s' H0' C' cl' fp'
      have r4 : Rep X.K (A ++ B1 ++ [L] ++ B' ++ B4) H4 σ2 ρ' α4 := rw_.mono g4 s4
      refine h4 s' H0' C' cl' fp' _ _ H4 _ r4 fun v z B5 α5 H5 h5 g6 s6 q6 => ?_
      obtain ⟨acc, ea, hz, h5⟩ := h5
      obtain ⟨a', xs, e2, e3, q3⟩ := s6.get ea
      have hL : (A ++ B1 ++ [L] ++ B' ++ B4 ++ B5)[α1.length]? = some L := by
        rw [← s1.len]
        simp [List.append_assoc]
      rw [hL] at e2; cases e2
      obtain ⟨s7, g7⟩ := s6.put (c := .l (acc ++ [z])) hL ⟨_, rfl, q3.app (.cons q6 .nil)⟩
      refine ⟨xs, e3, by rw [q3.length]; exact Nat.lt_of_lt_of_le hz (by decide), B' ++ B4 ++ B5, _, h5, ?_, ?_⟩
      · have ga := (g5.trans s5 (by rw [← List.append_assoc]; exact g6))
        have sa : So X.K (A ++ B1 ++ [L] ++ (B' ++ B4 ++ B5)) H5 α5 := by rw [← List.append_assoc, ← List.append_assoc]; exact s6
        have gb := ga.trans sa (by rw [← List.append_assoc, ← List.append_assoc]; exact g7)
        rwa [List.append_nil] at gb
      · rw [← List.append_assoc, ← List.append_assoc]; exact s7
  · have e : k = ds.length := by omega
    subst e
    refine .inl ⟨yl'.1 (Nat.le_refl _), con (.ref L) _ (B1 ++ ([L] ++ B')) α' H' (fin α' vk) (g1.trans s1 gt) (by rw [← List.append_assoc]; exact st') (.acc ?_)⟩
    rw [← List.append_assoc, ← s1.len, List.getElem?_append_right (Nat.le_refl _)]
    simp
abbrev BlkG (X : Cx) (scope : Scope) (tg : Expr) (T : Tg) : Prop := ∀ (s : Shared) (H : Hp) (C : Addr) (cl : List (Str × Addr)) (fp : List Addr), PG (X.blk s H scope (compEnvC scope cl C X.env) fp) tg (T.g X.K)
theorem de_lct (T : Tg) (hc : X.calm = true) (hN : X.N.Nodup) (ok : BlkOk X.N X.env.scope scope own) (hi : T.all (fun i => decide (i ∈ own.map (·.2))) = true)
    (hg : BlkG X scope tg T) (h : LcT X elt tg iter ifs scope (own.map (·.2)) T ρ α R) (hs : ∀ x, foldedSetIterable iter X.env x = pure x := by intro _; rfl) : DE X (.ListComp elt [⟨tg, iter, ifs, 0⟩] scope pos) ρ α R := by
  intro A σ H Q rep con
  exact wp_of (pe_lc hc hN pi_wp ok hg (blkT_ok X scope ifs) (blkE_ok X scope elt) hs) (lct_read hi h rep con)
theorem ds_setLct {n : Nat} {P : Post} {y : Str} {py spos : Pos} (j : Nat) (T : Tg) (hc : X.calm = true) (hN : X.N.Nodup) (ok : BlkOk X.N X.env.scope scope own) (hi : T.all (fun i => decide (i ∈ own.map (·.2))) = true)
    (hg : BlkG X scope tg T) (hsw : swapsWith (.ListComp elt [⟨tg, iter, ifs, 0⟩] scope pos) (some (.Name y py)) spos.line X.env = pure true)
    (h : LcT X elt tg iter ifs scope (own.map (·.2)) T ρ α fun d α1 => P.nx (ρ.set j (some d)) α1) (hy : X.N[j]? = some y := by rfl) (hyl : X.env.scope.names.lookup y = some .local := by rfl) (hs : ∀ x, foldedSetIterable iter X.env x = pure x := by intro _; rfl) :
    DS X n (.Assign [.Name y py] (.ListComp elt [⟨tg, iter, ifs, 0⟩] scope pos) spos) ρ α P := by
  intro A H0 E B σ H at_
  refine wps_of (ps_setLc hc hN hy hyl hsw pi_wp ok hg (blkT_ok X scope ifs) (blkE_ok X scope elt) hs) ?_
  refine lct_read hi h at_.rep fun v d B1 α1 H1 h1 g s q => ?_
  exact ((at_.step g s).put (da_assoc q)).nx h1
/-- {kx: vx for tg in iter if ..}, keys ints or texts: the new dict is a cell -/
def DcT (X : Cx) (kx vx tg iter : Expr) (ifs : List Expr) (scope : Scope) (vs : List Nat) (T : Tg) (ρ : Rho) (α : Sto) (R : RE) : Prop :=
  DI X tg iter ρ α fun ds stays α1 => ∃ V : Nat → Sto → Prop, V 0 (α1 ++ [.kd []]) ∧ (∀ k α', V k α' → stays α') ∧
    (∀ k y α', ds[k]? = some y → V k α' → ∃ ρ', T.put (wipeR ρ vs) y = some ρ' ∧ ∀ s H C cl fp, DTs (X.blk s H scope (compEnvC scope cl C X.env) fp) ifs ρ' α' fun b α2 =>
      if b = true then ∀ s H C cl fp, DE (X.blk s H scope (compEnvC scope cl C X.env) fp) kx ρ' α2 fun z α3 => ∀ s H C cl fp, DE (X.blk s H scope (compEnvC scope cl C X.env) fp) vx ρ' α3 fun u α4 =>
        ∃ es key, z = kD key ∧ α4[α1.length]? = some (.kd es) ∧ es.length < 1000000 ∧ V (k + 1) (α4.set α1.length (.kd (putP es key u)))
      else V (k + 1) α2) ∧
    (∀ α', V ds.length α' → R (.acc α1.length) α')
theorem de_dct (T : Tg) (hc : X.calm = true) (hN : X.N.Nodup) (ok : BlkOk X.N X.env.scope scope own) (hi : T.all (fun i => decide (i ∈ own.map (·.2))) = true)
    (hg : BlkG X scope tg T) (h : DcT X kx vx tg iter ifs scope (own.map (·.2)) T ρ α R) (hs : ∀ x, foldedSetIterable iter X.env x = pure x := by intro _; rfl) : DE X (.DictComp kx vx [⟨tg, iter, ifs, 0⟩] scope pos) ρ α R := by
  intro A σ H Q rep con
  refine wp_of (pe_dc hc hN pi_wp ok hg (blkT_ok X scope ifs) (blkE_ok X scope kx) (blkE_ok X scope vx) hs) ?_
  refine h A σ H _ rep fun J ds stays B1 α1 H1 h1 g1 s1 yl L hL => ?_
  obtain ⟨V, v0, st, turn, fin⟩ := h1
  obtain ⟨s2, g2⟩ := s1.cellNew (c := .kd []) hL ⟨[], rfl, .nil⟩
  have rep1 := rep.mono g1 s1
  have rep2 := rep1.mono g2 s2
  refine ⟨fun k m H' => m = ds.length - k ∧ k ≤ ds.length ∧ ∃ B' α', V k α' ∧ Gr (A ++ B1 ++ [L]) (upd H1 L (.dK [])) B' H' ∧ So X.K (A ++ B1 ++ [L] ++ B') H' α', ⟨_, rfl, Nat.zero_le _, [], _, v0, Gr.refl _ _, by rw [List.append_nil]; exact s2⟩, ?_⟩
  rintro k m H' ⟨rfl, hk, B', α', vk, g', s'⟩
  have gt : Gr (A ++ B1) H1 ([L] ++ B') H' := g2.trans s2 g'
  have st' : So X.K (A ++ B1 ++ ([L] ++ B')) H' α' := by rw [← List.append_assoc]; exact s'
  have yl' := yl ([L] ++ B') H' α' gt st' (st k α' vk) k
  by_cases hlt : k < ds.length
  · obtain ⟨go, yd⟩ := yl'.2 ds[k] (by simp [hlt])
    refine .inr ⟨go, fun H3 => ∃ B3 α3, V (k + 1) α3 ∧ Gr (A ++ B1 ++ [L]) (upd H1 L (.dK [])) B3 H3 ∧ So X.K (A ++ B1 ++ [L] ++ B3) H3 α3, fun H3 ⟨B3, α3, v3, g3, a3⟩ => ⟨_, by omega, rfl, hlt, B3, α3, v3, g3, a3⟩, fun y H'' hy => ?_⟩
    obtain ⟨keep, da⟩ := yd y H'' hy
    have gk : Gr (A ++ B1 ++ [L] ++ B') H' [] H'' := gr_same keep
    have sk : So X.K (A ++ B1 ++ [L] ++ B') H'' α' := s'.same keep
    have gk3 : Gr (A ++ B1 ++ [L]) (upd H1 L (.dK [])) B' H'' := by have := g'.trans s' gk; rwa [List.append_nil] at this
    have rk : Rep X.K (A ++ B1 ++ [L] ++ B') H'' σ ρ α' := (rep2.mono gk3 sk)
    have da' : Da X.K (A ++ B1 ++ [L] ++ B') H'' y ds[k] := by rw [← List.append_assoc] at da; exact da
    obtain ⟨ρ', hp, turn'⟩ := turn k ds[k] α' (by simp [hlt]) vk
    refine Tg.ok (σ0 := σ) hi (rep_wipe rk (own.map (·.2))) da' hp (by
      apply List.ext_getElem?
      intro j
      rw [wipe_get, wipe_get, wipe_length]
      by_cases hj : j ∈ own.map (·.2) <;> simp [hj]) fun σ2 rw_ hw2 => ⟨hw2, fun s H0 C cl fp => ?_⟩
    refine turn' s H0 C cl fp _ _ H'' _ rw_ fun b B4 α4 H4 h4 g4 s4 => ?_
    have g5 : Gr (A ++ B1 ++ [L]) (upd H1 L (.dK [])) (B' ++ B4) H4 := gk3.trans sk g4
    have s5 : So X.K (A ++ B1 ++ [L] ++ (B' ++ B4)) H4 α4 := by rw [← List.append_assoc]; exact s4
    show if b = true then _ else _
    cases b with
    | false =>
      rw [if_neg Bool.false_ne_true] at h4 ⊢
      exact ⟨_, α4, h4, g5, s5⟩
    | true =>
      rw [if_pos rfl] at h4 ⊢
      intro s' H0' C' cl' fp'
      have r4 : Rep X.K (A ++ B1 ++ [L] ++ B' ++ B4) H4 σ2 ρ' α4 := rw_.mono g4 s4
      refine h4 s' H0' C' cl' fp' _ _ H4 _ r4 fun v z B5 α5 H5 h5 g6 s6 q6 => ?_
      intro s'' H0'' C'' cl'' fp''
      have r5 : Rep X.K (A ++ B1 ++ [L] ++ B' ++ B4 ++ B5) H5 σ2 ρ' α5 := r4.mono g6 s6
      refine h5 s'' H0'' C'' cl'' fp'' _ _ H5 _ r5 fun v2 u B6 α6 H6 h6 g7 s7 q7 => ?_
      obtain ⟨es, key, rfl, ea, hz, h6⟩ := h6
      have hL : (A ++ B1 ++ [L] ++ B' ++ B4 ++ B5 ++ B6)[α1.length]? = some L := by
        rw [← s1.len]
        simp [List.append_assoc]
      obtain ⟨a', e2, o, e3, xs, rfl, q3⟩ := s7.getC ea
      rw [hL] at e2; cases e2
      obtain ⟨s8, g8⟩ := s7.put (c := .kd (putP es key u)) hL ⟨_, rfl, q3.put q7⟩
      refine ⟨xs, key, kD_inv q6, e3, by rw [q3.len]; exact Nat.lt_of_lt_of_le hz (by decide), B' ++ B4 ++ B5 ++ B6, _, h6, ?_, ?_⟩
      · have ga := (g5.trans s5 (by rw [← List.append_assoc]; exact g6))
        have sa : So X.K (A ++ B1 ++ [L] ++ (B' ++ B4 ++ B5)) H5 α5 := by rw [← List.append_assoc, ← List.append_assoc]; exact s6
        have gb := ga.trans sa (by rw [← List.append_assoc, ← List.append_assoc]; exact g7)
        have sb : So X.K (A ++ B1 ++ [L] ++ (B' ++ B4 ++ B5 ++ B6)) H6 α6 := by rw [← List.append_assoc, ← List.append_assoc, ← List.append_assoc]; exact s7
        have gc := gb.trans sb (by rw [← List.append_assoc, ← List.append_assoc, ← List.append_assoc]; exact g8)
        rwa [List.append_nil] at gc
      · rw [← List.append_assoc, ← List.append_assoc, ← List.append_assoc]; exact s8
  · have e : k = ds.length := by omega
    subst e
    refine .inl ⟨yl'.1 (Nat.le_refl _), con (.ref L) _ (B1 ++ ([L] ++ B')) α' H' (fin α' vk) (g1.trans s1 gt) (by rw [← List.append_assoc]; exact st') (.acc ?_)⟩
    rw [← List.append_assoc, ← s1.len, List.getElem?_append_right (Nat.le_refl _)]
    simp
end
end DH

end

section
/-! DH: defs where no repr is under way; calls with keywords alone. -/
namespace DH
open PySem PySem.Spec PyProof.Rows L2
/-- room, and no repr under way -/
structure RoomG (k : Nat) (A : Around) : Prop where
  r : Room k A
  g : A.guards = some []
theorem RoomG.mono {j k : Nat} {A : Around} (r : RoomG k A) (h : j ≤ k) : RoomG j A := ⟨r.r.mono h, r.g⟩
/-- the promise of a def that is called where no repr is under way -/
structure FnG (P : Program) (w : World) (K : PySem.W.Frag) (mg : Str → Option Value) (base : Heap) (CX : CXT) (k : Nat) (f : Addr) (fd : FuncData) (ps : List Str) (sp : Sp) : Prop where
  many : ∀ vs H Q E, sp vs H Q E → vs.length = ps.length
  go : ∀ (A : Around) (fr : List Env) (s : Shared) (H : Hp) (args : Args) (us : List Value) (vs : List V) (Q : VK) (E : XK), RoomG k A → Env0 P w K mg base A fr s H → BindsTo s fd args (ps.zip us) → Vals vs us → sp vs H Q E →
    codeAny (model P w) A (.call (.ref f) args) (CR CX fr P w H s Q E) s
section
variable {P : Program} {w : World} {K : PySem.W.Frag} {mg : Str → Option Value} {base : Heap} {CX : CXT} {k : Nat} {f : Addr} {fd : FuncData} {ps : List Str} {sp : Sp}
theorem FnG.of (F : FnOk P w K mg base CX k f fd ps sp) : FnG P w K mg base CX k f fd ps sp := ⟨F.len, fun A fr s H args us vs Q E hr => F.run A fr s H args us vs Q E hr.r⟩
theorem FnG.mono {j : Nat} (F : FnG P w K mg base CX j f fd ps sp) (h : j ≤ k) : FnG P w K mg base CX k f fd ps sp := ⟨F.many, fun A fr s H args us vs Q E hr => F.go A fr s H args us vs Q E (hr.mono h)⟩
/-- a def by its body -/
theorem FnG.body {x qual : Str} {st : Stmt} {N : List Str} (F : Fun K x qual st f fd) (Sc : FnScope N ps (defScope st)) (many : ∀ vs H Q E, sp vs H Q E → vs.length = ps.length)
    (hb : ∀ (cdv : Value) (A : Around) (fr : List Env) (s : Shared) (H : Hp) (vs : List V) (Q : VK) (E : XK), RoomG k (A.deeper (envOfC qual (defScope st) s.heap.objs.size f cdv)) → sp vs H Q E →
      ∃ t, PSs (cxOf CX P w K mg base N qual (defScope st) f cdv A fr s H E) (defBody st) t ∧ t { nx := fun _ H' => Q .non H', rt := Q } (L2.start N vs) H) : FnG P w K mg base CX (k + 1) f fd ps sp := by
  obtain ⟨oc, od, kV, doc, pm, an, cdv, ct, osl, rfl, look, code⟩ := F.ex
  refine ⟨many, fun A fr s H args us vs Q E hr env bd rel wish => ?_⟩
  have hlen := many _ _ _ _ wish
  have inK : K.In s.heap := env.mod.kin.keeps fun b o e => (env.bs b o e).1
  have nolim : s.heap.NoLimit := env.mod.nolimit.keeps fun b o e => (env.bs b o e).1
  have kinds : ∀ y ∈ ps.zip us, (defScope st).names.lookup y.1 = some .local ∨ ((defScope st).names.lookup y.1 = some .cell ∧ ((cellsFrom (s.heap.objs.size + 1) (defScope st).names []).lookup y.1).isSome = true) := by
    rintro ⟨m, u⟩ hy
    exact (Sc.par m (List.of_mem_zip hy).1).imp id fun q => ⟨q, PySem.W.cellsFrom_some _ _ _ (.inl q)⟩
  refine codeAny_call_function hr.r.depth (inK _ _ look) rfl Sc.co Sc.gen rfl (PySem.W.codeRec_of inK code) (bd _ _ _ _ ?_)
  refine wpAny_newFunctionEnv_cells Sc.kind kinds fun env' he s1 x => ?_
  subst he
  refine ⟨nolim.keeps x.toInCall.keep, codeAny_func ?_⟩
  obtain ⟨t, ht, hq⟩ := hb cdv A fr s H vs Q E ⟨hr.r.deeper _, hr.g⟩ wish
  have I := inv_start (CX := CX) (E := E) Sc hr.r.hd env hlen rel x
  refine wpAny_mono (ht.run [] s1 _ H _ I hq) (fun fl s' hs => ?_) fun _ _ hs => hs
  cases fl with
  | next => obtain ⟨σ', H', J, q⟩ := hs; exact ⟨V.non, H', J.os, J.bare, J.base, J.hok, rfl, q⟩
  | ret u => obtain ⟨v, σ', H', J, rv, q⟩ := hs; exact ⟨v, H', J.os, J.bare, J.base, J.hok, rv, q⟩
  | brk => obtain ⟨_, _, _, q⟩ := hs; exact q.elim
  | cont => obtain ⟨_, _, _, q⟩ := hs; exact q.elim
end
/-- the rule for a def, no repr under way -/
theorem fn_defG {P : Program} {w : World} {K : PySem.W.Frag} {mg : Str → Option Value} {base : Heap} {x qual : Str} {st : Stmt} {f : Addr} {fd : FuncData} {N ps : List Str} {k : Nat} {S : FSpec}
    (F : Fun K x qual st f fd) (Sc : FnScope N ps (defScope st)) (hlen : ∀ ds α R, S ds α R → ds.length = ps.length)
    (body : ∀ (cdv : Value) (A : Around) (outer : List Env) (s : Shared) (H : Hp) (E : XK), RoomG k (A.deeper (envOfC qual (defScope st) s.heap.objs.size f cdv)) → ∀ ds α R, S ds α R → NaS α.length α → nas α.length ds = true →
      DSs (bodyX P w K mg base N qual st f cdv A outer s H E) α.length (defBody st) (startR N ds) α ⟨fun _ α' => R .non α', R, fun _ _ => False, fun _ _ => False⟩) : FnG P w K mg base CX0 (k + 1) f fd ps (SpD K S) := by
  refine FnG.body F Sc (fun vs H Q E h => ?_) fun cdv A outer s H vs Q E hr h => ?_
  · obtain ⟨A, ds, α, R, _, q, hS, _⟩ := h
    rw [q.length]
    exact hlen ds α R hS
  · obtain ⟨A', ds, α, R, so, q, hS, con⟩ := h
    have hna : nas α.length ds = true := by rw [← so.len]; exact q.na
    refine ⟨wpSs (bodyX P w K mg base N qual st f cdv A outer s H E) (defBody st), pss_wp.nox, body cdv A outer s H E hr ds α R hS so.na hna A' H _ [] _ H ⟨so.len, Gr.refl A' H, ⟨by rw [List.append_nil]; exact so, ?_, fun i d hd => ?_⟩, ?_⟩⟩
    · show (L2.start N vs).length = (startR N ds).length
      unfold L2.start startR
      simp [q.length]
    · unfold startR at hd
      obtain ⟨v, hv, qv⟩ := das_start q hd
      refine ⟨v, ?_, by rw [List.append_nil]; exact qv⟩
      show (L2.start N vs)[i]? = _
      unfold L2.start
      rw [q.length]
      exact hv
    · exact ⟨fun ρ α' B σ H' h g r => con .non .non B α' H' h g r.so .non, fun d α' B v H' h g s q => con v d B α' H' h g s q, fun _ _ _ _ _ h => h.elim, fun _ _ _ _ _ h => h.elim⟩
/-- the def of the name x keeps S, no repr being under way -/
structure FxG (P : Program) (w : World) (K : PySem.W.Frag) (mg : Str → Option Value) (base : Heap) (k : Nat) (x : Str) (ps : List Str) (S : FSpec) : Prop where
  ex : ∃ f fd, FnG P w K mg base CX0 k f fd ps (SpD K S) ∧ mg x = some (.ref f) ∧ PySem.W.keepIn K (.ref f) = true ∧ Binds K fd ps []
theorem FxG.of {P : Program} {w : World} {K : PySem.W.Frag} {mg : Str → Option Value} {base : Heap} {x : Str} {f : Addr} {fd : FuncData} {ps : List Str} {k : Nat} {S : FSpec}
    (F : FnG P w K mg base CX0 k f fd ps (SpD K S)) (hm : mg x = some (.ref f)) (hk : PySem.W.keepIn K (.ref f) = true) (hb : Binds K fd ps []) : FxG P w K mg base k x ps S := ⟨f, fd, F, hm, hk, hb⟩
theorem FxG.mono {P : Program} {w : World} {K : PySem.W.Frag} {mg : Str → Option Value} {base : Heap} {j k : Nat} {x : Str} {ps : List Str} {S : FSpec} (F : FxG P w K mg base j x ps S) (h : j ≤ k) : FxG P w K mg base k x ps S := by
  obtain ⟨f, fd, h1, h2, h3, h4⟩ := F.ex
  exact ⟨f, fd, h1.mono h, h2, h3, h4⟩
section
variable {X : Cx} {ρ : Rho} {α : Sto} {R : RE} {e : Expr} {es : List Expr} {pos p : Pos} {x : Str}
def tCallG (sp : Sp) (t : TA) : TE := fun σ H Q => t σ H fun vs H1 => sp vs H1 Q E0
theorem run_fnG {pins : List (Addr × Obj)} {σ : L2.St} {H : Hp} {s : Shared} {Q : VK} {us : List Value} {vs : List V} {k : Nat} {f : Addr} {fd : FuncData} {ps : List Str} {sp : Sp} (F : FnG X.prog X.w X.K X.mg X.base CX0 k f fd ps sp) (hr : RoomG k X.A) (hb : Binds X.K fd ps [])
    (I : Inv X pins σ H s) (r : Vals vs us) (h : sp vs H Q E0) : wpAny (model X.prog X.w) X.A (call (.ref f) us) (EP X pins σ Q) X.xe s := by
  have bd := hb s us I.kIn (by rw [List.append_nil, ← r.length]; exact F.many _ _ _ _ h)
  rw [List.append_nil] at bd
  refine wpAny_call (codeAny_mono (F.go X.A X.stack s H _ us vs Q E0 hr I.env0 bd r h) fun res s' hq => ?_)
  cases res with
  | error e => exact hq.elim
  | ok fl => cases fl with
    | ret u => exact I.after hq
    | _ => exact hq.elim
theorem pe_callG {k : Nat} {f : Addr} {fd : FuncData} {ps : List Str} {sp : Sp} {t : TA} (F : FnG X.prog X.w X.K X.mg X.base CX0 k f fd ps sp) (hr : RoomG k X.A) (hg : Gl X x) (hm : X.mg x = some (.ref f)) (hk : PySem.W.keepIn X.K (.ref f) = true) (hb : Binds X.K fd ps [])
    (ha : PA X (e :: es) t) (hdb : (x == ("__debug__" : Str)) = false := by decide) (he : starEach (e :: es) X.env = (false, eval e X.env) :: starEach es X.env := by rfl) (hpl : (backTo pos (starEach es X.env)).any (·.1) = false := by rfl) :
    PE X (.Call (.Name x p) (e :: es) [] pos) (tCallG sp t) := by
  refine ⟨fun pins s σ H Q I h => wpAny_Call_Name_kw (ld_glob I hg hm ?_ hdb)⟩
  exact PySem.W.callWith_K (h₀ := X.base) I.ok.mod.kin hk (thn (ha.run pos pins s σ H _ I h) fun us s1 ⟨vs, H1, I1, r, q⟩ => ⟨I1.kIn, run_fnG F hr hb I1 r q⟩) he hpl
theorem de_callG {k : Nat} {ps : List Str} {S : FSpec} (F : FxG X.prog X.w X.K X.mg X.base k x ps S) (hr : RoomG k X.A) (hg : Gl X x) (h : DA X (e :: es) ρ α fun ds α1 => S ds α1 R)
    (hdb : (x == ("__debug__" : Str)) = false := by decide) (he : starEach (e :: es) X.env = (false, eval e X.env) :: starEach es X.env := by rfl) (hpl : (backTo pos (starEach es X.env)).any (·.1) = false := by rfl) :
    DE X (.Call (.Name x p) (e :: es) [] pos) ρ α R := by
  intro A σ H Q rep con
  obtain ⟨f, fd, h1, h2, h3, h4⟩ := F.ex
  refine wp_of (pe_callG h1 hr hg h2 h3 h4 pa_wp hdb he hpl) (h A σ H _ rep fun vs ds B α1 H1 h5 g s q => ?_)
  exact ⟨A ++ B, ds, α1, R, s, q, h5, con.step g s⟩
/-! ### keywords alone -/
/-- the keywords' values -/
def wpK (X : Cx) (kws : List Keyword) : TA := fun σ H Q => ∀ pos pins s, Inv X pins σ H s → wpAny (model X.prog X.w) X.A (evalAll ((backToKw pos (keywordEach kws X.env)).map (·.2))) (AP X pins σ Q) X.xe s
theorem pk_wp {kws : List Keyword} : PK X kws (wpK X kws) := ⟨fun pos pins s _ _ _ I h => h pos pins s I⟩
theorem wpk_of {kws : List Keyword} {t : TA} {σ : L2.St} {H : Hp} {Q : List V → Hp → Prop} (h : PK X kws t) (q : t σ H Q) : wpK X kws σ H Q := fun pos pins s I => h.run pos pins s σ H Q I q
def DK (X : Cx) (kws : List Keyword) (ρ : Rho) (α : Sto) (R : List D → Sto → Prop) : Prop := ∀ A σ H Q, Rep X.K A H σ ρ α → ConA X.K A H R Q → wpK X kws σ H Q
theorem dk_nil {R : List D → Sto → Prop} (hR : R [] α) : DK X [] ρ α R := fun A σ H Q rep con => wpk_of pk_nil (con.now rep.so .nil hR)
theorem dk_cons {R : List D → Sto → Prop} {kws : List Keyword} {nm : Option Str} {kpos : Pos} (h : DE X e ρ α fun d α1 => DK X kws ρ α1 fun ds α2 => R (d :: ds) α2) : DK X (⟨nm, e, kpos⟩ :: kws) ρ α R := by
  intro A σ H Q rep con
  refine wpk_of (pk_cons pe_wp pk_wp) (h A σ H _ rep fun v d B α' H' h1 g s q => ?_)
  refine h1 _ σ H' _ (rep.mono g s) fun vs ds B2 α2 H2 h2 g2 s2 q2 => ?_
  exact ((con.step g s).step g2 s2).now s2 (.cons (q.mono g2) q2) h2
/-- how keywords alone bind: in the parameters' order -/
def BindsK (K : PySem.W.Frag) (fd : FuncData) (ps ks : List Str) : Prop := ∀ (s : Shared) (ws : List Value), K.In s.heap → ws.length = ps.length → BindsTo s fd ⟨[], ks.zip ws⟩ (ps.zip ws)
def tCallKG (sp : Sp) (t : TA) : TE := fun σ H Q => t σ H fun vs H1 => sp vs H1 Q E0
theorem run_fnKG {pins : List (Addr × Obj)} {σ : L2.St} {H : Hp} {s : Shared} {Q : VK} {ws : List Value} {vs : List V} {k : Nat} {f : Addr} {fd : FuncData} {ps ks : List Str} {sp : Sp} (F : FnOk X.prog X.w X.K X.mg X.base CX0 k f fd ps sp) (hr : Room k X.A) (hb : BindsK X.K fd ps ks)
    (I : Inv X pins σ H s) (r : Vals vs ws) (h : sp vs H Q E0) : wpAny (model X.prog X.w) X.A (call (.ref f) [] (ks.zip ws)) (EP X pins σ Q) X.xe s := by
  have hl : ws.length = ps.length := by rw [← r.length]; exact F.len _ _ _ _ h
  refine wpAny_call (codeAny_mono (F.run X.A X.stack s H _ ws vs Q E0 hr I.env0 (hb s ws I.kIn hl) r h) fun res s' hq => ?_)
  cases res with
  | error e => exact hq.elim
  | ok fl => cases fl with
    | ret u => exact I.after hq
    | _ => exact hq.elim
theorem pe_callKG {k : Nat} {f : Addr} {fd : FuncData} {ps ks : List Str} {sp : Sp} {t : TA} {kws : List Keyword} (F : FnOk X.prog X.w X.K X.mg X.base CX0 k f fd ps sp) (hr : Room k X.A) (hg : Gl X x) (hm : X.mg x = some (.ref f)) (hk : PySem.W.keepIn X.K (.ref f) = true) (hb : BindsK X.K fd ps ks)
    (ha : PK X kws t) (hall : (backToKw pos (keywordEach kws X.env)).all (·.1.isSome) = true := by rfl) (hks : (backToKw pos (keywordEach kws X.env)).filterMap (·.1) = ks := by rfl) (hdb : (x == ("__debug__" : Str)) = false := by decide)
    (hpl : ((backTo pos (starEach [] X.env)).any (·.1) || (backToKw pos (keywordEach kws X.env)).any (·.1.isNone)) = false := by rfl) : PE X (.Call (.Name x p) [] kws pos) (tCallKG sp t) := by
  refine ⟨fun pins s σ H Q I h => wpAny_Call_Name_kw (ld_glob I hg hm ?_ hdb)⟩
  refine PySem.W.callWith_KW0 (h₀ := X.base) I.ok.mod.kin hk hall (thn (ha.run pos pins s σ H _ I h) fun ws s1 ⟨vs, H1, I1, r, q⟩ => ⟨I1.kIn, ?_⟩) hpl
  rw [hks]
  exact run_fnKG F hr hb I1 r q
/-- x(k = e, ..) -/
theorem de_callK {k : Nat} {ps ks : List Str} {S : FSpec} {kws : List Keyword} (F : Fx X.prog X.w X.K X.mg X.base k x ps S) (hb : ∀ f fd, X.mg x = some (.ref f) → Binds X.K fd ps [] → FnOk X.prog X.w X.K X.mg X.base CX0 k f fd ps (SpD X.K S) → BindsK X.K fd ps ks) (hr : Room k X.A) (hg : Gl X x) (h : DK X kws ρ α fun ds α1 => S ds α1 R)
    (hall : (backToKw pos (keywordEach kws X.env)).all (·.1.isSome) = true := by rfl) (hks : (backToKw pos (keywordEach kws X.env)).filterMap (·.1) = ks := by rfl) (hdb : (x == ("__debug__" : Str)) = false := by decide)
    (hpl : ((backTo pos (starEach [] X.env)).any (·.1) || (backToKw pos (keywordEach kws X.env)).any (·.1.isNone)) = false := by rfl) : DE X (.Call (.Name x p) [] kws pos) ρ α R := by
  intro A σ H Q rep con
  obtain ⟨f, fd, h1, h2, h3, h4⟩ := F.ex
  refine wp_of (pe_callKG h1 hr hg h2 h3 (hb f fd h2 h4 h1) pk_wp hall hks hdb hpl) (h A σ H _ rep fun vs ds B α1 H1 h5 g s q => ?_)
  exact ⟨A ++ B, ds, α1, R, s, q, h5, con.step g s⟩
end
/-- the def of the name x, called by keywords in the parameters' order -/
structure FxK (P : Program) (w : World) (K : PySem.W.Frag) (mg : Str → Option Value) (base : Heap) (k : Nat) (x : Str) (ps : List Str) (S : FSpec) : Prop where
  ex : ∃ f fd, FnOk P w K mg base CX0 k f fd ps (SpD K S) ∧ mg x = some (.ref f) ∧ PySem.W.keepIn K (.ref f) = true ∧ BindsK K fd ps ps
theorem FxK.mono {P : Program} {w : World} {K : PySem.W.Frag} {mg : Str → Option Value} {base : Heap} {j k : Nat} {x : Str} {ps : List Str} {S : FSpec} (F : FxK P w K mg base j x ps S) (h : j ≤ k) : FxK P w K mg base k x ps S := by
  obtain ⟨f, fd, h1, h2, h3, h4⟩ := F.ex
  exact ⟨f, fd, h1.mono h, h2, h3, h4⟩
theorem de_callKw {X : Cx} {ρ : Rho} {α : Sto} {R : RE} {pos p : Pos} {x : Str} {k : Nat} {ps : List Str} {S : FSpec} {kws : List Keyword} (F : FxK X.prog X.w X.K X.mg X.base k x ps S) (hr : Room k X.A) (hg : Gl X x) (h : DK X kws ρ α fun ds α1 => S ds α1 R)
    (hall : (backToKw pos (keywordEach kws X.env)).all (·.1.isSome) = true := by rfl) (hks : (backToKw pos (keywordEach kws X.env)).filterMap (·.1) = ps := by rfl) (hdb : (x == ("__debug__" : Str)) = false := by decide)
    (hpl : ((backTo pos (starEach [] X.env)).any (·.1) || (backToKw pos (keywordEach kws X.env)).any (·.1.isNone)) = false := by rfl) : DE X (.Call (.Name x p) [] kws pos) ρ α R := by
  intro A σ H Q rep con
  obtain ⟨f, fd, h1, h2, h3, h4⟩ := F.ex
  refine wp_of (pe_callKG h1 hr hg h2 h3 h4 pk_wp hall hks hdb hpl) (h A σ H _ rep fun vs ds B α1 H1 h5 g s q => ?_)
  exact ⟨A ++ B, ds, α1, R, s, q, h5, con.step g s⟩
/-! ### the end of a law whose def is called where no repr is under way -/
theorem lawG {P : Program} {w : World} {K : PySem.W.Frag} {mg mb : Str → Option Value} {k : Nat} {fa a : Addr} {fd : FuncData} {x : Str} {sp : Sp} {st : Shared} {vs : List Value} {ns : List Int}
    (inK : K.In st.heap) (gl : st.heap.Ns mainGlobals mg) (bl : st.heap.Ns builtinsNs mb) (blb : ∀ x : Str, x ≠ "__name__" → mb x = bootBuiltins x) (lim : st.heap.NoLimit) (nog : st.gens = #[])
    (scr : st.heap.get? a = some { cls := .type "list", data := .seq vs.toArray }) (isI : IntsAre vs ns) (few : ns.length ≤ sizeLine) (hr : RoomG k callerA)
    (F : ∀ base : Heap, K.In base → base.Ns mainGlobals mg → FnG P w K mg base CX0 k fa fd [x] sp) (bd : ∀ (s : Shared) (u : Value), BindsTo s fd ⟨[u], []⟩ [(x, u)])
    (wish : ∀ H : Hp, Only H → SqL K H a (ns.map V.int) → sp [.ref a] H (fun v _ => v = .bl true) E0) :
    codeAny (model P w) callerA (.call (.ref fa) ⟨[.ref a], []⟩) (fun r s' => r = .ok (.ret (.bool true)) ∧ OldK st.heap s'.heap ∧ s'.os = st.os ∧ AllBare s'.gens) st := by
  have main : ∀ H : Hp, Only H → SqL K H a (ns.map V.int) → HOk P w H st.heap → (∀ b, H b ≠ none → b = a) → (H a ≠ none → K.lookup a = none) →
      codeAny (model P w) callerA (.call (.ref fa) ⟨[.ref a], []⟩) (fun r s' => r = .ok (.ret (.bool true)) ∧ OldK st.heap s'.heap ∧ s'.os = st.os ∧ AllBare s'.gens) st := by
    intro H only sq ok one notK
    have same : ∀ {b : Addr}, H b ≠ none → b = a := fun h => one _ h
    have dicts : ∀ {b : Addr} {o : Obj} {es : Array DictEntry} {ep : Nat}, st.heap.get? b = some o → o.data = .dict es ep → H b = none := by
      intro b o es ep e hd
      by_cases h : H b = none
      · exact h
      · have hb := same h
        rw [hb, scr] at e
        cases e
        cases hd
    have spaces : ∀ {b : Addr} {m : Str → Option Value}, st.heap.Ns b m → (hidT st.heap H).Ns b m := by
      rintro b m ⟨o, es, ep, e, hd, r⟩
      exact ⟨o, es, ep, hidT_get e (dicts e hd), hd, r⟩
    have inK' : K.In (hidT st.heap H) := by
      intro b o e
      refine hidT_get (inK b o e) ?_
      by_cases h : H b = none
      · exact h
      · have hb := same h
        rw [hb] at e h
        rw [notK h] at e
        cases e
    have md : Mod K mg (hidT st.heap H) := ⟨inK', spaces gl, ⟨mb, spaces bl, blb⟩, let ⟨mc, h1, h2⟩ := lim; ⟨mc, spaces h1, h2⟩⟩
    have env : Env0 P w K mg (hidT st.heap H) callerA [] st H := ⟨rfl, md, fun b o e => of_hidT e, Nat.le_of_eq (hidT_size _ _), trivial, fun b hb => absurd (show b ∈ ([] : List Addr) from hb) (by simp), ok, .of_eq nog⟩
    have run := (F _ inK' (spaces gl)).go callerA [] st H ⟨[.ref a], []⟩ [.ref a] [.ref a] _ _ hr env (bd st (.ref a)) (.cons rfl .nil) (wish H only sq)
    refine codeAny_mono run fun res s' h => ?_
    match res, h with
    | .error e, h => exact h.elim
    | .ok .next, h => exact h.elim
    | .ok .brk, h => exact h.elim
    | .ok .cont, h => exact h.elim
    | .ok (.ret u), ⟨v, H', os, bare, un, ok', r', q⟩ =>
      have q' : v = .bl true := q
      subst q'
      obtain rfl : u = Value.bool true := r'
      refine ⟨rfl, OldK.of_keep fun b o e => ?_, os, bare⟩
      cases hb : H b with
      | none => exact un.keep b o e hb (by intro z; exact absurd (show b ∈ ([] : List Addr) from z) (by simp)) (by simp)
      | some u =>
        rcases only b with z | ⟨ob, xs, z⟩
        · rw [hb] at z; cases z
        · have e1 := (ok b _ z).1
          have e2 := (ok' b _ (un.frzs b ob _ z)).1
          rw [e] at e1
          cases e1
          exact e2
  have rel := vals_ints isI
  cases hk : K.lookup a with
  | some o =>
    have e := inK a o hk
    rw [scr] at e
    cases e
    refine main (fun _ => none) (fun _ => .inl rfl) (.inr ⟨_, vs.toArray, _, hk, rfl, rfl, rfl, by rw [List.size_toArray, isI.length]; exact few, by simpa using rel⟩) ?_ (fun b z => absurd rfl z) fun z => absurd rfl z
    intro b u z
    exact nomatch (show (none : Option HO) = some u from z)
  | none =>
    have there : ∀ b : Addr, b = a → (fun b => if b = a then some (HO.frz { cls := .type "list", data := .seq vs.toArray } (.lst (ns.map V.int))) else none) b = some (HO.frz { cls := .type "list", data := .seq vs.toArray } (.lst (ns.map V.int))) := fun b hb => if_pos hb
    have off : ∀ b : Addr, ¬ b = a → (fun b => if b = a then some (HO.frz { cls := .type "list", data := .seq vs.toArray } (.lst (ns.map V.int))) else none) b = none := fun b hb => if_neg hb
    refine main (fun b => if b = a then some (.frz { cls := .type "list", data := .seq vs.toArray } (.lst (ns.map V.int))) else none) (fun b => ?_) (.inl (.inr ⟨_, there a rfl⟩)) (fun b u z => ?_) (fun b z => ?_) fun _ => hk
    · by_cases hb : b = a
      · exact .inr ⟨_, _, there b hb⟩
      · exact .inl (off b hb)
    · by_cases hb : b = a
      · have z' := (there b hb).symm.trans z
        cases z'
        subst hb
        exact ⟨scr, by rw [List.length_map]; exact few, vs, _, rel, scr⟩
      · exact nomatch (off b hb).symm.trans z
    · by_cases hb : b = a
      · exact hb
      · exact absurd (off b hb) z
/-- the head's goal, from the law's promise -/
theorem walkG {l : PySem.W.OpenLaw} {n k : Nat} {q : Program} {loose : List Str} {XP : (Str → Option Value) → Heap → Prop} {YP : World → Heap → Prop} {d : DefRec} {K : Params → PySem.W.Frag} {sp : World → Sp} {x : Str}
    (hn : l.most = some n) (hn2 : n ≤ sizeLine) (hdf : d.params.defaults = []) (hr : RoomG k callerA) (hY : ∀ (w : World) (h : Heap), YP w h → (K w.params).In h)
    (F : ∀ (w : World) (mg : Str → Option Value) (fa : Addr) (h : Heap), (K w.params).In h → h.Ns mainGlobals mg → mg d.name = some (.ref fa) →
      ∃ fd : FuncData, (∀ (s : Shared) (u : Value), BindsTo s fd ⟨[u], []⟩ [(x, u)]) ∧ ∀ base : Heap, (K w.params).In base → base.Ns mainGlobals mg → FnG l.prog w (K w.params) mg base CX0 k fa fd [x] (sp w))
    (hsp : ∀ (w : World) (H : Hp) (a : Addr) (ns : List Int), ns.length ≤ n → Only H → SqL (K w.params) H a (ns.map V.int) → sp w [.ref a] H (fun v _ => v = .bl true) E0) :
    PySem.W.WalkO q loose XP YP l.row.toRowW d [] (fun f vs => PySem.call f vs) := by
  refine Att.attach_call hn hdf fun w s₀ s₁ mg mb fa o pm cd doc a vs ns G Y ho hd hcd hmg hobj hints hlen hg => ?_
  obtain ⟨fd, hb, hF⟩ := F w mg fa _ (hY w _ Y) G.T.g hmg
  exact lawG (hY w _ Y) G.T.g G.T.b G.T.builtins G.T.nolimit hg hobj hints (Nat.le_trans hlen hn2) hr hF hb fun H hO hS => hsp w H a ns hlen hO hS
end DH

end

section
/-! DH: repr; zip; ranges with a step. -/
namespace DH
open PySem PySem.Spec PyProof.Rows L2
/-! ### how long a repr is -/
mutual
def rw : PyData → Nat
  | .none => 4
  | .bool _ => 5
  | .int _ => 20
  | .str x => (reprText x).length
  | .list xs => 2 + rws xs
  | .tuple xs => 3 + rws xs
  | .dict _ => 0
def rws : List PyData → Nat
  | [] => 0
  | x :: xs => rw x + 2 + rws xs
end
mutual
/-- no dicts; ints that are not great -/
def rok : PyData → Bool
  | .none => true
  | .bool _ => true
  | .int i => decide (i.natAbs < 10 ^ 18)
  | .str _ => true
  | .list xs => roks xs
  | .tuple xs => roks xs
  | .dict _ => false
def roks : List PyData → Bool
  | [] => true
  | x :: xs => rok x && roks xs
end
theorem log_small {n : Nat} (h : n < 10 ^ 18) : n.log2 < 1920 := by
  rcases Nat.eq_zero_or_pos n with rfl | hp
  · decide
  · have := (Nat.log2_lt (k := 60) (by omega)).mpr (Nat.lt_of_lt_of_le h (by decide))
    omega
theorem textFrom_le : ∀ (ts : List Str) (k : Nat) (acc : Str), (textFrom k acc ts).length ≤ acc.length + piled ts
  | [], k, acc => Nat.le_add_right _ _
  | t :: r, k, acc => by
    have ih := textFrom_le r (k + 1) (acc ++ (if k > 0 then ", " else "" : String) ++ t)
    have e : (acc ++ (if k > 0 then ", " else "" : String) ++ t).length ≤ acc.length + 2 + t.length := by
      rw [strLen_append, strLen_append]
      have : ((if k > 0 then ", " else "" : String) : Str).length ≤ 2 := by split <;> decide
      omega
    rw [piled_cons]
    show (textFrom (k + 1) _ r).length ≤ _
    omega
theorem listText_le (ts : List Str) : (listText ts).length ≤ 2 + piled ts := by
  unfold listText
  have := textFrom_le ts 0 "["
  rw [strLen_append]
  have e1 : (("[" : String) : Str).length = 1 := rfl
  have e2 : (("]" : String) : Str).length = 1 := rfl
  rw [e1] at this
  rw [e2]
  omega
theorem tupleText_le (ts : List Str) : (tupleText ts).length ≤ 3 + piled ts := by
  unfold tupleText
  rw [strLen_append, strLen_append]
  have e1 : (("(" : String) : Str).length = 1 := rfl
  have e2 : ((if ts.length == 1 then ",)" else ")" : String) : Str).length ≤ 2 := by split <;> decide
  rw [e1]
  by_cases h : ts = []
  · subst h
    have : (Str.join ", " []).length = 0 := rfl
    rw [this]
    omega
  · have := join_length_add ts h
    omega
mutual
theorem shown_le : ∀ p : PyData, rok p = true → p.shown.length ≤ DH.rw p
  | .none, _ => by simp only [PyData.shown, DH.rw]; decide
  | .bool b, _ => by cases b <;> simp only [PyData.shown, DH.rw] <;> decide
  | .int i, h => by
    simp only [PyData.shown, DH.rw]
    have e := int_text_length_le10 (a := i) (k := 18) (by decide) (by simpa [rok] using h)
    rw [PySem.ofString_length]
    omega
  | .str x, _ => by simp only [PyData.shown, DH.rw]; exact Nat.le_refl _
  | .list xs, h => by
    simp only [PyData.shown, DH.rw]
    exact Nat.le_trans (listText_le _) (Nat.add_le_add_left (shownAll_le xs (by simpa only [rok] using h)) 2)
  | .tuple xs, h => by
    simp only [PyData.shown, DH.rw]
    exact Nat.le_trans (tupleText_le _) (Nat.add_le_add_left (shownAll_le xs (by simpa only [rok] using h)) 3)
  | .dict _, h => by simp [rok] at h
theorem shownAll_le : ∀ xs : List PyData, roks xs = true → piled (PyData.shownAll xs) ≤ rws xs
  | [], _ => by simp [PyData.shownAll, rws, piled]
  | x :: xs, h => by
    simp only [roks, Bool.and_eq_true] at h
    have h1 := shown_le x h.1
    have h2 := shownAll_le xs h.2
    simp only [PyData.shownAll, rws, piled_cons]
    omega
end
mutual
theorem rok_show : ∀ p : PyData, rok p = true → p.showable = true ∧ p.hasDict = false
  | .none, _ => by simp [PyData.showable, PyData.hasDict]
  | .bool _, _ => by simp [PyData.showable, PyData.hasDict]
  | .int i, h => by
    have : i.natAbs < 10 ^ 18 := by simpa [rok] using h
    simp only [PyData.showable, PyData.hasDict, decide_eq_true_eq, and_true]
    exact log_small this
  | .str _, _ => by simp [PyData.showable, PyData.hasDict]
  | .list xs, h => by
    simp only [PyData.showable, PyData.hasDict]
    exact roks_show xs (by simpa only [rok] using h)
  | .tuple xs, h => by
    simp only [PyData.showable, PyData.hasDict]
    exact roks_show xs (by simpa only [rok] using h)
  | .dict _, h => by simp [rok] at h
theorem roks_show : ∀ xs : List PyData, roks xs = true → PyData.showableAll xs = true ∧ PyData.hasDictAll xs = false
  | [], _ => by simp [PyData.showableAll, PyData.hasDictAll]
  | x :: xs, h => by
    simp only [roks, Bool.and_eq_true] at h
    have h1 := rok_show x h.1
    have h2 := roks_show xs h.2
    simp [PyData.showableAll, PyData.hasDictAll, h1, h2]
end
section
variable {X : Cx}
def rRepr (K : PySem.W.Frag) : List V → Hp → VK → Prop := fun xs H Q => ∃ x p, xs = [x] ∧ Dp K H x p ∧ rok p = true ∧ DH.rw p ≤ 1000000 ∧ p.depth ≤ 40 ∧ Q (.str p.shown) H
theorem call_reprD {k : Nat} (hr : RoomG k X.A) : CallR X (.builtin "repr") (rRepr X.K) := by
  intro pins s σ H xs us Q I r h
  obtain ⟨x, p, rfl, hd, hk, hz, hdep, q⟩ := h
  obtain ⟨u, rfl, ru⟩ := vals1 r
  obtain ⟨as, rd⟩ := Dp.reads I _ _ _ hd ru
  have hs := rok_show p hk
  have hsz : p.shown.length ≤ sizeLine := Nat.le_trans (shown_le p hk) (Nat.le_trans hz (by decide))
  have un := hr.r.un
  cases rd with
  | none => exact PySem.P.repr_of_none ⟨.str _, H, I.tok _, ⟨_, rfl⟩, q⟩
  | bool b => exact PySem.P.repr_of_bool ⟨.str _, H, I.tok _, ⟨_, rfl⟩, by cases b <;> exact q⟩
  | int i t => exact PySem.P.repr_of_int (by have := hs.1; simpa only [PyData.showable, decide_eq_true_eq] using this) ⟨.str _, H, I.tok _, ⟨_, rfl⟩, q⟩
  | str y t => exact PySem.P.repr_of_str ⟨.str _, H, I.tok _, ⟨_, rfl⟩, q⟩ (by simpa only [PyData.shown] using hsz)
  | _ => exact repr_of_reads' (by constructor <;> assumption) hs.1 (PyData.noDict_hsm hs.2) hr.g (by omega) (fun _ _ e => e) (fun h' u tk hk' => ⟨.str _, H, I.kept hk', ⟨_, rfl⟩, q⟩) hsz
end
end DH

end

section
/-! DH: repr by trees; zip; ranges with a step; max, min. -/
namespace DH
open PySem PySem.Spec PyProof.Rows L2
section
variable {K : PySem.W.Frag} {α : Sto} {R : RE} {d : D}
theorem cd_repr {p : PyData} (h1 : Py α d p) (h2 : rok p = true) (h3 : DH.rw p ≤ 1000000) (h4 : p.depth ≤ 40) (h : R (.str p.shown) α) : CD K (rRepr K) [d] α R := by
  intro A H xs s q Q c
  cases q with
  | cons q r =>
    cases r
    exact ⟨_, p, rfl, py_dp s h1 q, h2, h3, h4, c.now s (.str _) h⟩
/-- max, min of ints -/
theorem cd_max {ns : List Int} (hc : cont α d = some (ns.map D.int)) (ht : isT d = false) (hne : 0 < ns.length) (h : ∀ m, m ∈ ns → (∀ j ∈ ns, j ≤ m) → R (.int m) α) : CD K (rMax K) [d] α R := by
  intro A H xs s q Q c
  cases q with
  | cons q r =>
    cases r
    obtain ⟨a, ys, rfl, hs, rr⟩ := readSeq s q hc
    rcases hs with ⟨_, hs⟩ | ⟨z, _⟩
    · rw [das_ints rr] at hs
      exact ⟨a, ns, rfl, hs, hne, fun m h1 h2 => c.now s (.int m) (h m h1 h2)⟩
    · rw [ht] at z; cases z
theorem cd_min {ns : List Int} (hc : cont α d = some (ns.map D.int)) (ht : isT d = false) (hne : 0 < ns.length) (h : ∀ m, m ∈ ns → (∀ j ∈ ns, m ≤ j) → R (.int m) α) : CD K (rMin K) [d] α R := by
  intro A H xs s q Q c
  cases q with
  | cons q r =>
    cases r
    obtain ⟨a, ys, rfl, hs, rr⟩ := readSeq s q hc
    rcases hs with ⟨_, hs⟩ | ⟨z, _⟩
    · rw [das_ints rr] at hs
      exact ⟨a, ns, rfl, hs, hne, fun m h1 h2 => c.now s (.int m) (h m h1 h2)⟩
    · rw [ht] at z; cases z
/-- texts that are compared -/
theorem od_neS {x y : Str} (h : R (.bl (!decide (x = y))) α) : OD K rNe (.str x) (.str y) α R := fun A H u v s q1 q2 Q c => by
  rw [q1.str_inv, q2.str_inv]
  refine ⟨rfl, ?_⟩
  have : decide (V.str x = V.str y) = decide (x = y) := decide_eq_decide.mpr ⟨fun h => V.str.inj h, fun h => by rw [h]⟩
  rw [this]
  exact c.now s (.bl _) h
theorem od_eqS' {x y : Str} (h : R (.bl (decide (x = y))) α) : OD K rEq (.str x) (.str y) α R := fun A H u v s q1 q2 Q c => by
  rw [q1.str_inv, q2.str_inv]
  refine ⟨rfl, ?_⟩
  have : decide (V.str x = V.str y) = decide (x = y) := decide_eq_decide.mpr ⟨fun h => V.str.inj h, fun h => by rw [h]⟩
  rw [this]
  exact c.now s (.bl _) h
end
/-! zip -/
def zpD (xs ys : List D) : List D := (xs.zip ys).map fun p => .tup [p.1, p.2]
theorem zpD_len {xs ys : List D} : (zpD xs ys).length = min xs.length ys.length := by simp [zpD]
theorem zpD_get {xs ys : List D} {k : Nat} {y : D} (h : (zpD xs ys)[k]? = some y) : ∃ a b, xs[k]? = some a ∧ ys[k]? = some b ∧ y = .tup [a, b] := by
  unfold zpD at h
  rw [List.getElem?_map] at h
  cases e : (xs.zip ys)[k]? with
  | none => rw [e] at h; cases h
  | some p =>
    rw [e] at h; cases h
    obtain ⟨h1, h2⟩ := List.getElem?_zip_eq_some.mp e
    exact ⟨_, _, h1, h2, rfl⟩
section
variable {X : Cx} {ρ : Rho} {α : Sto} {a b c tg : Expr} {p pos : Pos}
theorem di_zip {elts : List Expr} {kk : Nat} {tpos : Pos} {R : List D → (Sto → Prop) → Sto → Prop} (hm : X.mg "zip" = none)
    (h : DE X a ρ α fun d1 α1 => DE X b ρ α1 fun d2 α2 => ∃ xs ys, cont α2 d1 = some xs ∧ cont α2 d2 = some ys ∧ isT d1 = isT d2 ∧ R (zpD xs ys) (fun α' => cont α' d1 = some xs ∧ cont α' d2 = some ys) α2) (hg : Gl X "zip" := by rfl)
    (hs : starEach [a, b] X.env = (false, eval a X.env) :: starEach [b] X.env := by rfl) (hs2 : starEach [b] X.env = (false, eval b X.env) :: starEach [] X.env := by rfl) (hpl : (backTo pos (starEach [b] X.env)).any (·.1) = false := by rfl) :
    DI X (.Tuple elts kk tpos) (.Call (.Name "zip" p) [a, b] [] pos) ρ α R := by
  intro A σ H Q r cc
  refine wpi_of (RZ.pi_zipA hg hm (pa_cons pe_wp (pa_cons pe_wp pa_nil hs2) hs) hs hpl) (h A σ H _ r fun v1 d1 B α1 H1 h1 g s q => ?_)
  refine h1 _ σ H1 _ (r.mono g s) fun v2 d2 B2 α2 H2 h2 g2 s2 q2 => ?_
  obtain ⟨xs, ys, c1, c2, ht, hR⟩ := h2
  have q' := q.mono g2
  obtain ⟨a1, us, rfl, hs1, r1⟩ := readSeq s2 q' c1
  obtain ⟨a2, ws, rfl, hs2, r2⟩ := readSeq s2 q2 c2
  have gt : Gr A H (B ++ B2) H2 := g.trans s g2
  have s2' : So X.K (A ++ (B ++ B2)) H2 α2 := by rw [← List.append_assoc]; exact s2
  have q'' := da_assoc q'
  have q2'' := da_assoc q2
  refine ⟨a1, a2, us, ws, rfl, ?_⟩
  rcases hs1 with ⟨t1, hs1⟩ | ⟨t1, hs1⟩
  · rcases hs2 with ⟨t2, hs2⟩ | ⟨t2, hs2⟩
    · refine .inl ⟨hs1, hs2, cc _ (zpD xs ys) _ (B ++ B2) α2 H2 hR gt s2' fun B' H' α' g' s' st k => ?_⟩
      obtain ⟨a', us', e', hu, ru⟩ := readSeq s' (q''.mono g') st.1
      cases e'
      obtain ⟨a', ws', e', hw, rw_⟩ := readSeq s' (q2''.mono g') st.2
      cases e'
      have hu : SqL X.K H' a1 us' := hu.elim (fun z => z.2) (fun z => by rw [t1] at z; cases z.1)
      have hw : SqL X.K H' a2 ws' := hw.elim (fun z => z.2) (fun z => by rw [t2] at z; cases z.1)
      refine ⟨fun hk => ⟨us', ws', hu, hw, ?_⟩, fun y hy => ?_⟩
      · rw [zpD_len] at hk
        rw [ru.length, rw_.length]
        omega
      · obtain ⟨da, db, ha, hb, rfl⟩ := zpD_get hy
        obtain ⟨va, e1, qa⟩ := ru.get ha
        obtain ⟨vb, e2, qb⟩ := rw_.get hb
        refine ⟨⟨us', ws', va, vb, hu, hw, e1, e2⟩, fun x H'' hx => ?_⟩
        obtain ⟨T, x1, x2, rfl, hT, rfl, k1, k2⟩ := hx
        have := k1 us' hu
        rw [e1] at this; cases this
        have := k2 ws' hw
        rw [e2] at this; cases this
        exact ⟨gr_new hT, .tup (not_cell s' hT) upd_same (.cons (qa.new hT) (.cons (qb.new hT) .nil))⟩
    · rw [t1, t2] at ht; cases ht
  · rcases hs2 with ⟨t2, hs2⟩ | ⟨t2, hs2⟩
    · rw [t1, t2] at ht; cases ht
    · refine .inr ⟨hs1, hs2, cc _ (zpD xs ys) _ (B ++ B2) α2 H2 hR gt s2' fun B' H' α' g' s' st k => ?_⟩
      obtain ⟨a', us', e', hu, ru⟩ := readSeq s' (q''.mono g') st.1
      cases e'
      obtain ⟨a', ws', e', hw, rw_⟩ := readSeq s' (q2''.mono g') st.2
      cases e'
      have hu : SqT X.K H' a1 us' := hu.elim (fun z => by rw [t1] at z; cases z.1) (fun z => z.2)
      have hw : SqT X.K H' a2 ws' := hw.elim (fun z => by rw [t2] at z; cases z.1) (fun z => z.2)
      refine ⟨fun hk => ⟨us', ws', hu, hw, ?_⟩, fun y hy => ?_⟩
      · rw [zpD_len] at hk
        rw [ru.length, rw_.length]
        omega
      · obtain ⟨da, db, ha, hb, rfl⟩ := zpD_get hy
        obtain ⟨va, e1, qa⟩ := ru.get ha
        obtain ⟨vb, e2, qb⟩ := rw_.get hb
        refine ⟨⟨us', ws', va, vb, hu, hw, e1, e2⟩, fun x H'' hx => ?_⟩
        obtain ⟨T, x1, x2, rfl, hT, rfl, k1, k2⟩ := hx
        have := k1 us' hu
        rw [e1] at this; cases this
        have := k2 ws' hw
        rw [e2] at this; cases this
        exact ⟨gr_new hT, .tup (not_cell s' hT) upd_same (.cons (qa.new hT) (.cons (qb.new hT) .nil))⟩
/-- the ints lo, lo + c, .., m of them -/
def rcD (lo c : Int) (m : Nat) : List D := (List.range m).map fun i => D.int (lo + (i : Nat) * c)
theorem rcD_len {lo c : Int} {m : Nat} : (rcD lo c m).length = m := by simp [rcD]
theorem rcD_get {lo c : Int} {m k : Nat} {y : D} (h : (rcD lo c m)[k]? = some y) : k < m ∧ y = .int (lo + (k : Nat) * c) := by
  unfold rcD at h
  rw [List.getElem?_map] at h
  have hk : k < m := by
    cases e : (List.range m)[k]? with
    | none => rw [e] at h; cases h
    | some z => have := (List.getElem?_eq_some_iff.mp e).1; simpa using this
  rw [List.getElem?_range hk] at h
  cases h
  exact ⟨hk, rfl⟩
/-- range(a, b, -1) -/
theorem di_rangeDown {R : List D → (Sto → Prop) → Sto → Prop} (hm : X.mg "range" = none) (h : DE X a ρ α fun d1 α1 => DE X b ρ α1 fun d2 α2 => DE X c ρ α2 fun d3 α3 => ∃ i j : Int, d1 = .int i ∧ d2 = .int j ∧ d3 = .int (-1) ∧ (-(2 ^ 62) ≤ i ∧ i < 2 ^ 62 ∧ -(2 ^ 62) ≤ j ∧ j < 2 ^ 62) ∧ R (rcD i (-1) (i - j).toNat) (fun _ => True) α3) (hg : Gl X "range" := by rfl)
    (hs1 : starEach [a, b, c] X.env = (false, eval a X.env) :: starEach [b, c] X.env := by rfl) (hs2 : starEach [b, c] X.env = (false, eval b X.env) :: starEach [c] X.env := by rfl) (hs3 : starEach [c] X.env = (false, eval c X.env) :: starEach [] X.env := by rfl) (hpl : (backTo pos (starEach [b, c] X.env)).any (·.1) = false := by rfl) :
    DI X tg (.Call (.Name "range" p) [a, b, c] [] pos) ρ α R := by
  intro A σ H Q r cc
  refine wpi_of (pi_range3 hg hm (pa_cons pe_wp (pa_cons pe_wp (pa_cons pe_wp pa_nil hs3) hs2) hs1) hs1 hpl) (h A σ H _ r fun v1 d1 B α1 H1 h1 g s q => ?_)
  refine h1 _ σ H1 _ (r.mono g s) fun v2 d2 B2 α2 H2 h2 g2 s2 q2 => ?_
  refine h2 _ σ H2 _ ((r.mono g s).mono g2 s2) fun v3 d3 B3 α3 H3 h3 g3 s3 q3 => ?_
  obtain ⟨i, j, rfl, rfl, rfl, ⟨l1, l2, l3, l4⟩, hR⟩ := h3
  have s3' : So X.K (A ++ (B ++ (B2 ++ B3))) H3 α3 := by rw [← List.append_assoc, ← List.append_assoc]; exact s3
  refine ⟨i, j, -1, (i - j).toNat, by rw [q.int_inv, q2.int_inv, q3.int_inv], RgC.neg l1 l2 l3 l4, cc _ _ _ (B ++ (B2 ++ B3)) α3 H3 hR (g.trans s (g2.trans s2 g3)) s3' fun B' H' α' g' s' _ k => ?_⟩
  refine ⟨fun hk => by rw [rcD_len] at hk; exact hk, fun y hy => ?_⟩
  obtain ⟨hk, rfl⟩ := rcD_get hy
  refine ⟨hk, fun x H'' hx => ?_⟩
  obtain ⟨rfl, rfl⟩ := hx
  exact ⟨fun _ _ e => e, .int _⟩
end
end DH

end

section
/-! DH: sets of ints made of lists, sorted, counted. -/
namespace DH
open PySem PySem.Spec PyProof.Rows L2
section
variable {P : Program} {w : World} {A : Around} {E : Value → Shared → Prop} {s : Shared}
abbrev setObj0 (w : World) : Obj := { cls := .type "set", dict := none, data := .set #[] 0 (.fresh 0 0 (!w.params.followText "set-order")) }
set_option maxHeartbeats 3200000 in
/-- set(xs), xs a list of ints: how many there are, and which -/
theorem dh_setOf {l : Addr} {items : Array Value} (ns : List Int) {Q : Value → Shared → Prop} (hh : A.handled = none) (hl : s.heap.IsList l items) (hit : IntsAre items.toList ns) (hb : ns.length + 1 < scanBound)
    (h : ∀ (h' : Heap) (tk c : Nat), SetR w h' s.heap.objs.size (fun j => decide (j ∈ ns)) c → c ≤ ns.length → (∀ b o, s.heap.get? b = some o → h'.get? b = some o) → Q (.ref s.heap.objs.size) { s with heap := h', toks := tk }) :
    wpAny (model P w) A (call (.type "set") [.ref l]) Q E s := by
  have many : items.size = ns.length := by
    have q := IntsAre.length hit
    rwa [Array.length_toList] at q
  obtain ⟨cc, tl, hmro⟩ := F.called_set.mro
  have f1 := F.called_set.made
  have f2 := F.called_set.sub
  have f3 := F.called_set.notType
  have f4 := F.called_set.canCreate
  have f5 := F.typeCall_set_1 (.ref l)
  refine wpAny_call (codeAny_of_tree ?_)
  show wpAny _ _ (callAny (.type "set") _) _ _ _
  refine wpAny_pure ⟨Code.quiet_builtin _ (by decide +kernel), codeAny_builtin F.entry_type_call ?_⟩
  rw [Around.under_plain (weight_type_call_type "set" [.ref l] []) rfl]
  repeat (any_goals (first | assumption | wp_step))
  refine codeAny_mono (code_set_led1 (.ref l) (E := E) (Q₁ := fun u t => u = .ref s.heap.objs.size ∧ t = { s with heap := s.heap.push (setObj0 w) }) ⟨rfl, rfl⟩) fun r t hr => ?_
  cases r with
  | error e => exact hr
  | ok fl =>
    cases fl with
    | ret u =>
      obtain ⟨rfl, rfl⟩ := hr
      have there : (s.heap.push (setObj0 w)).get? s.heap.objs.size = some (setObj0 w) := Heap.get?_push_size _ rfl
      have isSet : Shared.TypeIs { s with heap := s.heap.push (setObj0 w) } (.ref s.heap.objs.size) "set" := ⟨_, there, rfl⟩
      have f6 := F.called_set.init.lookup
      have f7 := F.called_set.init.bind (.ref s.heap.objs.size)
      repeat (any_goals (first | assumption | wp_step))
      refine codeAny_mono (codeAny_call_builtin (R := wants (fun r t2 => r = .none ∧ ∃ h' tk c, t2 = { s with heap := h', toks := tk } ∧ SetR w h' s.heap.objs.size (fun j => decide (j ∈ ns)) c ∧ c ≤ ns.length ∧
          (∀ b o, s.heap.get? b = some o → h'.get? b = some o)) E) F.called_set.init.plain F.entry_set_init (check_set_init_1 isSet ?_)) fun r2 t2 hr2 => ?_
      · obtain ⟨ol, hol, hcl, nl, hdl⟩ := hl
        obtain ⟨oc, od, odt, osl⟩ := ol
        simp only at hcl hdl
        subst hcl; subst hdl
        have hol' : (s.heap.push (setObj0 w)).get? l = some { cls := .type "list", dict := od, data := .seq items nl, slots := osl } := Heap.get?_push_of_some _ hol
        have g1 := F.sub_list_set
        have g2 := F.sub_list_frozenset
        have g3 : (Value.type "list" == Value.type "dict") = false := by decide
        have isL : (s.heap.push (setObj0 w)).IsList l items := ⟨_, hol', rfl, nl, rfl⟩
        unfold Builtin.«set.__init__» noKeywords Builtin.Frozenset.updateFrom
        generalize hPI : pyIter = PI
        wp_walk
        subst hPI
        refine wpAny_pyIter_list isL (wpAny_bind (wpAny_runValue ?_))
        have l1 : l < s.heap.objs.size := Heap.lt_size hol
        have calm3 : A.in1.in1.in1.handled = none := by simp [hh]
        have z1 : (s.heap.push (setObj0 w)).objs.size = s.heap.objs.size + 1 := Heap.size_push ..
        have n1 : l ≠ (s.heap.push (setObj0 w)).objs.size := by
          rw [z1]; exact Nat.ne_of_lt (Nat.lt_succ_of_lt l1)
        have n2 : s.heap.objs.size ∉ [(s.heap.push (setObj0 w)).objs.size, l] := by
          rw [z1]
          intro z
          rcases List.mem_cons.mp z with z | z
          · exact absurd z (Nat.ne_of_lt (Nat.lt_succ_self _))
          · exact absurd (List.mem_singleton.mp z) (Nat.ne_of_gt l1)
        have vals : ∀ (i : Nat) (v : Value), items[i]? = some v → ∃ k t, ns[i]? = some k ∧ v = .int k t := fun i v hv => by
          have hi : i < ns.length := by rw [← many]; exact (Array.getElem?_eq_some_iff.mp hv).1
          obtain ⟨t, e⟩ := PyProof.Rows.IntsAre.int_at hit i v (by rw [Array.getElem?_toList]; exact hv)
          refine ⟨ns[i], t, List.getElem?_eq_getElem hi, ?_⟩
          rw [e, List.getD_eq_getElem?_getD, List.getElem?_eq_getElem hi] <;> rfl
        refine set_update_ints ((Walks.list calm3 _ l n1 items).toS) s.heap.objs.size n2 ns many hb vals (items.size - 0) 0 _ (by omega) (Nat.zero_le _) ⟨⟨_, Heap.get?_push_size _ rfl, rfl, rfl⟩, (isL.push _)⟩ ?start ?fin
        case start => exact ⟨0, Nat.le_refl 0, setR_new_at (Heap.get?_push_of_some _ there)⟩
        case fin =>
          intro s' c' hm hc' hS'
          obtain ⟨h', g2, d', tk', os'⟩ := s'
          obtain rfl : g2 = s.gens := hm.gens
          obtain rfl : d' = s.drawn := hm.drawn
          obtain rfl : os' = s.os := hm.os
          show wpAny _ _ _ _ _ _
          refine wpAny_pure ?_
          show wpAny _ _ (ret Value.none) _ _ _
          rw [many] at hc'
          refine wpAny_pure ⟨rfl, h', tk', c', rfl, hS', hc', fun b o e => ?_⟩
          have b0 : b < s.heap.objs.size := Heap.lt_size e
          refine hm.heap b o (fun z => ?_) (Heap.get?_push_of_some _ (Heap.get?_push_of_some _ e))
          rcases List.mem_cons.mp z with z | z
          · exact absurd z (Nat.ne_of_lt b0)
          · have z := List.mem_singleton.mp z
            rw [z1] at z
            exact absurd z (Nat.ne_of_lt (Nat.lt_succ_of_lt b0))
      · cases r2 with
        | error e => exact hr2
        | ok fl2 =>
          cases fl2 with
          | ret r =>
            obtain ⟨rfl, h', tk, c', rfl, hS', hc', hk'⟩ := hr2
            repeat (any_goals (first | assumption | wp_step))
            exact h _ _ _ hS' hc' hk'
          | _ => exact hr2.elim
    | _ => exact hr.elim
end
section
variable {X : Cx}
/-- set(xs) as a set of ints -/
def rSetOf (K : PySem.W.Frag) (w : World) : List V → Hp → VK → Prop := fun xs H Q => ∃ (l : Addr) (ns : List Int), xs = [V.ref l] ∧ SqL K H l (ns.map V.int) ∧ ns.length ≤ 1000 ∧
  ∀ p c, H p = none → c ≤ ns.length → Q (.ref p) (upd H p (SetO w p (fun j => decide (j ∈ ns)) c))
theorem cr_setOf (hc : X.calm = true) : CallR X (.type "set") (rSetOf X.K X.w) := by
  intro pins s σ H xs us Q I r h
  obtain ⟨l, ns, rfl, hs, hz, q⟩ := h
  obtain ⟨its, rv, hl, _⟩ := I.list hs
  rw [Vals.ref1 r]
  refine dh_setOf ns (I.ok.hd hc) hl.isList rv.ints (by show _ < 4096; omega) fun h' tk c hS hle hk => ?_
  have hn : H s.heap.objs.size = none := I.hok.fresh (Nat.le_refl _)
  exact ⟨.ref s.heap.objs.size, _, I.laid (t' := tk) hk (Nat.le_refl _) (setO_new hS), rfl, q _ _ hn hle⟩
end
end DH

end

section
/-! DH: sorted(set(..)), len(set(..)). -/
namespace DH
open PySem PySem.Spec PyProof.Rows L2
section
variable {X : Cx}
/-- len(s), s a set of ints -/
def rLenSet (w : World) : List V → Hp → VK → Prop := fun xs H Q => ∃ (a : Addr) (S : Int → Bool) (n : Nat), xs = [V.ref a] ∧ H a = some (SetO w a S n) ∧ n ≤ 1000 ∧
  ∀ ks : List Int, ks.Nodup → (∀ k, k ∈ ks ↔ S k = true) → ks.length = n → Q (.int (n : Nat)) H
theorem cr_lenSet : CallR X (.builtin "len") (rLenSet X.w) := by
  intro pins s σ H xs us Q I r h
  obtain ⟨a, S, n, rfl, ha, hn, q⟩ := h
  obtain ⟨o, es, ep, t, ho, hx, hd, g, nd, hm, hb, hf, hz, _⟩ := setO_get I ha
  rw [Vals.ref1 r]
  have l : (es.toList.map keyOf).length = n := by rw [List.length_map, Array.length_toList, hz]
  exact call_len_set ho hx hd hf (by rw [hz]; omega) ⟨.int n, H, I.tok _, ⟨_, by rw [hz]⟩, q _ nd (fun k => (hm k).symm) l⟩
end
section
variable {X : Cx} {ρ : Rho} {α : Sto} {R : RE} {e : Expr} {p p2 pos pos2 : Pos}
/-- sorted(set(e)), e a list of ints -/
theorem de_sortSet (hc : X.calm = true) (hm : X.mg "sorted" = none) (hm2 : X.mg "set" = none) (h : DE X e ρ α fun d α1 => ∃ ns : List Int, cont α1 d = some (ns.map D.int) ∧ isT d = false ∧ ns.length ≤ 60 ∧ ∀ ks : List Int, ks.Pairwise (· < ·) → (∀ k, k ∈ ks ↔ k ∈ ns) → R (.lst (ks.map D.int)) α1)
    (hg : Gl X "sorted" := by rfl) (hg2 : Gl X "set" := by rfl) (hs : starEach [e] X.env = (false, eval e X.env) :: starEach [] X.env := by rfl)
    (hs2 : starEach [.Call (.Name "set" p2) [e] [] pos2] X.env = (false, eval (.Call (.Name "set" p2) [e] [] pos2) X.env) :: starEach [] X.env := by rfl) :
    DE X (.Call (.Name "sorted" p) [.Call (.Name "set" p2) [e] [] pos2] [] pos) ρ α R := by
  intro A σ H Q rep con
  refine wp_of (pe_callB (cr_sortedSet hc) hg hm boot_sorted (pa_cons (pe_callTy (cr_setOf hc) hg2 hm2 boot_set (pa_cons pe_wp pa_nil hs) (by decide) (by decide) hs rfl) pa_nil hs2) (by decide) (by decide) hs2 rfl) (h A σ H _ rep fun v d B α1 H1 h1 g s q => ?_)
  obtain ⟨ns, hc1, ht, hz, h1⟩ := h1
  obtain ⟨a, xs, rfl, hsq, rr⟩ := readSeq s q hc1
  have hsq : SqL X.K H1 a xs := hsq.elim (fun z => z.2) (fun z => by rw [ht] at z; cases z.1)
  rw [das_ints rr] at hsq
  refine ⟨a, ns, rfl, hsq, by omega, fun p c hp hle => ⟨p, _, c, rfl, upd_same, by omega, fun ks p2 hs1 hk _ hp2 => ?_⟩⟩
  have g2 : ∀ b u, H1 b = some u → upd H1 p (SetO X.w p (fun j => decide (j ∈ ns)) c) b = some u := gr_new hp
  have s2 : So X.K (A ++ B) (upd H1 p (SetO X.w p (fun j => decide (j ∈ ns)) c)) α1 := s.same g2
  have c2 := (con.step g s).step (B := []) (gr_same g2) (by rw [List.append_nil]; exact s2)
  rw [List.append_nil] at c2
  refine c2.newL s2 hp2 ?_ (h1 ks hs1 fun k => by rw [hk k]; simp)
  exact Das.ints ks
/-- len(set(e)), e a list of ints -/
theorem de_lenSet (hc : X.calm = true) (hm : X.mg "len" = none) (hm2 : X.mg "set" = none) (h : DE X e ρ α fun d α1 => ∃ ns : List Int, cont α1 d = some (ns.map D.int) ∧ isT d = false ∧ ns.length ≤ 1000 ∧ ∀ ks : List Int, ks.Nodup → (∀ k, k ∈ ks ↔ k ∈ ns) → R (.int (ks.length : Nat)) α1)
    (hg : Gl X "len" := by rfl) (hg2 : Gl X "set" := by rfl) (hs : starEach [e] X.env = (false, eval e X.env) :: starEach [] X.env := by rfl)
    (hs2 : starEach [.Call (.Name "set" p2) [e] [] pos2] X.env = (false, eval (.Call (.Name "set" p2) [e] [] pos2) X.env) :: starEach [] X.env := by rfl) :
    DE X (.Call (.Name "len" p) [.Call (.Name "set" p2) [e] [] pos2] [] pos) ρ α R := by
  intro A σ H Q rep con
  refine wp_of (pe_callB cr_lenSet hg hm boot_len (pa_cons (pe_callTy (cr_setOf hc) hg2 hm2 boot_set (pa_cons pe_wp pa_nil hs) (by decide) (by decide) hs rfl) pa_nil hs2) (by decide) (by decide) hs2 rfl) (h A σ H _ rep fun v d B α1 H1 h1 g s q => ?_)
  obtain ⟨ns, hc1, ht, hz, h1⟩ := h1
  obtain ⟨a, xs, rfl, hsq, rr⟩ := readSeq s q hc1
  have hsq : SqL X.K H1 a xs := hsq.elim (fun z => z.2) (fun z => by rw [ht] at z; cases z.1)
  rw [das_ints rr] at hsq
  refine ⟨a, ns, rfl, hsq, hz, fun p c hp hle => ⟨p, _, c, rfl, upd_same, by omega, fun ks nd hk hl => ?_⟩⟩
  have g2 : ∀ b u, H1 b = some u → upd H1 p (SetO X.w p (fun j => decide (j ∈ ns)) c) b = some u := gr_new hp
  have s2 : So X.K (A ++ B) (upd H1 p (SetO X.w p (fun j => decide (j ∈ ns)) c)) α1 := s.same g2
  have c2 := (con.step g s).step (B := []) (gr_same g2) (by rw [List.append_nil]; exact s2)
  rw [List.append_nil] at c2
  have := h1 ks nd fun k => by rw [hk k]; simp
  rw [hl] at this
  exact c2.now s2 (.int _) this
end
end DH

end

section
/-! DH: comprehensions over any target whose list is let go as a tree. -/
namespace DH
open PySem PySem.Spec PyProof.Rows L2
section
variable {X : Cx} {n : Nat} {ρ : Rho} {α : Sto} {R : RE} {P : Post} {e elt iter tg : Expr} {st : List Stmt} {c : Cl} {ifs : List Expr} {scope : Scope} {own : List (Str × Nat)} {x : Str} {p pos : Pos} {T : Tg}
/-- what is asked of a comprehension: V k α' zs: k turns on, store α', list zs; Fin α' zs behind -/
def LcGT (X : Cx) (elt tg iter : Expr) (ifs : List Expr) (scope : Scope) (vs : List Nat) (T : Tg) (ρ : Rho) (α : Sto) (Fin : Sto → List D → Prop) : Prop :=
  DI X tg iter ρ α fun ds stays α1 => ∃ V : Nat → Sto → List D → Prop, V 0 α1 [] ∧ ds.length < 1000000 ∧ (∀ k α' zs, V k α' zs → α'.length = α1.length ∧ zs.length ≤ k ∧ stays (α' ++ [.l zs])) ∧
    (∀ k y α' zs, ds[k]? = some y → V k α' zs → ∃ ρ', T.put (wipeR ρ vs) y = some ρ' ∧ ∀ s H C cl fp, DTs (X.blk s H scope (compEnvC scope cl C X.env) fp) ifs ρ' (α' ++ [.l zs]) fun b α2 => ∃ α3, α2 = α3 ++ [.l zs] ∧ α3.length = α1.length ∧
      if b = true then ∀ s H C cl fp, DE (X.blk s H scope (compEnvC scope cl C X.env) fp) elt ρ' (α3 ++ [.l zs]) fun z α4 => ∃ α5, α4 = α5 ++ [.l zs] ∧ α5.length = α1.length ∧ V (k + 1) α5 (zs ++ [z])
      else V (k + 1) α3 zs) ∧
    (∀ α' zs, V ds.length α' zs → Fin α' zs)
theorem LcGT.lc {vs : List Nat} {Fin : Sto → List D → Prop} (h : LcGT X elt tg iter ifs scope vs T ρ α Fin) : LcT X elt tg iter ifs scope vs T ρ α fun d α' => ∃ α1 zs, d = .acc α1.length ∧ α' = α1 ++ [.l zs] ∧ Fin α1 zs := by
  intro A σ H Q r c
  refine h A σ H Q r fun J ds stays B α1 H1 h1 g s yl => c J ds stays B α1 H1 ?_ g s yl
  obtain ⟨V, v0, hz, vl, turn, fin⟩ := h1
  refine ⟨fun k α' => k ≤ ds.length ∧ ∃ α2 zs, α' = α2 ++ [.l zs] ∧ α2.length = α1.length ∧ V k α2 zs, ⟨Nat.zero_le _, α1, [], rfl, rfl, v0⟩, ?_, ?_, ?_⟩
  · rintro k α' ⟨hk, α2, zs, rfl, l, v⟩
    exact (vl k α2 zs v).2.2
  · rintro k y α' hy ⟨hk, α2, zs, rfl, l, v⟩
    have hk' : k < ds.length := (List.getElem?_eq_some_iff.mp hy).1
    obtain ⟨ρ', hp, turn'⟩ := turn k y α2 zs hy v
    refine ⟨ρ', hp, fun s H C cl fp => ?_⟩
    intro A1 σ1 H1 Q1 r1 c1
    refine turn' s H C cl fp A1 σ1 H1 Q1 r1 fun b B2 α3 H3 h3 g3 s3 => c1 b B2 α3 H3 ?_ g3 s3
    obtain ⟨α4, rfl, l4, h3⟩ := h3
    cases b with
    | false => rw [if_neg Bool.false_ne_true] at h3 ⊢; exact ⟨hk', α4, zs, rfl, l4, h3⟩
    | true =>
      rw [if_pos rfl] at h3 ⊢
      intro s H C cl fp
      refine (h3 s H C cl fp).imp fun z α5 h4 => ?_
      obtain ⟨α5, rfl, l5, v5⟩ := h4
      refine ⟨zs, by rw [← l5]; simp, Nat.lt_of_le_of_lt ((vl k α2 zs v).2.1) (by omega), hk', α5, zs ++ [z], ?_, l5, v5⟩
      rw [← l5]; simp
  · rintro α' ⟨_, α2, zs, rfl, l, v⟩
    exact ⟨α2, zs, by rw [l], rfl, fin α2 zs v⟩
/-- as a value -/
theorem de_lcT (T : Tg) (hc : X.calm = true) (hN : X.N.Nodup) (ok : BlkOk X.N X.env.scope scope own) (hi : T.all (fun i => decide (i ∈ own.map (·.2))) = true)
    (hg : BlkG X scope tg T) (h : NaS α.length α → LcGT X elt tg iter ifs scope (own.map (·.2)) T ρ α fun α' zs => α.length ≤ α'.length ∧ NaS α'.length α' ∧ nas α'.length zs = true ∧ R (.lst zs) α') (hs : ∀ x, foldedSetIterable iter X.env x = pure x := by intro _; rfl) : DE X (.ListComp elt [⟨tg, iter, ifs, 0⟩] scope pos) ρ α R := by
  refine de_na fun hna _ => de_frz (de_lct T hc hN ok hi hg ?_ hs)
  intro A σ H Q r c
  refine (h hna).lc A σ H Q r fun J ds stays B α1 H1 h1 g s yl => c J ds stays B α1 H1 ?_ g s yl
  obtain ⟨V, v0, st, turn, fin⟩ := h1
  refine ⟨V, v0, st, turn, fun α' v => ?_⟩
  obtain ⟨α2, zs, e, rfl, h1, h2, h3, h4⟩ := fin α' v
  exact ⟨α2, .l zs, e, rfl, h1, h2, h3, rfl, h4⟩
/-- y = [..] -/
theorem dss_setLcT {y : Str} {py spos : Pos} (j : Nat) (T : Tg) (hc : X.calm = true) (hN : X.N.Nodup) (ok : BlkOk X.N X.env.scope scope own) (hi : T.all (fun i => decide (i ∈ own.map (·.2))) = true)
    (hg : BlkG X scope tg T) (hsw : swapsWith (.ListComp elt [⟨tg, iter, ifs, 0⟩] scope pos) (some (.Name y py)) spos.line X.env = pure true)
    (h : NaS α.length α → LcGT X elt tg iter ifs scope (own.map (·.2)) T ρ α fun α' zs => α.length ≤ α'.length ∧ NaS α'.length α' ∧ nas α'.length zs = true ∧ DSs X n st (ρ.set j (some (.lst zs))) α' P)
    (hy : X.N[j]? = some y := by rfl) (hyl : X.env.scope.names.lookup y = some .local := by rfl) (hs : ∀ x, foldedSetIterable iter X.env x = pure x := by intro _; rfl) :
    DSs X n (.Assign [.Name y py] (.ListComp elt [⟨tg, iter, ifs, 0⟩] scope pos) spos :: st) ρ α P := by
  refine dss_na fun hn hna hρ => dss_cons (ds_setLct j T hc hN ok hi hg hsw ?_ hy hyl hs)
  intro A σ H Q r c
  refine (h hna).lc A σ H Q r fun J ds stays B α1 H1 h1 g s yl => c J ds stays B α1 H1 ?_ g s yl
  obtain ⟨V, v0, st, turn, fin⟩ := h1
  refine ⟨V, v0, st, turn, fun α' v => ?_⟩
  obtain ⟨α2, zs, e, rfl, h1, h2, h3, h4⟩ := fin α' v
  show DSs X n _ (ρ.set j (some (.acc α1.length))) (α2 ++ [.l zs]) P
  rw [show α1.length = α2.length by injection e]
  exact dss_frz (Nat.le_trans hn h1) h2 (c := .l zs) h3 (fz_set (hρ.mono h1)) h4
/-- the elements are reckoned, nothing else done -/
theorem LcGT.pure {vs : List Nat} {Fin : Sto → List D → Prop} (h : DI X tg iter ρ α fun ds stays α1 => α1 = α ∧ (∀ acc, stays (α ++ [.l acc])) ∧ ds.length < 1000000 ∧ ∃ zs : List D, zs.length = ds.length ∧
    (∀ (k : Nat) (y z : D) (acc : List D), ds[k]? = some y → zs[k]? = some z → ∃ ρ', T.put (wipeR ρ vs) y = some ρ' ∧ ∀ s H C cl fp, DE (X.blk s H scope (compEnvC scope cl C X.env) fp) elt ρ' (α ++ [.l acc]) fun d α3 => d = z ∧ α3 = α ++ [.l acc]) ∧ Fin α zs) : LcGT X elt tg iter [] scope vs T ρ α Fin := by
  intro A σ H Q r c
  refine h A σ H Q r fun J ds stays B α1 H1 h1 g s yl => c J ds stays B α1 H1 ?_ g s yl
  obtain ⟨rfl, st, hz, zs, hl, turn, fin⟩ := h1
  refine ⟨fun k α' ys => k ≤ ds.length ∧ α' = α1 ∧ ys = zs.take k, ⟨Nat.zero_le _, rfl, by simp⟩, hz, ?_, ?_, ?_⟩
  · rintro k α' ys ⟨hk, rfl, rfl⟩
    exact ⟨rfl, by simp; omega, st _⟩
  · rintro k y α' ys hy ⟨hk, rfl, rfl⟩
    have hk' : k < ds.length := (List.getElem?_eq_some_iff.mp hy).1
    have hz' : zs[k]? = some zs[k] := by simp [hl, hk']
    obtain ⟨ρ', hp, turn'⟩ := turn k y zs[k] (zs.take k) hy hz'
    refine ⟨ρ', hp, fun s H C cl fp => dts_nil ⟨α', rfl, rfl, ?_⟩⟩
    rw [if_pos rfl]
    intro s H C cl fp
    refine (turn' s H C cl fp).imp fun d α3 h3 => ?_
    obtain ⟨rfl, rfl⟩ := h3
    exact ⟨_, rfl, rfl, hk', rfl, by rw [List.take_add_one, hz']; rfl⟩
  · rintro α' ys ⟨_, rfl, rfl⟩
    rw [← hl, List.take_length]; exact fin
/-- some are left out -/
theorem LcGT.filter {vs : List Nat} {Fin : Sto → List D → Prop} (h : DI X tg iter ρ α fun ds stays α1 => α1 = α ∧ (∀ acc, stays (α ++ [.l acc])) ∧ ds.length < 1000000 ∧ ∃ zf : D → Option D,
    (∀ y acc, y ∈ ds → ∃ ρ', T.put (wipeR ρ vs) y = some ρ' ∧ ∀ s H C cl fp, DTs (X.blk s H scope (compEnvC scope cl C X.env) fp) ifs ρ' (α ++ [.l acc]) fun b α2 => α2 = α ++ [.l acc] ∧
      if b = true then ∀ s H C cl fp, DE (X.blk s H scope (compEnvC scope cl C X.env) fp) elt ρ' (α ++ [.l acc]) fun d α3 => zf y = some d ∧ α3 = α ++ [.l acc] else zf y = none) ∧ Fin α (ds.filterMap zf)) : LcGT X elt tg iter ifs scope vs T ρ α Fin := by
  intro A σ H Q r c
  refine h A σ H Q r fun J ds stays B α1 H1 h1 g s yl => c J ds stays B α1 H1 ?_ g s yl
  obtain ⟨rfl, st, hz, zf, turn, fin⟩ := h1
  refine ⟨fun k α' ys => k ≤ ds.length ∧ α' = α1 ∧ ys = (ds.take k).filterMap zf, ⟨Nat.zero_le _, rfl, by simp⟩, hz, ?_, ?_, ?_⟩
  · rintro k α' ys ⟨hk, rfl, rfl⟩
    refine ⟨rfl, Nat.le_trans (List.length_filterMap_le _ _) (by simp; omega), st _⟩
  · rintro k y α' ys hy ⟨hk, rfl, rfl⟩
    have hk' : k < ds.length := (List.getElem?_eq_some_iff.mp hy).1
    have hm : (ds.take (k + 1)).filterMap zf = (ds.take k).filterMap zf ++ (match zf y with | some z => [z] | none => []) := by
      rw [List.take_add_one, hy, List.filterMap_append]
      cases hf : zf y <;> simp [hf]
    obtain ⟨ρ', hp, turn'⟩ := turn y _ (List.mem_of_getElem? hy)
    refine ⟨ρ', hp, fun s H C cl fp => ?_⟩
    intro A1 σ1 H1 Q1 r1 c1
    refine turn' s H C cl fp A1 σ1 H1 Q1 r1 fun b B2 α3 H3 h3 g3 s3 => c1 b B2 α3 H3 ?_ g3 s3
    obtain ⟨e3, h3⟩ := h3
    refine ⟨α', e3, rfl, ?_⟩
    cases b with
    | false =>
      rw [if_neg Bool.false_ne_true] at h3 ⊢
      exact ⟨hk', rfl, by rw [hm, h3]; simp⟩
    | true =>
      rw [if_pos rfl] at h3 ⊢
      intro s H C cl fp
      refine (h3 s H C cl fp).imp fun d α4 h4 => ?_
      obtain ⟨e4, rfl⟩ := h4
      exact ⟨_, rfl, rfl, hk', rfl, by rw [hm, e4]⟩
  · rintro α' ys ⟨_, rfl, rfl⟩
    rw [List.take_length]; exact fin
end
/-! the module's constants -/
structure Cn (mg : Str → Option Value) : Prop where
  mc : ∃ t, mg "MOST_COMMANDS" = some (.int 12 t)
  gone : ∃ t, mg "GONE" = some (.int (-1) t)
structure Cq (mg : Str → Option Value) : Prop where
  mq : ∃ t, mg "MOST_QUEUE" = some (.int 10000 t)
theorem de_gI {X : Cx} {ρ : Rho} {α : Sto} {R : RE} {x : Str} {pos : Pos} {i : Int} (hg : Gl X x) (hm : ∃ t, X.mg x = some (.int i t)) (hR : R (.int i) α) (hd : (x == ("__debug__" : Str)) = false := by decide) : DE X (.Name x pos) ρ α R := by
  obtain ⟨t, hm⟩ := hm
  exact de_glob hg hm (v := .int i) ⟨t, rfl⟩ (fun _ _ => .int i) hR hd
end DH

end

section
/-! DH: a list or a tuple walked. -/
namespace DH
open PySem PySem.Spec PyProof.Rows L2
def iSeqA (K : PySem.W.Frag) (tl : TE) : TI := fun σ H R => tl σ H fun x H1 => ∃ a, x = .ref a ∧ ((∃ xs, SqL K H1 a xs ∧ R (Itl K a) H1) ∨ ∃ xs, SqT K H1 a xs ∧ R (Itt K a) H1)
theorem pi_seqA {X : Cx} {tg l : Expr} {tl : TE} (hl : PE X l tl) : PI X tg l (iSeqA X.K tl) := by
  refine ⟨fun pins s σ H R I h => thn (hl.run pins s σ H _ I h) fun v s1 hh => ?_⟩
  obtain ⟨x, H1, I1, r1, a, rfl, ⟨xs, hq, q⟩ | ⟨xs, hq, q⟩⟩ := hh
  · cases r1
    obtain ⟨its, rv, p, hz⟩ := I1.list hq
    refine wpAny_pyIter_list p.isList ⟨s1.heap.objs.size, [s1.heap.objs.size], _, _, H1, rfl, I1.kept (t' := s1.toks) fun b o e => Heap.get?_push_of_some _ e, turn_list a _, ⟨_, Heap.get?_push_size _ rfl, rfl, rfl⟩, fun b hb => ?_, q⟩
    obtain rfl := List.mem_singleton.mp hb
    exact I1.fpOk (Nat.le_refl _) (I1.hok.fresh (Nat.le_refl _))
  · cases r1
    obtain ⟨its, rv, p, hz⟩ := I1.tuple hq
    refine wpAny_pyIter_tuple (show s1.heap.IsTuple a its.toArray from p) ⟨s1.heap.objs.size, [s1.heap.objs.size], _, _, H1, rfl, I1.kept (t' := s1.toks) fun b o e => Heap.get?_push_of_some _ e, turn_tuple a _, ⟨_, Heap.get?_push_size _ rfl, rfl, rfl⟩, fun b hb => ?_, q⟩
    obtain rfl := List.mem_singleton.mp hb
    exact I1.fpOk (Nat.le_refl _) (I1.hok.fresh (Nat.le_refl _))
section
variable {X : Cx} {ρ : Rho} {α : Sto} {tg iter : Expr}
/-- what stands in a list or a tuple, one by one -/
theorem di_seq {R : List D → (Sto → Prop) → Sto → Prop} (h : DE X iter ρ α fun d α1 => ∃ ds, cont α1 d = some ds ∧ R ds (fun α' => cont α' d = some ds) α1) : DI X tg iter ρ α R := by
  intro A σ H Q r c
  refine wpi_of (pi_seqA pe_wp) (h A σ H _ r fun v d B α1 H1 h1 g s q => ?_)
  obtain ⟨ds, hc, h1⟩ := h1
  obtain ⟨a, xs, rfl, hs, rr⟩ := readSeq s q hc
  refine ⟨a, rfl, ?_⟩
  rcases hs with ⟨ht, hs⟩ | ⟨ht, hs⟩
  · refine .inl ⟨xs, hs, c _ ds _ B α1 H1 h1 g s fun B' H' α' g' s' st k => ?_⟩
    obtain ⟨a', ys, e', hs', rr'⟩ := readSeq s' (q.mono g') st
    cases e'
    have hs' : SqL X.K H' a ys := hs'.elim (fun z => z.2) (fun z => by rw [ht] at z; cases z.1)
    refine ⟨fun hk => ⟨ys, hs', by rw [rr'.length]; exact hk⟩, fun y hy => ?_⟩
    obtain ⟨v, hv, qv⟩ := rr'.get hy
    refine ⟨⟨ys, v, hs', hv⟩, fun x H'' hx => ?_⟩
    obtain ⟨rfl, hx⟩ := hx
    have := hx ys hs'
    rw [hv] at this; cases this
    exact ⟨fun _ _ e => e, qv⟩
  · refine .inr ⟨xs, hs, c _ ds _ B α1 H1 h1 g s fun B' H' α' g' s' st k => ?_⟩
    obtain ⟨a', ys, e', hs', rr'⟩ := readSeq s' (q.mono g') st
    cases e'
    have hs' : SqT X.K H' a ys := hs'.elim (fun z => by rw [ht] at z; cases z.1) (fun z => z.2)
    refine ⟨fun hk => ⟨ys, hs', by rw [rr'.length]; exact hk⟩, fun y hy => ?_⟩
    obtain ⟨v, hv, qv⟩ := rr'.get hy
    refine ⟨⟨ys, v, hs', hv⟩, fun x H'' hx => ?_⟩
    obtain ⟨rfl, hx⟩ := hx
    have := hx ys hs'
    rw [hv] at this; cases this
    exact ⟨fun _ _ e => e, qv⟩
/-- isinstance(x, (list, tuple)) by what stands in it -/
theorem tyD_seq {d : D} {ds : List D} (h : cont α d = some ds) (hf : ∀ ds, d ≠ .fix ds) : ∃ t, tyD α d = some t ∧ (t = "list" ∨ t = "tuple") := by
  cases d with
  | lst _ => exact ⟨_, rfl, .inl rfl⟩
  | tup _ => exact ⟨_, rfl, .inr rfl⟩
  | pt _ => exact ⟨_, rfl, .inr rfl⟩
  | fix ds => exact absurd rfl (hf ds)
  | acc k =>
    refine ⟨"list", ?_, .inl rfl⟩
    have : cellL α[k]? = some ds := h
    show (match cellL α[k]? with | some _ => some "list" | none => none) = _
    rw [this]
  | _ => cases h
end
end DH

end

section
/-! all ends of a queue, by all ways. -/
namespace FM
/-- the queue behind a merge at a place -/
def stepAt (t : Tab) (q : List Nat) (a : Nat) : Option (List Nat) := match q[a]?, q[a + 1]? with
  | some x, some y => (t x y).map fun z => q.take a ++ opt z ++ q.drop (a + 2)
  | _, _ => none
theorem stepAt_two {t : Tab} {q r : List Nat} {a : Nat} (h : stepAt t q a = some r) : ∃ u x y v z, q = u ++ x :: y :: v ∧ u.length = a ∧ t x y = some z ∧ r = u ++ opt z ++ v := by
  unfold stepAt at h
  cases e1 : q[a]? with
  | none => rw [e1] at h; cases h
  | some x =>
    cases e2 : q[a + 1]? with
    | none => rw [e1, e2] at h; cases h
    | some y =>
      rw [e1, e2] at h
      simp only [Option.map_eq_some_iff] at h
      obtain ⟨z, hz, rfl⟩ := h
      obtain ⟨l1, g1⟩ := List.getElem?_eq_some_iff.mp e1
      obtain ⟨l2, g2⟩ := List.getElem?_eq_some_iff.mp e2
      refine ⟨q.take a, x, y, q.drop (a + 2), z, ?_, by simp; omega, hz, rfl⟩
      have := List.take_append_drop a q
      rw [List.drop_eq_getElem_cons l1, List.drop_eq_getElem_cons l2, g1, g2] at this
      exact this.symm
theorem stepAt_of {t : Tab} {u v : List Nat} {x y : Nat} {z : Option Nat} (h : t x y = some z) : stepAt t (u ++ x :: y :: v) u.length = some (u ++ opt z ++ v) := by
  unfold stepAt
  have e1 : (u ++ x :: y :: v)[u.length]? = some x := by simp
  have e2 : (u ++ x :: y :: v)[u.length + 1]? = some y := by
    rw [List.getElem?_append_right (by omega)]; simp
  rw [e1, e2]
  simp only [h, Option.map_some]
  congr 2
  · congr 1
    simp
  · rw [List.drop_append]
    simp
theorem stepAt_len {t : Tab} {q r : List Nat} {a : Nat} (h : stepAt t q a = some r) : r.length < q.length ∧ a < q.length - 1 := by
  obtain ⟨u, x, y, v, z, rfl, rfl, _, rfl⟩ := stepAt_two h
  cases z <;> simp [opt] <;> omega
def addNew (acc more : List (List Nat)) : List (List Nat) := acc ++ more.filter fun e => decide (e ∉ acc)
def endsF (t : Tab) : Nat → List Nat → List (List Nat)
  | 0, q => [q]
  | f + 1, q =>
    let found := (List.range (q.length - 1)).foldl (fun acc a => match stepAt t q a with
      | none => acc
      | some r => addNew acc (endsF t f r)) []
    if found = [] then [q] else found
def ends (t : Tab) (q : List Nat) : List (List Nat) := endsF t q.length q
theorem foldl_ext {α β : Type} {f g : β → α → β} : ∀ (l : List α) (b : β), (∀ a ∈ l, ∀ b, f b a = g b a) → l.foldl f b = l.foldl g b
  | [], _, _ => rfl
  | a :: l, b, h => by
    rw [List.foldl_cons, List.foldl_cons, h a (by simp)]
    exact foldl_ext l _ fun x hx => h x (by simp [hx])
theorem endsF_fuel {t : Tab} : ∀ (f g : Nat) (q : List Nat), q.length ≤ f → q.length ≤ g → endsF t f q = endsF t g q
  | 0, 0, _, _, _ => rfl
  | 0, g + 1, q, h, _ => by
    have : q = [] := List.length_eq_zero_iff.mp (by omega)
    subst this
    rfl
  | f + 1, 0, q, _, h => by
    have : q = [] := List.length_eq_zero_iff.mp (by omega)
    subst this
    rfl
  | f + 1, g + 1, q, hf, hg => by
    have : ∀ acc a, (match stepAt t q a with | none => acc | some r => addNew acc (endsF t f r)) = (match stepAt t q a with | none => acc | some r => addNew acc (endsF t g r)) := by
      intro acc a
      cases e : stepAt t q a with
      | none => rfl
      | some r =>
        have := (stepAt_len e).1
        show addNew acc (endsF t f r) = addNew acc (endsF t g r)
        rw [endsF_fuel f g r (by omega) (by omega)]
    show (if _ = [] then [q] else _) = (if _ = [] then [q] else _)
    rw [foldl_ext (List.range (q.length - 1)) [] fun a _ b => this b a]
/-- what the first k places lead to -/
def endsUp (t : Tab) (q : List Nat) (k : Nat) : List (List Nat) := (List.range k).foldl (fun acc a => match stepAt t q a with
  | none => acc
  | some r => addNew acc (ends t r)) []
theorem endsUp_succ {t : Tab} {q : List Nat} {k : Nat} : endsUp t q (k + 1) = match stepAt t q k with
    | none => endsUp t q k
    | some r => addNew (endsUp t q k) (ends t r) := by
  unfold endsUp
  rw [List.range_succ, List.foldl_append]
  rfl
theorem ends_eq {t : Tab} {q : List Nat} : ends t q = if endsUp t q (q.length - 1) = [] then [q] else endsUp t q (q.length - 1) := by
  unfold ends
  cases h : q.length with
  | zero =>
    have : q = [] := List.length_eq_zero_iff.mp h
    subst this
    rfl
  | succ f =>
    have : ∀ acc a, (match stepAt t q a with | none => acc | some r => addNew acc (endsF t f r)) = (match stepAt t q a with | none => acc | some r => addNew acc (ends t r)) := by
      intro acc a
      cases e : stepAt t q a with
      | none => rfl
      | some r =>
        have := (stepAt_len e).1
        show addNew acc (endsF t f r) = addNew acc (endsF t r.length r)
        rw [endsF_fuel f r.length r (by omega) (Nat.le_refl _)]
    show (if (List.range (q.length - 1)).foldl _ _ = [] then [q] else (List.range (q.length - 1)).foldl _ _) = _
    rw [foldl_ext (List.range (q.length - 1)) [] fun a _ b => this b a, h]
    rfl
theorem mem_addNew {acc more : List (List Nat)} {e : List Nat} : e ∈ addNew acc more ↔ e ∈ acc ∨ e ∈ more := by
  unfold addNew
  rw [List.mem_append, List.mem_filter]
  constructor
  · rintro (h | h)
    · exact .inl h
    · exact .inr h.1
  · rintro (h | h)
    · exact .inl h
    · by_cases ha : e ∈ acc
      · exact .inl ha
      · exact .inr ⟨h, by simpa using ha⟩
theorem mem_endsUp {t : Tab} {q e : List Nat} : ∀ {k : Nat}, e ∈ endsUp t q k ↔ ∃ a r, a < k ∧ stepAt t q a = some r ∧ e ∈ ends t r
  | 0 => by
    constructor
    · intro h; cases h
    · rintro ⟨a, r, h, _⟩; omega
  | k + 1 => by
    rw [endsUp_succ]
    cases hs : stepAt t q k with
    | none =>
      show e ∈ endsUp t q k ↔ _
      rw [mem_endsUp]
      constructor
      · rintro ⟨a, r, h1, h2, h3⟩; exact ⟨a, r, by omega, h2, h3⟩
      · rintro ⟨a, r, h1, h2, h3⟩
        by_cases hk : a = k
        · subst hk; rw [hs] at h2; cases h2
        · exact ⟨a, r, by omega, h2, h3⟩
    | some r0 =>
      show e ∈ addNew _ _ ↔ _
      rw [mem_addNew, mem_endsUp]
      constructor
      · rintro (⟨a, r, h1, h2, h3⟩ | h)
        · exact ⟨a, r, by omega, h2, h3⟩
        · exact ⟨k, r0, by omega, hs, h⟩
      · rintro ⟨a, r, h1, h2, h3⟩
        by_cases hk : a = k
        · subst hk; rw [hs] at h2; cases h2; exact .inr h3
        · exact .inl ⟨a, r, by omega, h2, h3⟩
theorem ends_sub {t : Tab} {q r e : List Nat} {a : Nat} (h : stepAt t q a = some r) (he : e ∈ ends t r) : e ∈ ends t q := by
  have hm : e ∈ endsUp t q (q.length - 1) := mem_endsUp.mpr ⟨a, r, (stepAt_len h).2, h, he⟩
  rw [ends_eq, if_neg (fun z => by rw [z] at hm; cases hm)]
  exact hm
theorem ends_ne {t : Tab} {q : List Nat} : ends t q ≠ [] := by
  rw [ends_eq]
  by_cases h : endsUp t q (q.length - 1) = []
  · rw [if_pos h]; simp
  · rw [if_neg h]; exact h
def NoStep (t : Tab) (q : List Nat) : Prop := ∀ a, stepAt t q a = none
theorem ends_done {t : Tab} {q : List Nat} (h : NoStep t q) : ends t q = [q] := by
  rw [ends_eq, if_pos]
  cases e : endsUp t q (q.length - 1) with
  | nil => rfl
  | cons x l =>
    have : x ∈ endsUp t q (q.length - 1) := by rw [e]; simp
    obtain ⟨a, r, _, h2, _⟩ := mem_endsUp.mp this
    rw [h a] at h2; cases h2
/-- what holds along all ways holds of all ends, which are folded -/
theorem ends_ind {t : Tab} {P : List Nat → Prop} (hP : ∀ q a r, P q → stepAt t q a = some r → P r) : ∀ (n : Nat) (q : List Nat), q.length ≤ n → P q → ∀ e ∈ ends t q, P e ∧ NoStep t e
  | n, q, hn, hq, e, he => by
    by_cases hd : NoStep t q
    · rw [ends_done hd] at he
      simp at he; subst he
      exact ⟨hq, hd⟩
    · rw [ends_eq] at he
      by_cases hu : endsUp t q (q.length - 1) = []
      · exfalso
        apply hd
        intro a
        cases hs : stepAt t q a with
        | none => rfl
        | some r =>
          obtain ⟨x, l, hx⟩ := List.exists_cons_of_ne_nil (ends_ne (t := t) (q := r))
          have : x ∈ endsUp t q (q.length - 1) := mem_endsUp.mpr ⟨a, r, (stepAt_len hs).2, hs, by rw [hx]; simp⟩
          rw [hu] at this; cases this
      · rw [if_neg hu] at he
        obtain ⟨a, r, _, h2, h3⟩ := mem_endsUp.mp he
        have hl := (stepAt_len h2).1
        cases n with
        | zero => omega
        | succ n => exact ends_ind hP n r (by omega) (hP q a r hq h2) e h3
theorem ends_nodup {t : Tab} : ∀ (n : Nat) (q : List Nat), q.length ≤ n → (ends t q).Nodup
  | n, q, hn => by
    have up : ∀ k, (∀ a r, a < k → stepAt t q a = some r → (ends t r).Nodup) → (endsUp t q k).Nodup := by
      intro k
      induction k with
      | zero => intro _; exact List.nodup_nil
      | succ k ih =>
        intro h
        rw [endsUp_succ]
        have ih' := ih fun a r ha hs => h a r (by omega) hs
        cases hs : stepAt t q k with
        | none => exact ih'
        | some r =>
          show (addNew _ _).Nodup
          unfold addNew
          rw [List.nodup_append]
          refine ⟨ih', (h k r (by omega) hs).filter _, fun x hx y hy => ?_⟩
          rw [List.mem_filter] at hy
          rintro rfl
          simp at hy
          exact hy.2 hx
    rw [ends_eq]
    by_cases hu : endsUp t q (q.length - 1) = []
    · rw [if_pos hu]; simp
    · rw [if_neg hu]
      refine up _ fun a r _ hs => ?_
      have hl := (stepAt_len hs).1
      cases n with
      | zero => omega
      | succ n => exact ends_nodup n r (by omega)
theorem NoStep.done {t : Tab} {q : List Nat} (h : NoStep t q) : Done t q := by
  have : ∀ (q u : List Nat), (∀ a, stepAt t (u ++ q) a = none) → Done t q := by
    intro q
    induction q with
    | nil => intro _ _; trivial
    | cons x q ih =>
      intro u hu
      cases q with
      | nil => trivial
      | cons y q =>
        refine ⟨?_, ih (u ++ [x]) fun a => by have := hu a; simpa using this⟩
        cases e : t x y with
        | none => rfl
        | some z =>
          have := hu u.length
          rw [stepAt_of e] at this
          cases this
  exact this q [] (fun a => by have := h a; simpa using this)
/-- in a table without bad fours all ends of a queue are as long as the plain way's -/
theorem ends_left {t : Tab} {n : Nat} (E : Ev t n) {q : List Nat} (hq : ∀ y ∈ q, y < n) {e : List Nat} (he : e ∈ ends t q) : e.length = left t q ∧ Alike t n e q := by
  have := ends_ind (t := t) (P := fun r => Alike t n r q) (fun q' a r h hs => by
    obtain ⟨u, x, y, v, z, rfl, rfl, hz, rfl⟩ := stepAt_two hs
    exact (Alike.merge E h.1 hz).trans h) q.length q (Nat.le_refl _) (Alike.refl hq) e he
  refine ⟨?_, this.1⟩
  rw [← left_done this.2.done, this.1.left]
/-- no end is longer than its queue -/
theorem ends_le {t : Tab} {q e : List Nat} (he : e ∈ ends t q) : e.length ≤ q.length :=
  (ends_ind (t := t) (P := fun r => r.length ≤ q.length) (fun q' a r h hs => by have := (stepAt_len hs).1; omega) q.length q (Nat.le_refl _) (Nat.le_refl _) e he).1
end FM

end

section
/-! queues of four, by all ways. -/
namespace DH
open PySem PySem.Spec PyProof.Rows L2 FM
theorem noStep3 {t : Tab} {p q r : Nat} (h1 : t p q = none) (h2 : t q r = none) : NoStep t [p, q, r] := fun a => by
  match a with
  | 0 => show (t p q).map _ = none; rw [h1]; rfl
  | 1 => show (t q r).map _ = none; rw [h2]; rfl
  | a + 2 =>
    unfold stepAt
    have : [p, q, r][a + 2 + 1]? = none := by simp
    rw [this]
    cases [p, q, r][a + 2]? <;> rfl
theorem step4_1 {t : Tab} {a b c d x : Nat} (h : t b c = some (some x)) : stepAt t [a, b, c, d] 1 = some [a, x, d] := stepAt_of (u := [a]) (v := [d]) h
theorem step4_0 {t : Tab} {a b c d x : Nat} (h : t a b = some (some x)) : stepAt t [a, b, c, d] 0 = some [x, c, d] := stepAt_of (u := []) (v := [c, d]) h
theorem step4_2 {t : Tab} {a b c d x : Nat} (h : t c d = some (some x)) : stepAt t [a, b, c, d] 2 = some [a, b, x] := stepAt_of (u := [a, b]) (v := []) h
theorem end_via {t : Tab} {q r : List Nat} {a : Nat} (h : stepAt t q a = some r) : ∃ e ∈ ends t q, e.length ≤ r.length := by
  obtain ⟨x, l, hx⟩ := List.exists_cons_of_ne_nil (ends_ne (t := t) (q := r))
  have hm : x ∈ ends t r := by rw [hx]; simp
  exact ⟨x, ends_sub h hm, ends_le hm⟩
theorem bad_two {m : Rows} {n a b c d : Nat} (hw : Wf n m) (hs : Sound n m) (ha : a < n) (hb : b < n) (hc : c < n) (hd : d < n) (h : kindOf m a b c d ≠ none) :
    (∃ e ∈ ends (tab m) [a, b, c, d], e.length = 3) ∧ ∃ e ∈ ends (tab m) [a, b, c, d], e.length ≤ 2 := by
  have cl := tab_cl hw
  have sd := tab_snd hw hs
  have three : ∀ {a0 : Nat} {r : List Nat}, stepAt (tab m) [a, b, c, d] a0 = some r → NoStep (tab m) r → r.length = 3 → ∃ e ∈ ends (tab m) [a, b, c, d], e.length = 3 := fun {a0 r} h1 h2 h3 => ⟨r, ends_sub h1 (by rw [ends_done h2]; simp), h3⟩
  have two : ∀ {a0 a1 : Nat} {r r' : List Nat}, stepAt (tab m) [a, b, c, d] a0 = some r → stepAt (tab m) r a1 = some r' → r'.length ≤ 2 → ∃ e ∈ ends (tab m) [a, b, c, d], e.length ≤ 2 := fun {a0 a1 r r'} h1 h2 h3 => by
    obtain ⟨e, he, hl⟩ := end_via h2
    exact ⟨e, ends_sub h1 he, by omega⟩
  unfold kindOf at h
  by_cases h1 : (handB m a b c && handB m b c d) = true
  · rw [Bool.and_eq_true] at h1
    obtain ⟨x, y, l1, l2, l3⟩ := handB_two h1.1
    obtain ⟨y', z, l4, l5, l6⟩ := handB_two h1.2
    rw [l2] at l4
    have : y = y' := by have := Option.some.inj l4; omega
    subst this
    have tay : tab m a y = none := by
      have := sd a b c ha hb hc (some x) (some y) (tab_some l1) (tab_some l2)
      show rgt (tab m) a (some y) = none
      rw [← this]
      exact tab_none.mpr l3
    exact ⟨three (step4_1 (tab_some l2)) (noStep3 tay (tab_none.mpr l6)) rfl, two (step4_0 (tab_some l1)) (stepAt_of (u := [x]) (v := []) (tab_some l5)) (by simp [opt])⟩
  · rw [if_neg h1] at h
    by_cases h2 : (handB m b c d && (look m a b).isNone && !(look m a (mk m b c)).isNone) = true
    · simp only [Bool.and_eq_true, Option.isNone_iff_eq_none, Bool.not_eq_true', Option.isNone_eq_false_iff] at h2
      obtain ⟨⟨hh, hn⟩, hm⟩ := h2
      obtain ⟨y, z, l4, l5, l6⟩ := handB_two hh
      have ey : mk m b c = y := by unfold mk; rw [l4]; simp
      rw [ey] at hm
      have tbz : tab m b z = none := by
        have := sd b c d hb hc hd (some y) (some z) (tab_some l4) (tab_some l5)
        show rgt (tab m) b (some z) = none
        rw [← this]
        exact tab_none.mpr l6
      refine ⟨three (step4_2 (tab_some l5)) (noStep3 (tab_none.mpr hn) tbz) rfl, ?_⟩
      cases e : tab m a y with
      | none => rw [tab_none.mp e] at hm; cases hm
      | some w => exact two (step4_1 (tab_some l4)) (stepAt_of (u := []) (v := [d]) e) (by cases w <;> simp [opt])
    · rw [if_neg h2] at h
      by_cases h3 : (handB m a b c && (look m c d).isNone && !(look m (mk m b c) d).isNone) = true
      · simp only [Bool.and_eq_true, Option.isNone_iff_eq_none, Bool.not_eq_true', Option.isNone_eq_false_iff] at h3
        obtain ⟨⟨hh, hn⟩, hm⟩ := h3
        obtain ⟨x, y, l1, l2, l3⟩ := handB_two hh
        have ey : mk m b c = y := by unfold mk; rw [l2]; simp
        rw [ey] at hm
        refine ⟨three (step4_0 (tab_some l1)) (noStep3 (tab_none.mpr l3) (tab_none.mpr hn)) rfl, ?_⟩
        cases e : tab m y d with
        | none => rw [tab_none.mp e] at hm; cases hm
        | some w => exact two (step4_1 (tab_some l2)) (stepAt_of (u := [a]) (v := []) e) (by cases w <;> simp [opt])
      · rw [if_neg h3] at h
        exact absurd rfl h
/-- all fours end equally long -/
def Fours (n : Nat) (m : Rows) : Prop := ∀ q : List Nat, q.length = 4 → (∀ y ∈ q, y < n) → ∀ e ∈ ends (tab m) q, ∀ e' ∈ ends (tab m) q, e.length = e'.length
theorem fours_iff {m : Rows} {n : Nat} (hw : Wf n m) (hs : Sound n m) : NoBad n m ↔ Fours n m := by
  constructor
  · intro h q _ hq e he e' he'
    have E := ev_of hw hs h
    rw [(ends_left E hq he).1, (ends_left E hq he').1]
  · intro h a b c d ha hb hc hd
    cases hk : kindOf m a b c d with
    | none => rfl
    | some k =>
      obtain ⟨⟨e, he, h3⟩, e', he', h2⟩ := bad_two hw hs ha hb hc hd (by rw [hk]; simp)
      have := h [a, b, c, d] rfl (by intro y hy; simp at hy; rcases hy with rfl | rfl | rfl | rfl <;> assumption) e he e' he'
      omega
end DH

end

section
/-! DH: ints in lists; counts; repr of what is no object; rows compared. -/
namespace DH
open PySem PySem.Spec PyProof.Rows L2
section
variable {X : Cx} {ρ : Rho} {α : Sto} {R : RE} {o e : Expr} {apos cpos : Pos} {K : PySem.W.Frag}
theorem any_ints (ns : List Int) (i : Int) : (intsP ns).any (fun z => PyData.eqv z (.int i)) = decide (i ∈ ns) := by
  induction ns with
  | nil => rfl
  | cons a r ih =>
    simp only [intsP, List.map_cons, List.any_cons] at ih ⊢
    rw [ih, show PyData.eqv (.int a) (.int i) = decide (a = i) by simp [PyData.eqv]; cases h : (a == i) <;> simp_all, ← Bool.decide_or]
    apply decide_eq_decide.mpr
    rw [List.mem_cons]
    exact ⟨fun h => h.imp Eq.symm id, fun h => h.imp Eq.symm id⟩
theorem od_inI {i : Int} {ns : List Int} (h : R (.bl (decide (i ∈ ns))) α) : OD K (rInD K) (.int i) (.lst (ns.map D.int)) α R :=
  od_in (.int i) (py_intsL ns) rfl (sh_intsL ns) (by rw [any_ints]; exact h)
theorem od_ninI {i : Int} {ns : List Int} (h : R (.bl (!decide (i ∈ ns))) α) : OD K (rNotInD K) (.int i) (.lst (ns.map D.int)) α R :=
  od_nin (.int i) (py_intsL ns) rfl (sh_intsL ns) (by rw [any_ints]; exact h)
/-- xs.index(k), ints -/
theorem de_indexI (hu : X.A.units + 65 < cLine) (h : DE X o ρ α fun d α1 => ∃ ns : List Int, d = .lst (ns.map D.int) ∧ DE X e ρ α1 fun d2 α2 => ∃ (k : Int) (j : Nat), d2 = .int k ∧ ns[j]? = some k ∧ (∀ i, i < j → ns[i]? ≠ some k) ∧ R (.int (j : Nat)) α2)
    (hbase : attributeBase o "index" X.env (eval o X.env) = eval o X.env := by rfl)
    (hfew : ((backTo cpos (starEach (e :: []) X.env)).all (fun x => !x.1) && (backToKw cpos (keywordEach [] X.env)).all (fun x => x.1.isSome)
      && decide ((e :: ([] : List Expr)).length + ([] : List Keyword).length + (if ([] : List Keyword).isEmpty then 0 else 1) < 30)) = true := by rfl)
    (hline : (apos.endLine == cpos.line) = true := by rfl) (hst : starEach (e :: []) X.env = (false, eval e X.env) :: starEach [] X.env := by rfl) (hplain : (backTo cpos (starEach [] X.env)).any (·.1) = false := by rfl) :
    DE X (.Call (.Attribute o "index" apos) [e] [] cpos) ρ α R := by
  intro A σ H Q rep con
  refine wp_of (pe_bm PySem.F.plainAttrs_list PySem.F.slot_list_index PySem.F.type_list_index (mt_indexD hu) pe_wp (pa_cons pe_wp pa_nil hst) hbase hfew hline hst hplain) (h A σ H _ rep fun v d B α1 H1 h1 g s q => ?_)
  obtain ⟨ns, rfl, h1⟩ := h1
  have q0 := q
  cases q with
  | lst na eh r =>
    rename_i a xs
    refine ⟨.inl ⟨rfl, _, .inl (.inl eh)⟩, ?_⟩
    refine h1 _ σ H1 _ (rep.mono g s) fun u d2 B2 α2 H2 h2 g2 s2 q2 => ?_
    obtain ⟨k, j, rfl, ht, hno, hR⟩ := h2
    have d1 : Dp X.K H2 (.ref a) (.list (intsP ns)) := py_dp s2 (py_intsL (α := α2) ns) (q0.mono g2)
    have d2 : Dp X.K H2 u (.int k) := py_dp s2 (Py.int (α := α2) k) q2
    have gi : ∀ (i : Nat), (intsP ns)[i]? = (ns[i]?).map PyData.int := fun i => by unfold intsP; simp
    refine ⟨a, u, _, _, j, _, rfl, rfl, d1, d2, sh_intsL ns, rfl, by rw [gi j, ht]; rfl, by simp [PyData.eqv], fun i z hi hz => ?_, ?_⟩
    · rw [gi i] at hz
      cases e1 : ns[i]? with
      | none => rw [e1] at hz; cases hz
      | some k' =>
        rw [e1] at hz
        cases hz
        have : k' ≠ k := fun z => hno i hi (by rw [e1, z])
        simpa [PyData.eqv] using this
    · exact ((con.step g s).step g2 s2).now s2 (.int _) hR
/-- ints, bools, None, texts of few signs: repr whatever is under way -/
def rRepr0 : List V → Hp → VK → Prop := fun xs H Q => (∃ b, xs = [.bl b] ∧ Q (.str (if b then "True" else "False")) H) ∨ (xs = [.non] ∧ Q (.str "None") H) ∨ ∃ i : Int, xs = [.int i] ∧ i.natAbs.log2 < 1920 ∧ Q (.str (toString i)) H
theorem call_repr0 : CallR X (.builtin "repr") rRepr0 := by
  intro pins s σ H xs us Q I r h
  rcases h with ⟨b, rfl, q⟩ | ⟨rfl, q⟩ | ⟨i, rfl, hi, q⟩
  · obtain ⟨u, rfl, ru⟩ := vals1 r
    cases ru
    exact PySem.P.repr_of_bool ⟨.str _, H, I.tok _, ⟨_, rfl⟩, q⟩
  · obtain ⟨u, rfl, ru⟩ := vals1 r
    cases ru
    exact PySem.P.repr_of_none ⟨.str _, H, I.tok _, ⟨_, rfl⟩, q⟩
  · obtain ⟨u, rfl, ru⟩ := vals1 r
    obtain ⟨t, rfl⟩ := ru
    exact PySem.P.repr_of_int hi ⟨.str _, H, I.tok _, ⟨_, rfl⟩, q⟩
theorem cd_reprB {b : Bool} (h : R (.str (if b then "True" else "False")) α) : CD K rRepr0 [.bl b] α R := by
  intro A H xs s q Q c
  cases q with
  | cons q r => cases r; exact .inl ⟨b, by rw [q.bl_inv], c.now s (.str _) h⟩
theorem cd_reprI {i : Int} (hi : i.natAbs < 10 ^ 18) (h : R (.str (toString i)) α) : CD K rRepr0 [.int i] α R := by
  intro A H xs s q Q c
  cases q with
  | cons q r => cases r; exact .inr (.inr ⟨i, by rw [q.int_inv], log_small hi, c.now s (.str _) h⟩)
theorem eqv_bl (a b : Bool) : PyData.eqv (.bool a) (.bool b) = decide (a = b) := by cases a <;> cases b <;> rfl
theorem od_neB {a b : Bool} (h : R (.bl (!decide (a = b))) α) : OD K (rNeD K) (.bl a) (.bl b) α R := od_ne (.bl a) (.bl b) rfl rfl (by rw [eqv_bl]; exact h)
theorem od_eqB {a b : Bool} (h : R (.bl (decide (a = b))) α) : OD K (rEqD K) (.bl a) (.bl b) α R := od_eq (.bl a) (.bl b) rfl rfl (by rw [eqv_bl]; exact h)
theorem od_eqTI {a b : List Int} (h : R (.bl (decide (a = b))) α) : OD K (rEqD K) (.tup (a.map D.int)) (.tup (b.map D.int)) α R := od_eq (py_intsT a) (py_intsT b) (sh_intsT a) (sh_intsT b) (by rw [eqv_intsT]; exact h)
theorem od_neTI {a b : List Int} (h : R (.bl (!decide (a = b))) α) : OD K (rNeD K) (.tup (a.map D.int)) (.tup (b.map D.int)) α R := od_ne (py_intsT a) (py_intsT b) (sh_intsT a) (sh_intsT b) (by rw [eqv_intsT]; exact h)
/-! rows of a merger compared -/
def encP (r : List (Option Int)) : List PyData := r.map pyE
theorem py_encR (r : List (Option Int)) : Pys α (encR r) (encP r) := by
  induction r with
  | nil => exact .nil
  | cons x r ih => exact .cons (py_enc x) ih
theorem lay_encP : ∀ r : List (Option Int), PyData.canLayAll0 (encP r) = true ∧ PyData.depthAll (encP r) = 0
  | [] => ⟨rfl, rfl⟩
  | x :: r => by
    have ih := lay_encP r
    cases x <;> simp only [encP, List.map_cons, pyE, PyData.canLayAll0, PyData.canLay0, PyData.depthAll, PyData.depth, Bool.true_and] at ih ⊢ <;> exact ⟨ih.1, by rw [ih.2]; rfl⟩
def tupP (m : Rows) : List PyData := m.map fun r => .tuple (encP r)
theorem py_tupR (m : Rows) : Py α (tupR m) (.tuple (tupP m)) := by
  refine .tup ?_
  induction m with
  | nil => exact .nil
  | cons r m ih => exact .cons (.tup (py_encR r)) ih
theorem lay_tupP : ∀ m : Rows, PyData.canLayAll0 (tupP m) = true ∧ PyData.depthAll (tupP m) ≤ 1
  | [] => ⟨rfl, Nat.zero_le _⟩
  | r :: m => by
    have ih := lay_tupP m
    have hr := lay_encP r
    simp only [tupP, List.map_cons, PyData.canLayAll0, PyData.canLay0, PyData.depthAll, PyData.depth, hr.1, hr.2, Bool.true_and] at ih ⊢
    exact ⟨ih.1, by have := ih.2; omega⟩
theorem sh_tupR (m : Rows) : SeqAt.shaped (.tuple (tupP m)) = true := by
  unfold SeqAt.shaped
  have := lay_tupP m
  simp only [PyData.canLay0, PyData.depth, this.1, Bool.true_and]
  exact decide_eq_true (by have := this.2; omega)
theorem od_neRows {m : Rows} (h : R (.bl false) α) : OD K (rNeD K) (tupR m) (tupR m) α R := od_ne (py_tupR m) (py_tupR m) (sh_tupR m) (sh_tupR m) (by rw [SeqAt.eqv_refl _ (SeqAt.canLay_of_shaped (sh_tupR m))]; exact h)
/-- xs.count(e), texts -/
def rCntS (K : PySem.W.Frag) : V → List V → Hp → VK → Prop := fun x xs H Q => ∃ (p : Addr) (ys : List Str) (k : Str), x = .ref p ∧ xs = [.str k] ∧ SqL K H p (ys.map V.str) ∧ Q (.int (ys.count k : Nat)) H
theorem cnt_strs {k : Str} : ∀ {us : List Value} {ys : List Str}, Vals (ys.map V.str) us → us.countP (eqU (.str k)) = ys.count k
  | _, [], .nil => rfl
  | _, y :: ys, .cons r t => by
    have ih := cnt_strs (k := k) t
    rw [List.countP_cons, List.count_cons, ih, eqU_of r rfl]
    rfl
theorem mt_cntS : MtR X "list.count" (rCntS X.K) := by
  intro pins s σ H x xs v us Q I rx rxs h
  obtain ⟨p, ys, k, rfl, rfl, hs, q⟩ := h
  cases rx
  obtain ⟨u, rfl, t, rfl⟩ := vals1 rxs
  obtain ⟨its, rv, ⟨⟨cls, dd, data, sl⟩, n, ho, hc, hdn, hd⟩, hlen⟩ := I.list hs
  simp only at hc hd
  subst hc hd
  refine call_meets PySem.F.slot_list_count ⟨_, ho, rfl⟩ PySem.F.entry_list_count (PySem.F.args_list_count_2 _ _)
    (SeqAt.list_countAt p its.toArray n dd sl (.str k t) (eqU (.str k))) ⟨ho, fun y hy => mem_eqAt (x := .str k) ⟨t, rfl⟩ rfl rv (flat_strs ys) y (by simpa using hy), ?_⟩
  refine ⟨.int (ys.count k : Nat), H, I.tok _, ⟨s.toks, ?_⟩, q⟩
  have ec : its.toArray.toList.countP (eqU (.str k)) = ys.count k := by simpa using cnt_strs (k := k) rv
  show Value.int ((its.toArray.toList.countP (eqU (.str k)) : Nat) : Int) s.toks = Value.int ((ys.count k : Nat) : Int) s.toks
  rw [ec]
theorem das_strs {A : List Addr} {H : Hp} : ∀ {xs : List V} {ys : List Str}, Das K A H xs (ys.map D.str) → xs = ys.map V.str
  | _, [], .nil => rfl
  | _, n :: ns, .cons h t => by rw [h.str_inv, das_strs t]; rfl
theorem de_countS (h : DE X o ρ α fun d α1 => ∃ ys : List Str, cont α1 d = some (ys.map D.str) ∧ isT d = false ∧ DE X e ρ α1 fun d2 α2 => ∃ k, d2 = .str k ∧ α2 = α1 ∧ R (.int (ys.count k : Nat)) α2)
    (hbase : attributeBase o "count" X.env (eval o X.env) = eval o X.env := by rfl)
    (hfew : ((backTo cpos (starEach (e :: []) X.env)).all (fun x => !x.1) && (backToKw cpos (keywordEach [] X.env)).all (fun x => x.1.isSome)
      && decide ((e :: ([] : List Expr)).length + ([] : List Keyword).length + (if ([] : List Keyword).isEmpty then 0 else 1) < 30)) = true := by rfl)
    (hline : (apos.endLine == cpos.line) = true := by rfl) (hst : starEach (e :: []) X.env = (false, eval e X.env) :: starEach [] X.env := by rfl) (hplain : (backTo cpos (starEach [] X.env)).any (·.1) = false := by rfl) :
    DE X (.Call (.Attribute o "count" apos) [e] [] cpos) ρ α R := by
  intro A σ H Q rep con
  refine wp_of (pe_bm PySem.F.plainAttrs_list PySem.F.slot_list_count PySem.F.type_list_count mt_cntS pe_wp (pa_cons pe_wp pa_nil hst) hbase hfew hline hst hplain) (h A σ H _ rep fun v d B α1 H1 h1 g s q => ?_)
  obtain ⟨ys, hc, ht, h1⟩ := h1
  obtain ⟨a, xs, rfl, hs, rr⟩ := readSeq s q hc
  have hs : SqL X.K H1 a xs := hs.elim (fun z => z.2) (fun z => by rw [ht] at z; cases z.1)
  refine ⟨.inl ⟨rfl, _, hs⟩, ?_⟩
  refine h1 _ σ H1 _ (rep.mono g s) fun u d2 B2 α2 H2 h2 g2 s2 q2 => ?_
  obtain ⟨k, rfl, rfl, hR⟩ := h2
  obtain ⟨a', xs', e', hs', rr'⟩ := readSeq s2 (q.mono g2) hc
  cases e'
  have hs' : SqL X.K H2 a xs' := hs'.elim (fun z => z.2) (fun z => by rw [ht] at z; cases z.1)
  rw [das_strs rr'] at hs'
  exact ⟨a, ys, k, rfl, by rw [q2.str_inv], hs', ((con.step g s).step g2 s2).now s2 (.int _) hR⟩
/-- comprehensions whose walked thing changes the store -/
theorem LcGT.filter' {elt iter tg : Expr} {ifs : List Expr} {scope : Scope} {T : Tg} {vs : List Nat} {Fin : Sto → List D → Prop} (h : DI X tg iter ρ α fun ds stays α1 => (∀ acc, stays (α1 ++ [.l acc])) ∧ ds.length < 1000000 ∧ ∃ zf : D → Option D,
    (∀ y acc, y ∈ ds → ∃ ρ', T.put (wipeR ρ vs) y = some ρ' ∧ ∀ s H C cl fp, DTs (X.blk s H scope (compEnvC scope cl C X.env) fp) ifs ρ' (α1 ++ [.l acc]) fun b α2 => α2 = α1 ++ [.l acc] ∧
      if b = true then ∀ s H C cl fp, DE (X.blk s H scope (compEnvC scope cl C X.env) fp) elt ρ' (α1 ++ [.l acc]) fun d α3 => zf y = some d ∧ α3 = α1 ++ [.l acc] else zf y = none) ∧ Fin α1 (ds.filterMap zf)) : LcGT X elt tg iter ifs scope vs T ρ α Fin := by
  intro A σ H Q r c
  refine h A σ H Q r fun J ds stays B α1 H1 h1 g s yl => c J ds stays B α1 H1 ?_ g s yl
  obtain ⟨st, hz, zf, turn, fin⟩ := h1
  refine ⟨fun k α' ys => k ≤ ds.length ∧ α' = α1 ∧ ys = (ds.take k).filterMap zf, ⟨Nat.zero_le _, rfl, by simp⟩, hz, ?_, ?_, ?_⟩
  · rintro k α' ys ⟨hk, rfl, rfl⟩
    refine ⟨rfl, Nat.le_trans (List.length_filterMap_le _ _) (by simp; omega), st _⟩
  · rintro k y α' ys hy ⟨hk, rfl, rfl⟩
    have hk' : k < ds.length := (List.getElem?_eq_some_iff.mp hy).1
    have hm : (ds.take (k + 1)).filterMap zf = (ds.take k).filterMap zf ++ (match zf y with | some z => [z] | none => []) := by
      rw [List.take_add_one, hy, List.filterMap_append]
      cases hf : zf y <;> simp [hf]
    obtain ⟨ρ', hp, turn'⟩ := turn y _ (List.mem_of_getElem? hy)
    refine ⟨ρ', hp, fun s H C cl fp => ?_⟩
    intro A1 σ1 H1 Q1 r1 c1
    refine turn' s H C cl fp A1 σ1 H1 Q1 r1 fun b B2 α3 H3 h3 g3 s3 => c1 b B2 α3 H3 ?_ g3 s3
    obtain ⟨e3, h3⟩ := h3
    refine ⟨α', e3, rfl, ?_⟩
    cases b with
    | false =>
      rw [if_neg Bool.false_ne_true] at h3 ⊢
      exact ⟨hk', rfl, by rw [hm, h3]; simp⟩
    | true =>
      rw [if_pos rfl] at h3 ⊢
      intro s H C cl fp
      refine (h3 s H C cl fp).imp fun d α4 h4 => ?_
      obtain ⟨e4, rfl⟩ := h4
      exact ⟨_, rfl, rfl, hk', rfl, by rw [hm, e4]⟩
  · rintro α' ys ⟨_, rfl, rfl⟩
    rw [List.take_length]; exact fin
end
end DH

end

section
/-! DH: {k: v for ..} whose keys are tuples. -/
namespace DH
open PySem PySem.Spec PyProof.Rows L2
section
variable {X : Cx}
/-- a key put by a comprehension -/
theorem dh_dictSet {pins : List (Addr × Obj)} {σ : L2.St} {H : Hp} {s : Shared} {E : Value → Shared → Prop} {D b : Addr} {kvs : List (List Key × V)} {k : List Key} {v : V} {r : Value} {Q : Unit → Shared → Prop} (hu : X.A.units < cLine) (I : Inv X pins σ H s) (hD : H D = some (.dT kvs)) (hb : H b = some (.tup (k.map kV))) (hz : kvs.length < sizeLine)
    (rv : RelV v r) (h : ∀ s', Inv X pins σ (upd H D (.dT (putK kvs k v))) s' → Q () s') : wpAny (model X.prog X.w) X.A (dictSet D (.ref b) r) Q E s := by
  obtain ⟨z, hd, xs, rel, dd⟩ := dt_of I.hok hD
  have hzv : xs.length ≤ sizeLine := by rw [← Paired.length rel]; exact z
  have hl : (putK kvs k v).length ≤ sizeLine := by have := length_putK kvs k v; omega
  refine wpAny_dictSet_heap (hsz := hzv) (knd := tupleKind (mixKind X.prog X.w)) (show X.A.units < cLine from hu) (key_of I.hok hb) dd fun h' dd' hs => h _ ?_
  obtain ⟨q, es, ep, hq, h2, h3, h4, _, h5⟩ := dd'
  refine d_write I (by rw [hD]; exact True.intro) hs ⟨q, hq⟩ ⟨hl, hd, _, (rel.put k hb rv).keeps fun c ys ec => ?_, q, es, ep, hq, h2, h3, h4, h5⟩
  rw [upd_ne (ne_of ec hD (fun z => nomatch z))]
  exact ec
/-- the reading: D the new dict, keys tuples -/
def tDcT (wi : TI) (g : TG) (tt : TT) (tk tv : TE) (vs : List Nat) : TE := fun σ H Q => wi σ H fun J H1 => ∀ D, H1 D = none → ∃ W : Nat → Nat → Hp → Prop, (∃ m, W 0 m (upd H1 D (.dT []))) ∧ ∀ i m H, W i m H →
  (J.stop i H ∧ Q (.ref D) H) ∨ (J.go i H ∧ ∃ Nx : Hp → Prop, (∀ H', Nx H' → ∃ m', m' < m ∧ W (i + 1) m' H') ∧ ∀ x H', J.yld i H x H' → g x (wipe σ vs) H' fun σ2 H2 => wipe σ2 vs = wipe σ vs ∧ tt σ2 H2 fun b H3 =>
    if b = true then tk σ2 H3 fun y H4 => tv σ2 H4 fun z H5 => ∃ kvs k b, y = .ref b ∧ H5 b = some (.tup (k.map kV)) ∧ H5 D = some (.dT kvs) ∧ kvs.length < sizeLine ∧ Nx (upd H5 D (.dT (putK kvs k z))) else Nx H3)
theorem dcT_core {pins : List (Addr × Obj)} {s : Shared} {σ : L2.St} {H : Hp} {Q : VK} {kx vx tg iter : Expr} {ifs : List Expr} {scope : Scope} {own : List (Str × Nat)} {pos pos' : Pos} {wi : TI} {g : TG} {tt : TT} {tk tv : TE} {use : Option (Value → Sem Unit)} {Qf : Value → Shared → Prop}
    (hu : X.A.units < cLine) (calm : X.calm = true) (hN : X.N.Nodup) (I : Inv X pins σ H s) (hi : PI X tg iter wi) (ok : BlkOk X.N X.env.scope scope own)
    (hg : ∀ (s : Shared) (H : Hp) (C : Addr) (cl : List (Str × Addr)) (fp : List Addr), PG (X.blk s H scope (compEnvC scope cl C X.env) fp) tg g) (ht : ∀ (s : Shared) (H : Hp) (C : Addr) (cl : List (Str × Addr)) (fp : List Addr), PTs (X.blk s H scope (compEnvC scope cl C X.env) fp) ifs tt)
    (hk : ∀ (s : Shared) (H : Hp) (C : Addr) (cl : List (Str × Addr)) (fp : List Addr), PE (X.blk s H scope (compEnvC scope cl C X.env) fp) kx tk)
    (he : ∀ (s : Shared) (H : Hp) (C : Addr) (cl : List (Str × Addr)) (fp : List Addr), PE (X.blk s H scope (compEnvC scope cl C X.env) fp) vx tv) (hs : ∀ x, foldedSetIterable iter X.env x = pure x)
    (h : tDcT wi g tt tk tv (own.map (·.2)) σ H Q)
    (back : ∀ D C s' m H', Inv X pins σ H' s' → Q (.ref D) H' → s'.heap.Ns C m → FpOk X pins H' C → compPost (model X.prog X.w) X.A X.xe use Qf (.ref D) C (.ok .next) s') :
    wpAny (model X.prog X.w) X.A (comprehension (.DictComp kx vx [⟨tg, iter, ifs, 0⟩] scope pos) scope X.env pos' newDict false (eval iter X.env) use) Qf X.xe s := by
  have free : ∀ y ∈ scope.names, y.2 = .free → ∃ c, X.env.cells.lookup y.1 = some c := by
    intro y hy e
    rcases ok.free y hy e with k | k
    · exact I.ok.has _ (.inl k)
    · exact I.ok.has _ (.inr k)
  refine wpAny_comprehension_free (use := use) rfl hs (closure_ok free) ok.kind (fun y hy e => by rw [ok.uniq y hy, e]) (thn (hi.run pins s σ H _ I h) fun xv s1 hx => thn hx fun itv s2 h2 => ?_)
  obtain ⟨it, fp, tn, J, H2, rfl, I2, T, st2, f2, q⟩ := h2
  refine wpAny_newObj_type (newEnv_comp ?_)
  generalize hD : s2.heap.objs.size = D
  obtain ⟨W, ⟨m0, w0⟩, turn⟩ := q D (I2.hok.fresh (Nat.le_of_eq hD))
  generalize hs3 : ({ s2 with heap := s2.heap.push { cls := .type "dict", data := .dict #[] } } : Shared) = s3
  have h3 : s3.heap = s2.heap.push { cls := .type "dict", data := .dict #[] } := by rw [← hs3]
  have I3 : Inv X pins σ (upd H2 D (.dT [])) s3 := by
    rw [← hs3]
    refine I2.laid (t' := s2.toks) (fun b o e => Heap.get?_push_of_some _ e) (Nat.le_of_eq hD) ?_
    rw [← hD]
    exact dt_empty s2.heap I2.big
  have below : ∀ b ∈ fp, b < s2.heap.objs.size := by
    intro b hb
    obtain ⟨o, e, _⟩ := T.obj _ _ st2 b hb
    exact Heap.lt_size e
  have f3 : ∀ b ∈ fp, FpOk X pins (upd H2 D (.dT [])) b ∧ b < s3.heap.objs.size := by
    intro b hb
    have hlt := below b hb
    refine ⟨⟨?_, (f2 b hb).2⟩, by rw [h3, Heap.size_push]; exact Nat.lt_succ_of_lt hlt⟩
    rw [upd_ne (by rw [← hD]; exact Nat.ne_of_lt hlt)]
    exact (f2 b hb).1
  have st3 : tn 0 s3.heap := T.keep _ _ _ st2 fun b _ o e => by rw [h3]; exact Heap.get?_push_of_some _ e
  have I4 := block_start I3 ok hN f3
  generalize hcl : cellsFrom (s3.heap.objs.size + 1) scope.names (cloFrom X.env.cells scope.names []) = cl at I4 ⊢
  have pg := hg s3 (upd H2 D (.dT [])) s3.heap.objs.size cl fp
  have pt := ht s3 (upd H2 D (.dT [])) s3.heap.objs.size cl fp
  have pk := hk s3 (upd H2 D (.dT [])) s3.heap.objs.size cl fp
  have pe := he s3 (upd H2 D (.dT [])) s3.heap.objs.size cl fp
  show codeAny _ _ (.compStart (.DictComp kx vx [⟨tg, iter, ifs, 0⟩] scope pos) 0 (.ref it) (.ref D) (compEnvC scope cl s3.heap.objs.size X.env)) (compPost (model X.prog X.w) X.A X.xe use Qf (.ref D) s3.heap.objs.size) { s3 with heap := pushCells (s3.heap.push { cls := .type "dict", data := .dict #[] }) scope.names }
  have nofp : ∀ b ∈ fp, (upd H2 D (.dT [])) b = none := fun b hb => (f3 b hb).1.1
  generalize hce : compEnvC scope cl s3.heap.objs.size X.env = ce at I4 pg pt pk pe ⊢
  have cL : ce.locals = s3.heap.objs.size := by subst hce; rfl
  generalize hH3 : upd H2 D (.dT []) = H3 at I3 I4 pg pt pk pe w0 nofp f3
  generalize hs4 : ({ s3 with heap := pushCells (s3.heap.push { cls := .type "dict", data := .dict #[] }) scope.names } : Shared) = s4 at I4 ⊢
  have st4 : tn 0 s4.heap := T.keep _ _ _ st3 fun b _ o e => by rw [← hs4]; exact pushCells_keeps _ _ _ _ (Heap.get?_push_of_some _ e)
  have stat : ∀ {σ' : L2.St} {H' : Hp} {s' : Shared}, Inv (X.blk s3 H3 scope ce fp) [] σ' H' s' → (∀ b ∈ fp, H' b = none) → ∀ b ∈ fp, FpOk (X.blk s3 H3 scope ce fp) [] H' b := fun {σ' H' s'} I' hn b hb =>
    ⟨hn b hb, (I'.ok.exf b hb).1, I'.ok.exfs b hb, .inl hb, fun x c e => (I'.ok.exf b hb).2 x c e, fun p hp => absurd (show p ∈ ([] : List (Addr × Obj)) ++ [] from hp) (by simp)⟩
  have loop : codeAny (model X.prog X.w) X.A (.compLoop (.DictComp kx vx [⟨tg, iter, ifs, 0⟩] scope pos) 0 (.ref it) (.ref D) ce) (compPost (model X.prog X.w) X.A X.xe use Qf (.ref D) s3.heap.objs.size) s4 := by
    refine compLoop_anyD (fun n s' => ∃ i H', Inv (X.blk s3 H3 scope ce fp) [] (wipe σ (own.map (·.2))) H' s' ∧ tn i s'.heap ∧ (∀ b ∈ fp, H' b = none) ∧ W i n H') ?_ m0 ⟨0, H3, I4, st4, nofp, w0⟩
    rintro n s5 ⟨i, H5, I5, st5, n5, w5⟩
    rcases turn i n H5 w5 with ⟨stop, qq⟩ | ⟨go, Nx, hNx, step⟩
    · refine thnF (T.done (X.blk s3 H3 scope ce fp) rfl rfl rfl calm i [] s5 _ H5 (fun _ _ => False) I5 (stat I5 n5) st5 stop) fun r s6 ⟨hr, I6⟩ => ?_
      subst hr
      have I7 : Inv X pins σ H5 s6 := I3.call' (ch := fp) I6.os I6.base I6.hok I6.bare fun b hb => ⟨(f3 b hb).1.2.2.2.1, (f3 b hb).1.2.1, (f3 b hb).1.2.2.2.2.1, (f3 b hb).1.2.2.2.2.2⟩
      have nC : H5 s3.heap.objs.size = none := by
        have z : H5 ce.locals = none := I6.free
        rwa [cL] at z
      obtain ⟨m, hn, _⟩ := I6.loc
      have hn : s6.heap.Ns ce.locals m := hn
      rw [cL] at hn
      exact back D s3.heap.objs.size s6 m H5 I7 qq hn (I3.fpOk (Nat.le_refl _) nC)
    · refine thnF (T.item (X.blk s3 H3 scope ce fp) rfl rfl rfl calm i [] s5 _ H5 (fun _ _ => False) I5 (stat I5 n5) st5 go) fun r s6 ⟨u, hr, h6⟩ => ?_
      subst hr
      refine thnF h6 fun _ s7 ⟨x, H7, I7, r7, y7, st7, n7⟩ => ?_
      have I7' := I7.pinned (stat I7 n7) (T.obj _ _ st7)
      refine thnF (pg.run _ s7 _ H7 x u _ I7' r7 (step x H7 y7)) fun _ s8 ⟨σ8, H8, I8, hw8, q8⟩ => ?_
      refine thnF (pt.run _ s8 σ8 H8 _ I8 q8) fun b s9 ⟨H9, I9, q9⟩ => ?_
      have fin : ∀ {s' : Shared} {H' : Hp}, Inv (X.blk s3 H3 scope ce fp) ([] ++ pinsAt fp s7.heap) σ8 H' s' → Nx H' → ∃ m, m < n ∧ ∃ i H', Inv (X.blk s3 H3 scope ce fp) [] (wipe σ (own.map (·.2))) H' s' ∧ tn i s'.heap ∧ (∀ b ∈ fp, H' b = none) ∧ W i m H' := by
        intro s' H' I' nx
        obtain ⟨m', hm, w'⟩ := hNx H' nx
        have pin' : ∀ b ∈ fp, ∀ o, s7.heap.get? b = some o → s'.heap.get? b = some o ∧ H' b = none := fun b hb o e =>
          let z := I'.pin (b, o) (List.mem_append_right _ (List.mem_append_right _ (mem_pinsAt hb e)))
          ⟨z.1, z.2.1⟩
        have hl : (wipe σ (own.map (·.2))).length = σ8.length := by rw [← hw8, wipe_length]
        refine ⟨m', hm, i + 1, H', (I'.unpinned (pins := [])).weak hl (fun j v e => ?_), T.keep _ _ _ st7 fun b hb o e => (pin' b hb o e).1, fun b hb => ?_, w'⟩
        · rw [← hw8] at e
          exact (wipe_some e).1
        · obtain ⟨o, e, _⟩ := T.obj _ _ st7 b hb
          exact (pin' b hb o e).2
      cases b with
      | false =>
        simp only [Bool.false_eq_true, if_false] at q9 ⊢
        exact fin I9 q9
      | true =>
        simp only [if_true] at q9 ⊢
        refine thnF (pk.run _ s9 σ8 H9 _ I9 q9) fun z s10 ⟨yk, H10, I10, r10, q10⟩ => ?_
        refine thnF (pe.run _ s10 σ8 H10 _ I10 q10) fun z2 s11 ⟨yv, H11, I11, r11, kvs, k, bk, ek, hkb, hD11, hz11, nx⟩ => ?_
        subst ek
        cases r10
        exact dh_dictSet (X := X.blk s3 H3 scope ce fp) hu I11 hD11 hkb hz11 r11 fun s12 I12 => fin I12 nx
  exact codeAny_compStart_dict loop (T.self X.A 0 _ _ _ st4 loop)
theorem pe_dcT {kx vx tg iter : Expr} {ifs : List Expr} {scope : Scope} {own : List (Str × Nat)} {pos : Pos} {wi : TI} {g : TG} {tt : TT} {tk tv : TE} (hu : X.A.units < cLine) (calm : X.calm = true) (hN : X.N.Nodup) (hi : PI X tg iter wi) (ok : BlkOk X.N X.env.scope scope own)
    (hg : ∀ (s : Shared) (H : Hp) (C : Addr) (cl : List (Str × Addr)) (fp : List Addr), PG (X.blk s H scope (compEnvC scope cl C X.env) fp) tg g) (ht : ∀ (s : Shared) (H : Hp) (C : Addr) (cl : List (Str × Addr)) (fp : List Addr), PTs (X.blk s H scope (compEnvC scope cl C X.env) fp) ifs tt)
    (hk : ∀ (s : Shared) (H : Hp) (C : Addr) (cl : List (Str × Addr)) (fp : List Addr), PE (X.blk s H scope (compEnvC scope cl C X.env) fp) kx tk)
    (he : ∀ (s : Shared) (H : Hp) (C : Addr) (cl : List (Str × Addr)) (fp : List Addr), PE (X.blk s H scope (compEnvC scope cl C X.env) fp) vx tv) (hs : ∀ x, foldedSetIterable iter X.env x = pure x := by intro _; rfl) :
    PE X (.DictComp kx vx [⟨tg, iter, ifs, 0⟩] scope pos) (tDcT wi g tt tk tv (own.map (·.2))) := by
  refine ⟨fun pins s σ H Q I h => ?_⟩
  rw [arm_eval_DictComp]
  refine dcT_core hu calm hN I hi ok hg ht hk he hs h fun D C s' m H' I' q hn f => ⟨m, hn, fun h'' sb => ?_⟩
  obtain ⟨f0, f1, f2, f3, f4, f5⟩ := f
  exact ⟨.ref D, H', I'.turned (t' := s'.toks) (fun b o hb e => (sb.2 b hb).trans e) f0 f1 f3 f4 f5, rfl, q⟩
end
section
variable {X : Cx} {ρ : Rho} {α : Sto} {R : RE} {kx vx iter tg : Expr} {ifs : List Expr} {scope : Scope} {own : List (Str × Nat)} {p pos : Pos} {T : Tg}
/-- {kx: vx for tg in iter if ..}, keys tuples: the new dict is a cell -/
def DcTT (X : Cx) (kx vx tg iter : Expr) (ifs : List Expr) (scope : Scope) (vs : List Nat) (T : Tg) (ρ : Rho) (α : Sto) (R : RE) : Prop :=
  DI X tg iter ρ α fun ds stays α1 => ∃ V : Nat → Sto → Prop, V 0 (α1 ++ [.td []]) ∧ (∀ k α', V k α' → stays α') ∧
    (∀ k y α', ds[k]? = some y → V k α' → ∃ ρ', T.put (wipeR ρ vs) y = some ρ' ∧ ∀ s H C cl fp, DTs (X.blk s H scope (compEnvC scope cl C X.env) fp) ifs ρ' α' fun b α2 =>
      if b = true then ∀ s H C cl fp, DE (X.blk s H scope (compEnvC scope cl C X.env) fp) kx ρ' α2 fun z α3 => ∀ s H C cl fp, DE (X.blk s H scope (compEnvC scope cl C X.env) fp) vx ρ' α3 fun u α4 =>
        ∃ es key, z = .tup (key.map kD) ∧ α4[α1.length]? = some (.td es) ∧ es.length < 1000000 ∧ V (k + 1) (α4.set α1.length (.td (putP es key u)))
      else V (k + 1) α2) ∧
    (∀ α', V ds.length α' → R (.acc α1.length) α')
theorem de_dctT (T : Tg) (hu : X.A.units < cLine) (calm : X.calm = true) (hN : X.N.Nodup) (ok : BlkOk X.N X.env.scope scope own) (hi : T.all (fun i => decide (i ∈ own.map (·.2))) = true)
    (hg : BlkG X scope tg T) (h : DcTT X kx vx tg iter ifs scope (own.map (·.2)) T ρ α R) (hs : ∀ x, foldedSetIterable iter X.env x = pure x := by intro _; rfl) : DE X (.DictComp kx vx [⟨tg, iter, ifs, 0⟩] scope pos) ρ α R := by
  intro A σ H Q rep con
  refine wp_of (pe_dcT hu calm hN pi_wp ok hg (blkT_ok X scope ifs) (blkE_ok X scope kx) (blkE_ok X scope vx) hs) ?_
  refine h A σ H _ rep fun J ds stays B1 α1 H1 h1 g1 s1 yl L hL => ?_
  obtain ⟨V, v0, st, turn, fin⟩ := h1
  obtain ⟨s2, g2⟩ := s1.cellNew (c := .td []) hL ⟨[], rfl, .nil⟩
  have rep2 := (rep.mono g1 s1).mono g2 s2
  refine ⟨fun k m H' => m = ds.length - k ∧ k ≤ ds.length ∧ ∃ B' α', V k α' ∧ Gr (A ++ B1 ++ [L]) (upd H1 L (.dT [])) B' H' ∧ So X.K (A ++ B1 ++ [L] ++ B') H' α', ⟨_, rfl, Nat.zero_le _, [], _, v0, Gr.refl _ _, by rw [List.append_nil]; exact s2⟩, ?_⟩
  rintro k m H' ⟨rfl, hk, B', α', vk, g', s'⟩
  have gt : Gr (A ++ B1) H1 ([L] ++ B') H' := g2.trans s2 g'
  have st' : So X.K (A ++ B1 ++ ([L] ++ B')) H' α' := by rw [← List.append_assoc]; exact s'
  have yl' := yl ([L] ++ B') H' α' gt st' (st k α' vk) k
  by_cases hlt : k < ds.length
  · obtain ⟨go, yd⟩ := yl'.2 ds[k] (by simp [hlt])
    refine .inr ⟨go, fun H3 => ∃ B3 α3, V (k + 1) α3 ∧ Gr (A ++ B1 ++ [L]) (upd H1 L (.dT [])) B3 H3 ∧ So X.K (A ++ B1 ++ [L] ++ B3) H3 α3, fun H3 ⟨B3, α3, v3, g3, a3⟩ => ⟨_, by omega, rfl, hlt, B3, α3, v3, g3, a3⟩, fun y H'' hy => ?_⟩
    obtain ⟨keep, da⟩ := yd y H'' hy
    have gk : Gr (A ++ B1 ++ [L] ++ B') H' [] H'' := gr_same keep
    have sk : So X.K (A ++ B1 ++ [L] ++ B') H'' α' := s'.same keep
    have gk3 : Gr (A ++ B1 ++ [L]) (upd H1 L (.dT [])) B' H'' := by have := g'.trans s' gk; rwa [List.append_nil] at this
    have rk : Rep X.K (A ++ B1 ++ [L] ++ B') H'' σ ρ α' := (rep2.mono gk3 sk)
    have da' : Da X.K (A ++ B1 ++ [L] ++ B') H'' y ds[k] := by rw [← List.append_assoc] at da; exact da
    obtain ⟨ρ', hp, turn'⟩ := turn k ds[k] α' (by simp [hlt]) vk
    refine Tg.ok (σ0 := σ) hi (rep_wipe rk (own.map (·.2))) da' hp (by
      apply List.ext_getElem?
      intro j
      rw [wipe_get, wipe_get, wipe_length]
      by_cases hj : j ∈ own.map (·.2) <;> simp [hj]) fun σ2 rw_ hw2 => ⟨hw2, fun s H0 C cl fp => ?_⟩
    refine turn' s H0 C cl fp _ _ H'' _ rw_ fun b B4 α4 H4 h4 g4 s4 => ?_
    have g5 : Gr (A ++ B1 ++ [L]) (upd H1 L (.dT [])) (B' ++ B4) H4 := gk3.trans sk g4
    have s5 : So X.K (A ++ B1 ++ [L] ++ (B' ++ B4)) H4 α4 := by rw [← List.append_assoc]; exact s4
    show if b = true then _ else _
    cases b with
    | false =>
      rw [if_neg Bool.false_ne_true] at h4 ⊢
      exact ⟨_, α4, h4, g5, s5⟩
    | true =>
      rw [if_pos rfl] at h4 ⊢
      intro s' H0' C' cl' fp'
      have r4 : Rep X.K (A ++ B1 ++ [L] ++ B' ++ B4) H4 σ2 ρ' α4 := rw_.mono g4 s4
      refine h4 s' H0' C' cl' fp' _ _ H4 _ r4 fun v z B5 α5 H5 h5 g6 s6 q6 => ?_
      intro s'' H0'' C'' cl'' fp''
      have r5 : Rep X.K (A ++ B1 ++ [L] ++ B' ++ B4 ++ B5) H5 σ2 ρ' α5 := r4.mono g6 s6
      refine h5 s'' H0'' C'' cl'' fp'' _ _ H5 _ r5 fun v2 u B6 α6 H6 h6 g7 s7 q7 => ?_
      obtain ⟨es, key, rfl, ea, hz, h6⟩ := h6
      have hL : (A ++ B1 ++ [L] ++ B' ++ B4 ++ B5 ++ B6)[α1.length]? = some L := by
        rw [← s1.len]
        simp [List.append_assoc]
      obtain ⟨a', e2, o, e3, xs, rfl, q3⟩ := s7.getC ea
      rw [hL] at e2; cases e2
      have q6' := q6.mono g7
      cases q6' with
      | tup na eb rk =>
        rename_i b us
        rw [kDs_inv rk] at eb
        obtain ⟨s8, g8⟩ := s7.put (c := .td (putP es key u)) hL ⟨_, rfl, q3.put q7⟩
        refine ⟨xs, key, b, rfl, eb, e3, by rw [q3.len]; exact Nat.lt_of_lt_of_le hz (by decide), B' ++ B4 ++ B5 ++ B6, _, h6, ?_, ?_⟩
        · have ga := (g5.trans s5 (by rw [← List.append_assoc]; exact g6))
          have sa : So X.K (A ++ B1 ++ [L] ++ (B' ++ B4 ++ B5)) H5 α5 := by rw [← List.append_assoc, ← List.append_assoc]; exact s6
          have gb := ga.trans sa (by rw [← List.append_assoc, ← List.append_assoc]; exact g7)
          have sb : So X.K (A ++ B1 ++ [L] ++ (B' ++ B4 ++ B5 ++ B6)) H6 α6 := by rw [← List.append_assoc, ← List.append_assoc, ← List.append_assoc]; exact s7
          have gc := gb.trans sb (by rw [← List.append_assoc, ← List.append_assoc, ← List.append_assoc]; exact g8)
          rwa [List.append_nil] at gc
        · rw [← List.append_assoc, ← List.append_assoc, ← List.append_assoc]; exact s8
  · have e : k = ds.length := by omega
    subst e
    refine .inl ⟨yl'.1 (Nat.le_refl _), con (.ref L) _ (B1 ++ ([L] ++ B')) α' H' (fin α' vk) (g1.trans s1 gt) (by rw [← List.append_assoc]; exact st') (.acc ?_)⟩
    rw [← List.append_assoc, ← s1.len, List.getElem?_append_right (Nat.le_refl _)]
    simp
end
end DH

end

section
/-! DH: queues as keys; places of keys; what a queue does. -/
namespace DH
open PySem PySem.Spec PyProof.Rows L2
/-- a queue as a key -/
def qK (q : List Nat) : List Key := q.map fun x : Nat => .inl (x : Int)
theorem qK_D (q : List Nat) : tabD q = .tup ((qK q).map kD) := by
  unfold tabD intsD qK
  rw [List.map_map]
  rfl
theorem qK_inj : ∀ {p q : List Nat}, qK p = qK q → p = q
  | [], [], _ => rfl
  | [], _ :: _, h => by simp [qK] at h
  | _ :: _, [], h => by simp [qK] at h
  | x :: p, y :: q, h => by
    simp only [qK, List.map_cons, List.cons.injEq] at h
    obtain ⟨h1, h2⟩ := h
    have : x = y := by injection h1 with h1; omega
    rw [this, qK_inj h2]
section
variable {κ β : Type} [DecidableEq κ]
/-- each of some things, at its place -/
def zE (key : β → κ) (L : List β) (k : Nat) : List (κ × D) := (L.take k).zipIdx.map fun p => (key p.1, .int (p.2 : Nat))
theorem zE_len {key : β → κ} {L : List β} {k : Nat} : (zE key L k).length ≤ k := by simp [zE]; omega
theorem zE_succ {key : β → κ} (inj : ∀ {a b}, key a = key b → a = b) {L : List β} (nd : L.Nodup) {k : Nat} {x : β} (h : L[k]? = some x) : putP (zE key L k) (key x) (.int (k : Nat)) = zE key L (k + 1) := by
  have hk := (List.getElem?_eq_some_iff.mp h).1
  have e1 : L.take (k + 1) = L.take k ++ [x] := by rw [List.take_add_one, h]; rfl
  have e2 : ((zE key L k).any fun p => decide (p.1 = key x)) = false := by
    rw [List.any_eq_false]
    intro p hp
    unfold zE at hp
    obtain ⟨q, hq, rfl⟩ := List.mem_map.mp hp
    obtain ⟨y, i⟩ := q
    have hi := List.mem_zipIdx_iff_getElem?.mp hq
    simp only [decide_eq_true_eq]
    intro z
    have z' : y = x := inj z
    subst z'
    rw [List.getElem?_take] at hi
    split at hi
    · rename_i hlt
      obtain ⟨l1, g1⟩ := List.getElem?_eq_some_iff.mp hi
      obtain ⟨l2, g2⟩ := List.getElem?_eq_some_iff.mp h
      have := (List.getElem_inj nd).mp (g1.trans g2.symm)
      omega
    · cases hi
  unfold putP
  rw [if_neg (by rw [e2]; decide)]
  unfold zE
  rw [e1, List.zipIdx_append, List.map_append]
  congr 1
  simp [List.length_take]
  omega
theorem zE_look [BEq β] [LawfulBEq β] {key : β → κ} (inj : ∀ {a b}, key a = key b → a = b) {L : List β} {x : β} : lookP (zE key L L.length) (key x) = if x ∈ L then some (.int (L.idxOf x : Nat)) else none := by
  unfold zE
  rw [List.take_length]
  have : ∀ (l : List β) (j : Nat), lookP ((l.zipIdx j).map fun p => (key p.1, D.int (p.2 : Nat))) (key x) = if x ∈ l then some (.int ((j + l.idxOf x : Nat) : Int)) else none := by
    intro l
    induction l with
    | nil => intro j; rfl
    | cons y l ih =>
      intro j
      rw [List.zipIdx_cons, List.map_cons]
      unfold lookP
      by_cases h : y = x
      · subst h
        rw [if_pos rfl, if_pos (by simp)]
        simp
      · have h' : ¬ (key y = key x) := fun z => h (inj z)
        rw [if_neg h', ih (j + 1)]
        rw [List.idxOf_cons]
        have hb : (y == x) = false := beq_eq_false_iff_ne.mpr h
        rw [hb]
        by_cases hm : x ∈ l
        · rw [if_pos hm, if_pos (by simp [hm])]
          simp only [cond_false]
          congr 3
          omega
        · rw [if_neg hm, if_neg (by simp [hm, Ne.symm h])]
  have := this L 0
  simpa using this
end
theorem roomP1 {k : Nat} {A : Around} (r : Room k A) : A.units + 1 < cLine := by have := r.un; omega
theorem roomP0 {k : Nat} {A : Around} (r : Room k A) : A.units < cLine := by have := r.un; omega
theorem de_naR {X : Cx} {ρ : Rho} {α : Sto} {R : RE} {e : Expr} (h : DE X e ρ α fun d α1 => NaS α1.length α1 → R d α1) : DE X e ρ α R := fun A σ H Q r c => h A σ H Q r fun v d B α1 H1 h1 g s q => c v d B α1 H1 (h1 s.na) g s q
/-- a table among some that are being listed -/
theorem od_inA {K : PySem.W.Frag} {α : Sto} {R : RE} {c : Nat} {t : List Nat} {T : List (List Nat)} (hc : α[c]? = some (.l (tabsD T))) (h : R (.bl (decide (t ∈ T))) α) : OD K (rInD K) (tabD t) (.acc c) α R :=
  od_in (p1 := .tuple (intsP (cst t))) (ps := rowsP (T.map cst)) (by rw [tabD_eq]; exact py_intsT _) (.acc hc (by rw [tabsD_eq]; exact py_rows _)) (sh_intsT _) (sh_rows _) (by rw [any_rows, show decide (cst t ∈ T.map cst) = decide (t ∈ T) by simp only [mem_cst]]; exact h)
/-! what a queue does -/
def doesL (N : Nat) (T : List (List Nat)) (q : List Nat) : List Nat := q.foldl (fun s c => comp s (T.getD c [])) (List.range N)
theorem doesL_ok {N : Nat} {T : List (List Nat)} (hT : MOk N T) : ∀ (q : List Nat) (s : List Nat), (∀ y ∈ q, y < T.length) → (s.length = N ∧ ∀ x ∈ s, x < N) → ((q.foldl (fun s c => comp s (T.getD c [])) s).length = N ∧ ∀ x ∈ q.foldl (fun s c => comp s (T.getD c [])) s, x < N)
  | [], _, _, hs => hs
  | c :: q, s, hq, hs => by
    refine doesL_ok hT q _ (fun y hy => hq y (by simp [hy])) (comp_ok hs ?_)
    have hc := hq c (by simp)
    rw [List.getD_eq_getElem?_getD, List.getElem?_eq_getElem hc]
    exact hT.tabs _ (List.getElem_mem hc)
theorem mok_pos {N : Nat} {T : List (List Nat)} (hm : MOk N T) (h : 1 ≤ T.length) : 1 ≤ N := by
  cases N with
  | zero =>
    exfalso
    match T, h, hm with
    | t :: T, _, hm =>
      have := (hm.tabs t (by simp)).1
      have e : t = [] := List.length_eq_zero_iff.mp this
      subst e
      exact hm.idle (by simp)
  | succ n => omega
/-- a table, its entry -/
theorem tabsD_at {T : List (List Nat)} {c : Nat} {t : List Nat} (h : T[c]? = some t) : (tabsD T)[c]? = some (tabD t) := by unfold tabsD; rw [List.getElem?_map, h]; rfl
/-- two commands, by the queue of both -/
theorem doesL_two {N : Nat} {T : List (List Nat)} (hT : MOk N T) {a b : Nat} {s t : List Nat} (ha : T[a]? = some s) (hb : T[b]? = some t) : doesL N T [a, b] = comp s t := by
  unfold doesL
  simp only [List.foldl_cons, List.foldl_nil, List.getD_eq_getElem?_getD, ha, hb, Option.getD_some]
  rw [comp_id (hT.tabs s (List.mem_of_getElem? ha)).1]
end DH

end

section
/-! parts of a merger. -/
namespace DH
open PySem PySem.Spec PyProof.Rows L2
/-! part_merger -/
/-- what becomes of an end in a part -/
def kept (lot : List Nat) (x : Option Int) : Option Int := match x with
  | none => none
  | some i => if i = -1 then some (-1) else if i.toNat ∈ lot then some (lot.idxOf i.toNat : Nat) else none
def partR (m : Rows) (lot : List Nat) : Rows := lot.map fun a => lot.map fun b => kept lot (look m a b)
def placesE (lot : List Nat) (k : Nat) : List (Key × D) := (lot.take k).zipIdx.map fun p => (.inl (p.1 : Int), .int (p.2 : Nat))
theorem places_succ {lot : List Nat} {k : Nat} {x : Nat} (nd : lot.Nodup) (h : lot[k]? = some x) : putP (placesE lot k) (.inl (x : Int)) (.int (k : Nat)) = placesE lot (k + 1) := by
  have hk := (List.getElem?_eq_some_iff.mp h).1
  have e1 : lot.take (k + 1) = lot.take k ++ [x] := by rw [List.take_add_one, h]; rfl
  have e2 : ((placesE lot k).any fun p => decide (p.1 = (.inl (x : Int) : Key))) = false := by
    rw [List.any_eq_false]
    intro p hp
    unfold placesE at hp
    obtain ⟨q, hq, rfl⟩ := List.mem_map.mp hp
    obtain ⟨y, i⟩ := q
    have hi := List.mem_zipIdx_iff_getElem?.mp hq
    simp only [decide_eq_true_eq]
    intro z
    have z' : y = x := by have := Sum.inl.inj z; omega
    subst z'
    rw [List.getElem?_take] at hi
    split at hi
    · rename_i hlt
      obtain ⟨l1, g1⟩ := List.getElem?_eq_some_iff.mp hi
      obtain ⟨l2, g2⟩ := List.getElem?_eq_some_iff.mp h
      have := (List.getElem_inj nd).mp (g1.trans g2.symm)
      omega
    · cases hi
  unfold putP
  rw [if_neg (by rw [e2]; decide)]
  unfold placesE
  rw [e1, List.zipIdx_append, List.map_append]
  congr 1
  simp [List.length_take]
  omega
theorem places_look {lot : List Nat} (nd : lot.Nodup) {x : Nat} : lookP (placesE lot lot.length) (.inl (x : Int)) = if x ∈ lot then some (.int (lot.idxOf x : Nat)) else none := by
  unfold placesE
  rw [List.take_length]
  have : ∀ (l : List Nat) (j : Nat), lookP ((l.zipIdx j).map fun p => ((.inl (p.1 : Int) : Key), D.int (p.2 : Nat))) (.inl (x : Int)) = if x ∈ l then some (.int ((j + l.idxOf x : Nat) : Int)) else none := by
    intro l
    induction l with
    | nil => intro j; rfl
    | cons y l ih =>
      intro j
      rw [List.zipIdx_cons, List.map_cons]
      unfold lookP
      by_cases h : y = x
      · subst h
        rw [if_pos rfl, if_pos (by simp)]
        simp
      · have h' : ¬ ((.inl (y : Int) : Key) = .inl (x : Int)) := fun z => h (by have := Sum.inl.inj z; omega)
        rw [if_neg h', ih (j + 1)]
        rw [List.idxOf_cons]
        have hb : (y == x) = false := by simpa using h
        rw [hb]
        by_cases hm : x ∈ l
        · rw [if_pos hm, if_pos (by simp [hm])]
          simp only [cond_false]
          congr 3
          omega
        · rw [if_neg hm, if_neg (by simp [hm, Ne.symm h])]
  have := this lot 0
  simpa using this
theorem kept_range {m : Rows} {n : Nat} {lot : List Nat} {a b : Nat} {x : Int} (hw : Wf n m) (ha : a < n) (hb : b < n) (h : kept lot (look m a b) = some x) : -1 ≤ x ∧ x < (lot.length : Nat) := by
  unfold kept at h
  cases e : look m a b with
  | none => rw [e] at h; cases h
  | some i =>
    rw [e] at h
    simp only at h
    by_cases h1 : i = -1
    · rw [if_pos h1] at h; cases h; omega
    · rw [if_neg h1] at h
      by_cases h2 : i.toNat ∈ lot
      · rw [if_pos h2] at h; cases h
        have := List.idxOf_lt_length_of_mem h2
        omega
      · rw [if_neg h2] at h; cases h
theorem wf_part {m : Rows} {n : Nat} {lot : List Nat} (hw : Wf n m) (hl : ∀ y ∈ lot, y < n) : Wf lot.length (partR m lot) := by
  refine ⟨by simp [partR], fun r hr => ?_, fun r hr x hx i hi => ?_⟩
  · obtain ⟨a, _, rfl⟩ := List.mem_map.mp hr
    simp
  · obtain ⟨a, ha, rfl⟩ := List.mem_map.mp hr
    obtain ⟨b, hb, rfl⟩ := List.mem_map.mp hx
    exact kept_range hw (hl a ha) (hl b hb) hi
theorem part_look {m : Rows} {lot : List Nat} {i j a b : Nat} (hi : lot[i]? = some a) (hj : lot[j]? = some b) : look (partR m lot) i j = kept lot (look m a b) := by
  unfold look partR
  simp [hi, hj, look]
theorem kept_some {m : Rows} {n : Nat} {lot : List Nat} {a b : Nat} (hw : Wf n m) (ha : a < n) (hb : b < n) {x : Int} (h : kept lot (look m a b) = some x) : ∃ y, look m a b = some y ∧ ((x = -1 ∧ y = -1) ∨ ∃ k : Nat, x = (k : Int) ∧ ∃ c, lot[k]? = some c ∧ y = (c : Int)) := by
  unfold kept at h
  cases e : look m a b with
  | none => rw [e] at h; cases h
  | some i =>
    rw [e] at h
    simp only at h
    refine ⟨i, rfl, ?_⟩
    by_cases h1 : i = -1
    · rw [if_pos h1] at h; cases h; exact .inl ⟨rfl, h1⟩
    · rw [if_neg h1] at h
      by_cases h2 : i.toNat ∈ lot
      · rw [if_pos h2] at h; cases h
        have := (hw.look ha hb e).1
        refine .inr ⟨_, rfl, i.toNat, ?_, by omega⟩
        rw [List.getElem?_eq_getElem (List.idxOf_lt_length_of_mem h2), List.getElem_idxOf]
      · rw [if_neg h2] at h; cases h
theorem kept_at {lot : List Nat} (nd : lot.Nodup) {k c : Nat} (h : lot[k]? = some c) : kept lot (some (c : Int)) = some (k : Int) := by
  unfold kept
  have h1 : ¬ ((c : Int) = -1) := by omega
  simp only [h1, if_false, Int.toNat_natCast]
  rw [if_pos (List.mem_of_getElem? h)]
  obtain ⟨l, e⟩ := List.getElem?_eq_some_iff.mp h
  have := nd.idxOf_getElem k l
  rw [e] at this
  rw [this]
theorem snd_part {m : Rows} {n : Nat} {lot : List Nat} (hw : Wf n m) (hs : Sound n m) (nd : lot.Nodup) (hl : ∀ y ∈ lot, y < n) : Sound lot.length (partR m lot) := by
  intro i j k hi hj hk x y h1 h2
  have g : ∀ {i}, i < lot.length → ∃ a, lot[i]? = some a ∧ a < n := fun {i} h => ⟨lot[i], List.getElem?_eq_getElem h, hl _ (List.getElem_mem h)⟩
  obtain ⟨a, ea, ha⟩ := g hi
  obtain ⟨b, eb, hb⟩ := g hj
  obtain ⟨c, ec, hc⟩ := g hk
  rw [part_look ea eb] at h1
  rw [part_look eb ec] at h2
  obtain ⟨x', l1, c1⟩ := kept_some hw ha hb h1
  obtain ⟨y', l2, c2⟩ := kept_some hw hb hc h2
  have sd := hs a b c ha hb hc x' y' l1 l2
  have L : meetL (partR m lot) x k = kept lot (meetL m x' c) := by
    rcases c1 with ⟨rfl, rfl⟩ | ⟨u, rfl, cu, hu, rfl⟩
    · unfold meetL
      rw [if_pos rfl, if_pos rfl, kept_at nd ec]
    · unfold meetL
      rw [if_neg (by omega), if_neg (by omega), Int.toNat_natCast, Int.toNat_natCast, part_look hu ec]
  have R : meetR (partR m lot) i y = kept lot (meetR m a y') := by
    rcases c2 with ⟨rfl, rfl⟩ | ⟨u, rfl, cu, hu, rfl⟩
    · unfold meetR
      rw [if_pos rfl, if_pos rfl, kept_at nd ea]
    · unfold meetR
      rw [if_neg (by omega), if_neg (by omega), Int.toNat_natCast, Int.toNat_natCast, part_look ea hu]
  rw [L, R, sd]

theorem len1 {α : Sto} {a : Cl} : (α ++ [a]).length = α.length + 1 := by simp
theorem get1 {α : Sto} {a b : Cl} : (α ++ [a] ++ [b])[α.length + 1]? = some b := by simp
theorem set0 {α : Sto} {a b c : Cl} : (α ++ [a] ++ [b]).set α.length c = α ++ [c] ++ [b] := by simp
theorem set1 {α : Sto} {a b c : Cl} : (α ++ [a] ++ [b]).set (α.length + 1) c = α ++ [a] ++ [c] := by simp
theorem get0 {α : Sto} {a b : Cl} : (α ++ [a] ++ [b])[α.length]? = some a := by simp
end DH

end

section
/-! DH: min(list of int tuples). -/
namespace DH
open PySem PySem.Spec PyProof.Rows L2
section
variable {pr : Program} {wo : World} {C : Around} {G : Result → Shared → Prop} {a0 : Addr} {reach mine : List Addr} {len : Nat} {Pv : Nat → Value → Prop} {Sv : Nat → Heap → Prop} {g0 : Heap}
/-- compared wherever all of g0 stands -/
def CmpH (pr : Program) (wo : World) (C : Around) (g0 : Heap) (Pv : Nat → Value → Prop) (less : Nat → Nat → Bool) : Prop :=
  ∀ i j x y (t : Shared) (Q : Value → Shared → Prop) (E : Value → Shared → Prop), (∀ b o, g0.get? b = some o → t.heap.get? b = some o) → Pv i x → Pv j y → Q (.bool (less i j)) t → wpAny (model pr wo) C (richCompare .Lt x y) Q E t
theorem loopName : (toString "min" ++ toString ".loop" : String) = "min.loop" := by decide
theorem dh_min_loop (wk : Walks pr wo C.in1 a0 reach mine len Pv Sv) (less : Nat → Nat → Bool) (cmp : CmpH pr wo C.in1 g0 Pv less) (kp : Addr) (nk : kp ∉ reach) (k0 : g0.get? kp = none) (m0 : ∀ b ∈ mine, g0.get? b = none) :
    ∀ (left at_ : Nat) (t : Shared) (best : Value) (cap : Nat), len - (at_ + 1) = left → at_ + 1 ≤ len → Sv (at_ + 1) t.heap → Pv (argBest less at_) best → (∀ b o, g0.get? b = some o → t.heap.get? b = some o) →
    t.heap.get? kp = some { cls := .type "list", dict := none, data := .seq #[best, best] cap, slots := #[] } →
    (∀ x g' tk, Pv (argBest less (len - 1)) x → (∀ b o, g0.get? b = some o → g'.get? b = some o) → G (.ok (.ret x)) { t with heap := g', toks := tk }) →
    codeAny (model pr wo) C (.builtin "min.loop" ⟨[.ref a0, .none, .ref kp], []⟩) G t := by
  have nm : kp ∉ mine := fun z => nk (wk.sub _ z)
  intro left
  induction left with
  | zero =>
    intro at_ t best cap hk hj hst hPb hold hS hR
    have hin : at_ + 1 = len := by omega
    refine codeAny_builtin F.entry_min_loop ?_
    rw [Around.under_plainId F.plain_min_loop _]
    show wpAny _ C.in1 (seqItems? (.ref kp) >>= _) _ _ t
    refine wpAny_bind (wpAny_seqItems hS rfl ?_)
    show wpAny _ C.in1 (tryCatch (pyNext (.ref a0)) _ >>= _) _ _ t
    refine wpAny_bind (wpAny_tryCatch (wk.done t _ _ (hin ▸ hst) fun g' tk kept => ?_))
    have hS' := kept kp _ nm hS
    show wpAny _ C.in1 (updateSeq kp (fun _ => #[]) >>= _) _ _ _
    refine wpAny_bind ?_
    refine wpAny_updateSeq hS' rfl (wpAny_bind (wpAny_letGo (wpAny_pure ?_)))
    refine hR best _ tk (by rw [← hin]; exact hPb) fun b o e => ?_
    have nb : b ≠ kp := fun z => by rw [z, k0] at e; cases e
    have nw : b ∉ mine := fun z => by rw [m0 b z] at e; cases e
    exact (Heap.get?_update_other _ _ (Ne.symm nb)).trans (kept b o nw (hold b o e))
  | succ left ih =>
    intro at_ t best cap hk hj hst hPb hold hS hR
    have hlt : at_ + 1 < len := by omega
    refine codeAny_builtin F.entry_min_loop ?_
    rw [Around.under_plainId F.plain_min_loop _]
    show wpAny _ C.in1 (seqItems? (.ref kp) >>= _) _ _ t
    refine wpAny_bind (wpAny_seqItems hS rfl ?_)
    show wpAny _ C.in1 (tryCatch (pyNext (.ref a0)) _ >>= _) _ _ t
    refine wpAny_bind (wpAny_tryCatch (wk.item (at_ + 1) t _ _ hlt hst fun x g' tk hP hst' kept => ?_))
    have hS' := kept kp _ nm hS
    have hold' : ∀ b o, g0.get? b = some o → g'.get? b = some o := fun b o e => by
      have nw : b ∉ mine := fun z => by rw [m0 b z] at e; cases e
      exact kept b o nw (hold b o e)
    show wpAny _ C.in1 (tryCatch (holding [x, x] (richCompare .Lt x best >>= _)) _ >>= _) _ _ _
    refine wpAny_bind (wpAny_tryCatch (wpAny_holding (wpAny_bind (cmp (at_ + 1) (argBest less at_) x best _ _ _ hold' hP hPb ?_))))
    refine wpAny_bind (wpAny_holding (wpAny_truthy_bool ?_))
    refine wpAny_bind (wpAny_letGo (wpAny_pure ?_))
    cases hb : less (at_ + 1) (argBest less at_) with
    | true =>
      simp only [if_true]
      refine wpAny_bind ?_
      refine wpAny_updateSeq hS' rfl (wpAny_bind (wpAny_letGo ?_))
      rw [loopName]
      refine wpAny_pure ⟨plainId_quiet F.plain_min_loop _, ih (at_ + 1) _ x _ (by omega) hlt (wk.frame _ _ _ hst' fun b hbf o e => ?_) (by simp only [argBest, hb, if_true]; exact hP) (fun b o e => ?_) (Heap.get?_update_self _ hS' rfl) fun x' g'' tk'' hP' hk'' => hR x' g'' tk'' hP' hk''⟩
      · exact (Heap.get?_update_other _ _ (fun z : kp = b => nk (by rw [z]; exact hbf))).trans e
      · have nb : b ≠ kp := fun z => by rw [z, k0] at e; cases e
        exact (Heap.get?_update_other _ _ (Ne.symm nb)).trans (hold' b o e)
    | false =>
      simp only [Bool.false_eq_true, if_false]
      refine wpAny_bind (wpAny_letGo ?_)
      rw [loopName]
      exact wpAny_pure ⟨plainId_quiet F.plain_min_loop _, ih (at_ + 1) _ best cap (by omega) hlt hst' (by simp only [argBest, hb, Bool.false_eq_true, if_false]; exact hPb) hold' hS' fun x' g'' tk'' hP' hk'' => hR x' g'' tk'' hP' hk''⟩
theorem dh_min_first (wk : Walks pr wo C.in1 a0 reach mine len Pv Sv) (less : Nat → Nat → Bool) (cmp : CmpH pr wo C.in1 g0 Pv less) (kp : Addr) (nk : kp ∉ reach) (k0 : g0.get? kp = none) (m0 : ∀ b ∈ mine, g0.get? b = none) (pos : 0 < len) {t : Shared} {cap : Nat} (hst : Sv 0 t.heap)
    (hold : ∀ b o, g0.get? b = some o → t.heap.get? b = some o)
    (hS : t.heap.get? kp = some { cls := .type "list", dict := none, data := .seq #[] cap, slots := #[] })
    (hR : ∀ x g' tk, Pv (argBest less (len - 1)) x → (∀ b o, g0.get? b = some o → g'.get? b = some o) → G (.ok (.ret x)) { t with heap := g', toks := tk }) :
    codeAny (model pr wo) C (.builtin "min.loop" ⟨[.ref a0, .none, .ref kp], []⟩) G t := by
  have nm : kp ∉ mine := fun z => nk (wk.sub _ z)
  refine codeAny_builtin F.entry_min_loop ?_
  rw [Around.under_plainId F.plain_min_loop _]
  show wpAny _ C.in1 (seqItems? (.ref kp) >>= _) _ _ t
  refine wpAny_bind (wpAny_seqItems hS rfl ?_)
  show wpAny _ C.in1 (tryCatch (pyNext (.ref a0)) _ >>= _) _ _ t
  refine wpAny_bind (wpAny_tryCatch (wk.item 0 t _ _ pos hst fun x g' tk hP hst' kept => ?_))
  have hS' := kept kp _ nm hS
  have hold' : ∀ b o, g0.get? b = some o → g'.get? b = some o := fun b o e => by
    have nw : b ∉ mine := fun z => by rw [m0 b z] at e; cases e
    exact kept b o nw (hold b o e)
  show wpAny _ C.in1 (updateSeq kp (fun _ => #[x, x]) >>= _) _ _ _
  refine wpAny_bind ?_
  refine wpAny_updateSeq hS' rfl ?_
  rw [loopName]
  refine wpAny_pure ⟨plainId_quiet F.plain_min_loop _, dh_min_loop wk less cmp kp nk k0 m0 _ 0 _ x _ rfl pos (wk.frame _ _ _ hst' fun b hbf o e => ?_) hP (fun b o e => ?_) (Heap.get?_update_self _ hS' rfl) fun x' g'' tk'' hP' hk'' => hR x' g'' tk'' hP' hk''⟩
  · exact (Heap.get?_update_other _ _ (fun z : kp = b => nk (by rw [z]; exact hbf))).trans e
  · have nb : b ≠ kp := fun z => by rw [z, k0] at e; cases e
    exact (Heap.get?_update_other _ _ (Ne.symm nb)).trans (hold' b o e)
end
section
variable {pr : Program} {wo : World} {C : Around} {E : Value → Shared → Prop} {t : Shared}
/-- min(xs), xs a list of data that stand in the heap -/
theorem dh_min_list {l : Addr} {its : Array Value} {less : Nat → Nat → Bool} {Q : Value → Shared → Prop} (hh : C.handled = none) (hl : t.heap.IsList l its) (pos : 0 < its.size)
    (cmp : CmpH pr wo C.in1 t.heap (fun i v => its[i]? = some v) less)
    (h : ∀ x g' tk, its[argBest less (its.size - 1)]? = some x → (∀ b o, t.heap.get? b = some o → g'.get? b = some o) → Q x { t with heap := g', toks := tk }) :
    wpAny (model pr wo) C (call (.builtin "min") [.ref l]) Q E t := by
  have hlt : l < t.heap.objs.size := by obtain ⟨_, e, _⟩ := hl; exact Heap.lt_size e
  have none_of : ∀ {b : Addr}, t.heap.objs.size ≤ b → t.heap.get? b = none := fun {b} z => by
    cases e : t.heap.get? b with
    | none => rfl
    | some o => exact absurd (Heap.lt_size e) (Nat.not_lt.mpr z)
  refine call_function_tree F.kind_min F.plain_min F.entry_min (F.args_min1 _) ?_
  show wpAny _ C.in1 (Builtin.Builtins.bindParams "min" ["key", "default"] 0 ⟨[], []⟩ >>= _) _ _ t
  refine wpAny_bind (wpAny_of_eq (show Builtin.Builtins.bindParams "min" ["key", "default"] 0 ⟨[], []⟩ = pure [none, none] from rfl) ?_)
  refine wpAny_bind (wpAny_pure ?_)
  refine wpAny_bind (wpAny_pyIter_list hl ?_)
  refine wpAny_bind (wpAny_newObj_type ?_)
  rw [loopName]
  have sz : (t.heap.push { cls := .type "list_iterator", data := .fields #[.ref l, .int 0 0] }).objs.size = t.heap.objs.size + 1 := Heap.size_push ..
  refine wpAny_pure ⟨plainId_quiet F.plain_min_loop _, dh_min_first (g0 := t.heap) (Walks.list (A := C.in1) hh t.heap.objs.size l (Nat.ne_of_lt hlt) its) less cmp _ ?_ (none_of (by show t.heap.objs.size ≤ (t.heap.push _).objs.size; rw [sz]; exact Nat.le_succ _)) (fun b hb => none_of (by simp at hb; rw [hb]; exact Nat.le_refl _)) pos ⟨?_, ?_⟩ (fun b o e => Heap.get?_push_of_some _ (Heap.get?_push_of_some _ e)) (Heap.get?_push_size _ rfl) fun x g' tk hP hk => h x g' tk hP hk⟩
  · show (t.heap.push _).objs.size ∉ [t.heap.objs.size, l]
    rw [sz]
    intro z
    rcases List.mem_cons.mp z with z | z
    · exact absurd z (Nat.succ_ne_self _)
    · rcases List.mem_cons.mp z with z | z
      · exact absurd hlt (Nat.not_lt.mpr (by rw [← z]; exact Nat.le_succ _))
      · cases z
  · exact (Heap.IsListIter.at (h := t.heap.push _) ⟨_, Heap.get?_push_size _ rfl, rfl, rfl⟩ fun o e => Heap.get?_push_of_some _ e)
  · exact (hl.push _).push _
/-- which is found: none is less -/
theorem best_min {less : Nat → Nat → Bool} {rk : Nat → List Int} (hl : ∀ i j, less i j = decide (rk i < rk j)) : ∀ n, argBest less n ≤ n ∧ ∀ j, j ≤ n → ¬ rk j < rk (argBest less n)
  | 0 => ⟨Nat.le_refl _, fun j hj => by
    have : j = 0 := Nat.le_zero.mp hj
    subst this
    exact List.lt_irrefl _⟩
  | n + 1 => by
    obtain ⟨h1, h2⟩ := best_min hl n
    unfold argBest
    cases hb : less (n + 1) (argBest less n) with
    | true =>
      rw [if_pos rfl]
      refine ⟨Nat.le_refl _, fun j hj z => ?_⟩
      rw [hl, decide_eq_true_iff] at hb
      by_cases e : j = n + 1
      · subst e; exact List.lt_irrefl _ z
      · exact h2 j (by omega) (List.lt_trans z hb)
    | false =>
      rw [if_neg Bool.false_ne_true]
      refine ⟨by omega, fun j hj z => ?_⟩
      rw [hl, decide_eq_false_iff_not] at hb
      by_cases e : j = n + 1
      · subst e; exact hb z
      · exact h2 j (by omega) z
end
section
variable {X : Cx}
/-- min(xs), xs a list of int tuples -/
def rMinT (K : PySem.W.Frag) : List V → Hp → VK → Prop := fun vs H Q => ∃ (a : Addr) (xs : List V) (es : List (List Int)), vs = [V.ref a] ∧ SqL K H a xs ∧ xs.length = es.length ∧ (∀ (i : Nat) (x : V) (e : List Int), xs[i]? = some x → es[i]? = some e → Dp K H x (.tuple (intsP e))) ∧ es ≠ [] ∧
  ∀ (i : Nat) (x : V) (e : List Int), xs[i]? = some x → es[i]? = some e → (∀ e' ∈ es, ¬ e' < e) → Q x H
theorem cr_minT (hc : X.calm = true) (hu : X.A.units + 64 < cLine) : CallR X (.builtin "min") (rMinT X.K) := by
  intro pins s σ H vs us Q I r h
  obtain ⟨a, xs, es, rfl, hs, hlen, hD, hne, q⟩ := h
  obtain ⟨its, rv, hl, _⟩ := I.list hs
  rw [Vals.ref1 r]
  have hli := rv.length
  have rd : ∀ (i : Nat) (v : Value), its[i]? = some v → ∃ (x : V) (e : List Int), xs[i]? = some x ∧ es[i]? = some e ∧ RelV x v ∧ ∃ as, Reads s.heap v (.tuple (intsP e)) as := by
    intro i v hv
    have hi : i < xs.length := by rw [hli]; exact (List.getElem?_eq_some_iff.mp hv).1
    have hx : xs[i]? = some xs[i] := by simp [hi]
    obtain ⟨v', hv', rx⟩ := rv.get hx
    rw [hv] at hv'
    cases hv'
    have he : es[i]? = some es[i] := by simp [← hlen, hi]
    exact ⟨xs[i], es[i], hx, he, rx, Dp.reads I _ _ _ (hD i _ _ hx he) rx⟩
  have hpos : 0 < its.toArray.size := by
    have : 0 < es.length := List.length_pos_iff.mpr hne
    simp
    omega
  refine dh_min_list (less := fun i j => decide (es.getD i [] < es.getD j [])) (I.ok.hd hc) hl.isList hpos ?_ ?_
  · intro i j x y t Q' E' old hx hy hq
    obtain ⟨x', e1, _, he1, _, as1, r1⟩ := rd i x (by simpa using hx)
    obtain ⟨y', e2, _, he2, _, as2, r2⟩ := rd j y (by simpa using hy)
    have ed : PySem.W.dataLt (.tuple (intsP e1)) (.tuple (intsP e2)) = decide (es.getD i [] < es.getD j []) := by
      rw [PySem.W.dataLt_tuple]
      have := PySem.W.dataLt_ints e1 e2
      unfold PySem.W.rowLt at this
      rw [show intsP e1 = e1.map PyData.int from rfl, show intsP e2 = e2.map PyData.int from rfl, this, List.getD_eq_getElem?_getD, List.getD_eq_getElem?_getD, he1, he2]
      rfl
    refine PySem.W.rcLt_alike (.tuple (intsP e1)) (.tuple (intsP e2)) X.A.in1 t x y as1 as2 (PyProof.Rows.Reads.keeps old r1) (PyProof.Rows.Reads.keeps old r2) ?_ (by simp) ?_ X.prog X.w E' Q' (by rw [ed]; exact hq)
    · simp only [PySem.W.alike]
      exact PySem.W.alike_ints e1 e2
    · have d1 : (PyData.tuple (intsP e1)).depth ≤ 1 := by simp only [PyData.depth, dep_ints]; decide
      have : (X.A.in1).units ≤ X.A.units + 1 := by first | exact Nat.le_refl _ | (simp [Around.in1]; done)
      omega
  · intro v g' tk hv old
    obtain ⟨b1, b2⟩ := best_min (less := fun i j => decide (es.getD i [] < es.getD j [])) (rk := fun i => es.getD i []) (fun _ _ => rfl) (its.toArray.size - 1)
    generalize argBest (fun i j => decide (es.getD i [] < es.getD j [])) (its.toArray.size - 1) = bi at hv b1 b2
    obtain ⟨x, e, hx, he, rx, _⟩ := rd bi v (by simpa using hv)
    refine ⟨x, H, I.kept old, rx, q _ x e hx he fun e' he' z => ?_⟩
    obtain ⟨j, hj, rfl⟩ := List.mem_iff_getElem.mp he'
    refine b2 j (by simp; omega) ?_
    rw [show es.getD j [] = es[j] by rw [List.getD_eq_getElem?_getD]; simp [hj]]
    rw [show es.getD bi [] = e by rw [List.getD_eq_getElem?_getD, he]; rfl]
    exact z
end
theorem cst_lt : ∀ {s t : List Nat}, cst s < cst t ↔ s < t
  | [], [] => by simp [cst]
  | [], _ :: _ => by simp [cst]
  | _ :: _, [] => by simp [cst]
  | x :: s, y :: t => by
    have ih := cst_lt (s := s) (t := t)
    have e1 : cst (x :: s) = (x : Int) :: cst s := rfl
    have e2 : cst (y :: t) = (y : Int) :: cst t := rfl
    rw [e1, e2, List.cons_lt_cons_iff, List.cons_lt_cons_iff, ih]
    constructor
    · rintro (h | ⟨h, g⟩)
      · exact .inl (by omega)
      · exact .inr ⟨by omega, g⟩
    · rintro (h | ⟨h, g⟩)
      · exact .inl (by omega)
      · exact .inr ⟨by omega, g⟩
theorem cd_minT {K : PySem.W.Frag} {α : Sto} {R : RE} {d : D} {T : List (List Nat)} (hc : cont α d = some (tabsD T)) (ht : isT d = false) (hne : T ≠ []) (h : ∀ t, t ∈ T → (∀ t' ∈ T, ¬ t' < t) → R (tabD t) α) : CD K (rMinT K) [d] α R := by
  intro A H xs s q Q c
  cases q with
  | cons q1 qn =>
    cases qn
    obtain ⟨a, ys, rfl, hs, rr⟩ := readSeq s q1 hc
    have hs : SqL K H a ys := hs.elim (fun z => z.2) (fun z => by rw [ht] at z; cases z.1)
    have hl : ys.length = T.length := by rw [rr.length, tabsD_len]
    have at_ : ∀ (i : Nat) (x : V) (e : List Int), ys[i]? = some x → (T.map cst)[i]? = some e → ∃ t, T[i]? = some t ∧ e = cst t ∧ Da K A H x (tabD t) := by
      intro i x e hx he
      rw [List.getElem?_map] at he
      cases ht : T[i]? with
      | none => rw [ht] at he; cases he
      | some t =>
        rw [ht] at he; cases he
        obtain ⟨v, hv, qv⟩ := rr.get (i := i) (d := tabD t) (by unfold tabsD; rw [List.getElem?_map, ht]; rfl)
        rw [hx] at hv; cases hv
        exact ⟨t, rfl, rfl, qv⟩
    refine ⟨a, ys, T.map cst, rfl, hs, by rw [hl, List.length_map], fun i x e hx he => ?_, by simpa using hne, fun i x e hx he hmin => ?_⟩
    · obtain ⟨t, _, rfl, qv⟩ := at_ i x e hx he
      exact py_dp s (by rw [tabD_eq]; exact py_intsT _) qv
    · obtain ⟨t, hti, rfl, qv⟩ := at_ i x e hx he
      exact c.now s qv (h t (List.mem_of_getElem? hti) fun t' ht' z => hmin (cst t') (List.mem_map.mpr ⟨t', ht', rfl⟩) (cst_lt.mpr z))
theorem tabD_inj {p q : List Nat} (h : tabD p = tabD q) : p = q := by
  unfold tabD at h
  injection h with h
  have : ∀ {p q : List Nat}, intsD p = intsD q → p = q := by
    intro p
    induction p with
    | nil => intro q h; cases q with
      | nil => rfl
      | cons _ _ => simp [intsD] at h
    | cons x p ih => intro q h; cases q with
      | nil => simp [intsD] at h
      | cons y q =>
        simp only [intsD, List.map_cons, List.cons.injEq] at h
        obtain ⟨h1, h2⟩ := h
        have : x = y := by injection h1 with h1; omega
        rw [this, ih h2]
  exact this h
/-- the queues of which something holds, as they stand there -/
noncomputable def zfOf (p : List Nat → Bool) (y : D) : Option D := @dite _ (∃ e, y = tabD e ∧ p e = true) (Classical.propDecidable _) (fun _ => some y) (fun _ => none)
theorem zf_t {p : List Nat → Bool} {e : List Nat} (h : p e = true) : zfOf p (tabD e) = some (tabD e) := by
  unfold zfOf
  rw [dif_pos ⟨e, rfl, h⟩]
theorem zf_f {p : List Nat → Bool} {e : List Nat} (h : p e = false) : zfOf p (tabD e) = none := by
  unfold zfOf
  rw [dif_neg]
  rintro ⟨e', he, hp⟩
  rw [← tabD_inj he, h] at hp
  cases hp
theorem zf_tabs (p : List Nat → Bool) : ∀ E : List (List Nat), (tabsD E).filterMap (zfOf p) = tabsD (E.filter p)
  | [] => rfl
  | e :: E => by
    have ih := zf_tabs p E
    unfold tabsD at ih ⊢
    rw [List.map_cons]
    cases h : p e with
    | true => rw [List.filterMap_cons_some (zf_t h), ih, List.filter_cons_of_pos h]; rfl
    | false => rw [List.filterMap_cons_none (zf_f h), ih, List.filter_cons_of_neg (by rw [h]; decide)]
theorem Fun.bindsK {K : PySem.W.Frag} {x qual : Str} {st : Stmt} {f : Addr} {fd : FuncData} {ps ks : List Str} (F : Fun K x qual st f fd)
    (h : ∀ (kV doc pm : Value) (an : Option Addr) (cdv ct : Value) (us : List Value), us.length = ps.length → bindArgs (PySem.W.fnOf x qual (defArgs st) (defBody st) (defScope st) .none kV doc pm an cdv ct) ⟨[], ks.zip us⟩ = pure (ps.zip us)) : BindsK K fd ps ks := by
  obtain ⟨oc, od, kV, doc, pm, an, cdv, ct, osl, rfl, lk, hcd⟩ := F.ex
  exact fun s ws _ hl => .of_eq (h kV doc pm an cdv ct ws hl)
end DH

end

section
/-! DH: ints in tuples, their places there. -/
namespace DH
open PySem PySem.Spec PyProof.Rows L2
section
variable {X : Cx}
def rInTD (K : PySem.W.Frag) : R2 := fun x y H Q => ∃ d ds, Dp K H x d ∧ Dp K H y (.tuple ds) ∧ SeqAt.shaped d = true ∧ SeqAt.shaped (.tuple ds) = true ∧ Q (.bl (ds.any fun z => PyData.eqv z d)) H
theorem op_inTD (hu : X.A.units + 65 < cLine) : OpR X (compareOp .In) (rInTD X.K) := by
  intro pins s σ H x y v u Q I rx ry h
  obtain ⟨d, ds, hd, he, sd, se, q⟩ := h
  obtain ⟨a1, r1⟩ := Dp.reads I d x v hd rx
  obtain ⟨a2, r2⟩ := Dp.reads I (.tuple ds) y u he ry
  exact SeqAt.in_tuple_reads r2 r1 (SeqAt.canLay_of_shaped se) (SeqAt.canLay_of_shaped sd) (room_in_shaped sd hu) ⟨.bl _, H, I, rfl, q⟩
theorem flat_ints (ns : List Int) : (ns.map V.int).all flatV = true := by
  rw [List.all_map]
  exact List.all_eq_true.mpr fun _ _ => rfl
/-- t.index(k), ints -/
def rTIx (K : PySem.W.Frag) : V → List V → Hp → VK → Prop := fun x xs H Q => ∃ p, ∃ ns : List Int, ∃ z j, x = .ref p ∧ xs = [.int z] ∧ SqT K H p (ns.map V.int) ∧ ns[j]? = some z ∧ (∀ m, m < j → ns[m]? ≠ some z) ∧ Q (.int (j : Nat)) H
theorem mt_tixI : MtR X "tuple.index" (rTIx X.K) := by
  intro pins s σ H x xs v us Q I rx rs h
  obtain ⟨p, ns, z, j, rfl, rfl, hq, hy, hno, q⟩ := h
  cases rx
  obtain ⟨u, rfl, t, rfl⟩ := vals1 rs
  obtain ⟨its, r, pl, hz⟩ := I.tuple hq
  obtain ⟨⟨cls, dd, dt, sl⟩, ho, hc, n, hd⟩ := pl
  simp only at hc hd
  subst hc
  subst hd
  have size_ : its.toArray.size = ns.length := by rw [List.size_toArray, ← r.length, List.length_map]
  have hj : j < its.toArray.size := by rw [size_]; exact (List.getElem?_eq_some_iff.mp hy).1
  have each : ∀ (m : Nat) (hm : m < its.toArray.size), ∃ y t', ns[m]? = some y ∧ its.toArray[m] = Value.int y t' := fun m hm => by
    have hm' : m < ns.length := by rw [← size_]; exact hm
    obtain ⟨w, hw, t', hw'⟩ := r.get (i := m) (x := .int ns[m]) (by simp [hm'])
    refine ⟨ns[m], t', List.getElem?_eq_getElem hm', ?_⟩
    have e := (List.getElem?_eq_some_iff.mp hw).2
    rw [← hw', ← e]
    simp
  refine call_meets PySem.F.slot_tuple_index ⟨_, ho, rfl⟩ PySem.F.entry_tuple_index (PySem.F.args_tuple_index_2 _ _) (TI.tuple_indexAt p its.toArray n dd sl (.int z t) (eqU (.int z)) j hj ?_ ?_)
    ⟨ho, fun w hw => mem_eqAt (x := .int z) ⟨t, rfl⟩ rfl r (flat_ints ns) w (by simpa using hw), ⟨.int (j : Nat), H, I.tok _, ⟨_, rfl⟩, q⟩⟩
  · obtain ⟨y, t', h1, h2⟩ := each j hj
    rw [hy] at h1
    cases h1
    rw [h2]
    show (z == z) = true
    simp
  · intro m hm hmj
    obtain ⟨y, t', h1, h2⟩ := each m hm
    rw [h2]
    have : y ≠ z := fun e => hno m hmj (e ▸ h1)
    show (y == z) = false
    simp [this]
end
section
variable {X : Cx} {o e : Expr} {es : List Expr} {to : TE} {ta : TA} {name : Str} {apos cpos : Pos} {id : String} {r : V → List V → Hp → VK → Prop}
/-- a method of a tuple that has no attributes of its own -/
def tBMT (r : V → List V → Hp → VK → Prop) (to : TE) (ta : TA) : TE := fun σ H Q => to σ H fun x H1 => (∃ a ob xs, x = .ref a ∧ H1 a = some (.frz ob (.tup xs)) ∧ ob.cls = .type "tuple" ∧ ob.dict = none) ∧ ta σ H1 fun xs H2 => r x xs H2 Q
theorem pe_bmT (slot : Slot "tuple" name id) (hty : typeOf (.builtin id) = pure (.type "method_descriptor")) (hm : MtR X id r) (ho : PE X o to) (ha : PA X (e :: es) ta)
    (hbase : attributeBase o name X.env (eval o X.env) = eval o X.env := by rfl)
    (hfew : ((backTo cpos (starEach (e :: es) X.env)).all (fun x => !x.1) && (backToKw cpos (keywordEach [] X.env)).all (fun x => x.1.isSome)
      && decide ((e :: es).length + ([] : List Keyword).length + (if ([] : List Keyword).isEmpty then 0 else 1) < 30)) = true := by rfl)
    (hline : (apos.endLine == cpos.line) = true := by rfl) (hst : starEach (e :: es) X.env = (false, eval e X.env) :: starEach es X.env := by rfl) (hplain : (backTo cpos (starEach es X.env)).any (·.1) = false := by rfl) :
    PE X (.Call (.Attribute o name apos) (e :: es) [] cpos) (tBMT r to ta) := by
  refine ⟨fun pins s σ H Q I h => ?_⟩
  refine wpAny_Call_method_late hbase hfew hline rfl (thn (ho.run pins s σ H _ I h) fun v s1 ⟨x, H1, I1, r1, ty, q1⟩ => ?_)
  obtain ⟨a, ob, xs, rfl, hH, hc, hd⟩ := ty
  cases r1
  have hob : s1.heap.get? a = some ob := (I1.hok a _ hH).1
  refine ⟨"tuple", id, PySem.F.plainAttrs_tuple, slot, hty, ⟨ob, hob, hc⟩, fun b z => by cases z; exact ⟨ob, hob, hd⟩, ?_⟩
  have hA := ha.run cpos pins s1 σ H1 _ I1 q1
  rw [hst] at hA ⊢
  refine Calls.callWith_builtin (by show (false || (backTo cpos (starEach es X.env)).any (·.1)) = false; rw [hplain] <;> rfl) (Calls.evalArgs_plain ?_)
  exact thn hA fun us s2 ⟨vs, H2, I2, r2, q2⟩ => hm pins s2 σ H2 (.ref a) vs (.ref a) us Q I2 rfl r2 q2
end
variable {X : Cx} {ρ : Rho} {α : Sto} {R : RE} {o e : Expr} {es : List Expr} {apos cpos pos : Pos} {K : PySem.W.Frag}
theorem py_intsP (ns : List Int) : Py α (.pt (ns.map D.int)) (.tuple (intsP ns)) := .pt (Pys.ints ns)
theorem od_inTI {i : Int} {ns : List Int} (h : R (.bl (decide (i ∈ ns))) α) : OD K (rInTD K) (.int i) (.pt (ns.map D.int)) α R := by
  intro A H x y s q1 q2 Q c
  exact ⟨.int i, intsP ns, py_dp s (Py.int (α := α) i) q1, py_dp s (py_intsP (α := α) ns) q2, rfl, sh_intsT ns, by rw [any_ints]; exact c.now s (.bl _) h⟩
theorem de_indexTI (h : DE X o ρ α fun d α1 => ∃ ns : List Int, d = .pt (ns.map D.int) ∧ DE X e ρ α1 fun d2 α2 => ∃ (k : Int) (j : Nat), d2 = .int k ∧ ns[j]? = some k ∧ (∀ i, i < j → ns[i]? ≠ some k) ∧ R (.int (j : Nat)) α2)
    (hbase : attributeBase o "index" X.env (eval o X.env) = eval o X.env := by rfl)
    (hfew : ((backTo cpos (starEach (e :: []) X.env)).all (fun x => !x.1) && (backToKw cpos (keywordEach [] X.env)).all (fun x => x.1.isSome)
      && decide ((e :: ([] : List Expr)).length + ([] : List Keyword).length + (if ([] : List Keyword).isEmpty then 0 else 1) < 30)) = true := by rfl)
    (hline : (apos.endLine == cpos.line) = true := by rfl) (hst : starEach (e :: []) X.env = (false, eval e X.env) :: starEach [] X.env := by rfl) (hplain : (backTo cpos (starEach [] X.env)).any (·.1) = false := by rfl) :
    DE X (.Call (.Attribute o "index" apos) [e] [] cpos) ρ α R := by
  intro A σ H Q rep con
  refine wp_of (pe_bmT PySem.F.slot_tuple_index PySem.F.type_tuple_index mt_tixI pe_wp (pa_cons pe_wp pa_nil hst) hbase hfew hline hst hplain) (h A σ H _ rep fun v d B α1 H1 h1 g s q => ?_)
  obtain ⟨ns, rfl, h1⟩ := h1
  have q0 := q
  cases q with
  | pt na eh hc hd r =>
    rename_i a ob xs
    refine ⟨⟨a, ob, xs, rfl, eh, hc, hd⟩, ?_⟩
    refine h1 _ σ H1 _ (rep.mono g s) fun u d2 B2 α2 H2 h2 g2 s2 q2 => ?_
    obtain ⟨k, j, rfl, ht, hno, hR⟩ := h2
    have q3 := q0.mono g2
    cases q3 with
    | pt na3 eh3 hc3 hd3 r3 =>
      rw [das_ints r3] at eh3
      rw [q2.int_inv]
      exact ⟨a, ns, k, j, rfl, rfl, .inl (.inr ⟨_, eh3⟩), ht, hno, ((con.step g s).step g2 s2).now s2 (.int (j : Nat)) hR⟩
/-! tuples made here -/
def tTupP (ta : TA) : TE := fun σ H Q => ta σ H fun xs H1 => xs.length ≤ sizeLine ∧ ∀ p ob, H1 p = none → ob.cls = .type "tuple" → ob.dict = none → Q (.ref p) (upd H1 p (.frz ob (.tup xs)))
theorem pe_tupP {x1} {ta : TA} (h : PA X es ta) : PE X (.Tuple es x1 pos) (tTupP ta) := by
  refine ⟨fun pins s σ H Q I hq => ?_⟩
  refine wpAny_Tuple_spliced (thn (h.run pos pins s σ H _ I hq) fun us s1 ⟨xs, H1, I1, r, z, q⟩ => ⟨by rw [← r.length]; exact z, ?_⟩)
  have hf : H1 s1.heap.objs.size = none := I1.hok.fresh (Nat.le_refl _)
  refine ⟨.ref s1.heap.objs.size, upd H1 s1.heap.objs.size (.frz { cls := .type "tuple", data := .seq us.toArray } (.tup xs)), I1.laid (t' := s1.toks) (fun b u e => Heap.get?_push_of_some _ e) (Nat.le_refl _) ?_, rfl, q _ _ hf rfl rfl⟩
  exact ⟨Heap.get?_push_size _ rfl, z, us, r, ⟨_, Heap.get?_push_size _ rfl, rfl, _, rfl⟩⟩
theorem de_tupP {x1} (h : DA X es ρ α fun ds α1 => ds.length ≤ 100000 ∧ R (.pt ds) α1) : DE X (.Tuple es x1 pos) ρ α R := by
  intro A σ H Q rep con
  refine wp_of (pe_tupP pa_wp) (h A σ H _ rep fun vs ds B α1 H1 h1 g s q => ?_)
  exact ⟨by rw [q.length]; exact Nat.le_trans h1.1 (by decide), fun p ob hp hc hd => (con.step g s).new s hp (.pt (not_cell s hp) upd_same hc hd (q.new hp)) h1.2⟩
/-- t + u, the new tuple has no attributes -/
def rCatP (K : PySem.W.Frag) : R2 := fun x y H Q => ∃ a b xs ys, x = .ref a ∧ y = .ref b ∧ SqT K H a xs ∧ SqT K H b ys ∧ xs.length + ys.length ≤ sizeLine ∧
  (xs = [] → Q (.ref b) H) ∧ (xs ≠ [] → ys = [] → Q (.ref a) H) ∧ (xs ≠ [] → ys ≠ [] → ∀ p ob, H p = none → ob.cls = .type "tuple" → ob.dict = none → Q (.ref p) (upd H p (.frz ob (.tup (xs ++ ys)))))
theorem op_catP : OpR X (binaryOp .Add) (rCatP X.K) := by
  intro pins s σ H x y v u Q I rx ry h
  obtain ⟨a, b, xs, ys, rfl, rfl, ha, hb, hz, q0, q1, q2⟩ := h
  cases rx
  cases ry
  obtain ⟨its, r1, p1, _⟩ := I.tuple ha
  obtain ⟨its2, r2, p2, _⟩ := I.tuple hb
  by_cases hx : xs = []
  · subst hx
    cases r1
    exact cat_tup0 p1 p2 ⟨.ref b, H, I, rfl, q0 rfl⟩
  · refine HT.cat_tup p1 p2 (fun z => hx (r1.nil_iff.mp z)) (fun z => ⟨.ref a, H, I, rfl, q1 hx (r2.nil_iff.mp z)⟩) (fun z => ?_) (by rw [← r1.length, ← r2.length]; exact hz)
    refine ⟨.ref s.heap.objs.size, _, I.laid (t' := s.toks) (o := .frz { cls := .type "tuple", data := .seq (its ++ its2).toArray } (.tup (xs ++ ys))) (fun b ob q => Heap.get?_push_of_some _ q) (Nat.le_refl _) ?_, rfl, q2 hx (fun w => z (r2.nil_iff.mpr w)) _ _ (I.hok.fresh (Nat.le_refl _)) rfl rfl⟩
    exact ⟨Heap.get?_push_size _ rfl, by rw [List.length_append]; exact hz, _, r1.append r2, IsTup.new _ _⟩
theorem od_catP {ds es : List D} (hz : ds.length + es.length ≤ 1000000) (h : R (.pt (ds ++ es)) α) : OD K (rCatP K) (.pt ds) (.pt es) α R := by
  intro A H x y s q1 q2 Q c
  have q1' := q1
  have q2' := q2
  cases q1 with
  | pt n1 e1 c1 d1 r1 =>
    cases q2 with
    | pt n2 e2 c2 d2 r2 =>
      rename_i a o1 xs b o2 ys
      refine ⟨a, b, xs, ys, rfl, rfl, .inl (.inr ⟨_, e1⟩), .inl (.inr ⟨_, e2⟩), by rw [r1.length, r2.length]; exact Nat.le_trans hz (by decide), fun z => ?_, fun z1 z2 => ?_, fun z1 z2 p ob hp hc hd => ?_⟩
      · subst z
        cases r1
        exact c.now s q2' h
      · subst z2
        cases r2
        rw [List.append_nil] at h
        exact c.now s q1' h
      · exact c.new s hp (.pt (not_cell s hp) upd_same hc hd ((r1.app r2).new hp)) h
end DH

end

section
/-! DH: tuples without attributes, more of repr, min. -/
namespace DH
open PySem PySem.Spec PyProof.Rows L2
def ptD (q : List Nat) : D := .pt (intsD q)
def ptsD (L : List (List Nat)) : List D := L.map ptD
theorem ptsD_len {L : List (List Nat)} : (ptsD L).length = L.length := by simp [ptsD]
theorem ptsD_app {S T : List (List Nat)} : ptsD S ++ ptsD T = ptsD (S ++ T) := by simp [ptsD]
theorem ptsD_get {T : List (List Nat)} {k : Nat} {y : D} (h : (ptsD T)[k]? = some y) : ∃ t, T[k]? = some t ∧ y = ptD t := by
  unfold ptsD at h
  rw [List.getElem?_map] at h
  cases e : T[k]? with
  | none => rw [e] at h; cases h
  | some t => rw [e] at h; cases h; exact ⟨t, rfl, rfl⟩
theorem ptsD_mem {T : List (List Nat)} {e : D} (h : e ∈ ptsD T) : ∃ t ∈ T, e = ptD t := by
  obtain ⟨t, ht, rfl⟩ := List.mem_map.mp h
  exact ⟨t, ht, rfl⟩
theorem na_pts (k : Nat) (T : List (List Nat)) : nas k (ptsD T) = true := nas_of fun x hx => by
  obtain ⟨t, _, rfl⟩ := ptsD_mem hx
  unfold ptD
  simp only [D.na]
  exact nas_intsD k t
theorem ptD_inj {p q : List Nat} (h : ptD p = ptD q) : p = q := by
  unfold ptD at h
  injection h with h
  exact tabD_inj (by unfold tabD; rw [h])
noncomputable def zfP (p : List Nat → Bool) (y : D) : Option D := @dite _ (∃ e, y = ptD e ∧ p e = true) (Classical.propDecidable _) (fun _ => some y) (fun _ => none)
theorem zfP_t {p : List Nat → Bool} {e : List Nat} (h : p e = true) : zfP p (ptD e) = some (ptD e) := by
  unfold zfP
  rw [dif_pos ⟨e, rfl, h⟩]
theorem zfP_f {p : List Nat → Bool} {e : List Nat} (h : p e = false) : zfP p (ptD e) = none := by
  unfold zfP
  rw [dif_neg]
  rintro ⟨e', he, hp⟩
  rw [← ptD_inj he, h] at hp
  cases hp
theorem zfP_pts (p : List Nat → Bool) : ∀ E : List (List Nat), (ptsD E).filterMap (zfP p) = ptsD (E.filter p)
  | [] => rfl
  | e :: E => by
    have ih := zfP_pts p E
    unfold ptsD at ih ⊢
    rw [List.map_cons]
    cases h : p e with
    | true => rw [List.filterMap_cons_some (zfP_t h), ih, List.filter_cons_of_pos h]; rfl
    | false => rw [List.filterMap_cons_none (zfP_f h), ih, List.filter_cons_of_neg (by rw [h]; decide)]
theorem py_ptD {α : Sto} (t : List Nat) : Py α (ptD t) (.tuple (intsP (cst t))) := by
  unfold ptD
  rw [intsD_cst]
  exact .pt (Pys.ints _)
theorem py_tabD {α : Sto} (t : List Nat) : Py α (tabD t) (.tuple (intsP (cst t))) := by
  rw [tabD_eq]
  exact py_intsT _
theorem cutD_drop {xs : List D} {k : Nat} : cutD xs (some (k : Int)) none = xs.drop k := by
  unfold cutD
  rw [sIx_of, HT.sIx_none]
  rcases Nat.le_total k xs.length with h | h
  · rw [Nat.min_eq_left h, List.take_of_length_le (by simp)]
  · rw [Nat.min_eq_right h]
    simp [List.drop_eq_nil_of_le h]
/-- repr of ints in a tuple -/
theorem roks_ints : ∀ {ns : List Int}, (∀ i ∈ ns, i.natAbs < 10 ^ 18) → roks (intsP ns) = true
  | [], _ => rfl
  | n :: ns, h => by
    show (rok (.int n) && roks (intsP ns)) = true
    rw [roks_ints fun i hi => h i (by simp [hi])]
    simp only [rok, Bool.and_true, decide_eq_true_eq]
    exact h n (by simp)
theorem rws_ints : ∀ ns : List Int, rws (intsP ns) = 22 * ns.length
  | [] => rfl
  | n :: ns => by
    show DH.rw (.int n) + 2 + rws (intsP ns) = _
    rw [rws_ints ns, List.length_cons]
    simp only [DH.rw]
    omega
theorem rok_cst {t : List Nat} {n : Nat} (h : ∀ y ∈ t, y < n) (hn : n ≤ 1000000) : rok (.tuple (intsP (cst t))) = true := by
  show roks (intsP (cst t)) = true
  refine roks_ints fun i hi => ?_
  obtain ⟨y, hy, rfl⟩ := List.mem_map.mp hi
  have := h y hy
  have e : (Int.ofNat y).natAbs = y := rfl
  rw [e]
  omega
section
variable {K : PySem.W.Frag} {α : Sto} {R : RE} {d : D}
theorem cd_reprT {t : List Nat} {n : Nat} (hd : Py α d (.tuple (intsP (cst t)))) (h : ∀ y ∈ t, y < n) (hn : n ≤ 1000000) (hl : t.length ≤ 10000) (hR : R (.str (PyData.tuple (intsP (cst t))).shown) α) : CD K (rRepr K) [d] α R :=
  cd_repr hd (rok_cst h hn) (by
    show 3 + rws (intsP (cst t)) ≤ 1000000
    rw [rws_ints]
    simp only [cst, List.length_map]
    omega) (by
    simp only [PyData.depth, dep_ints]
    decide) hR
/-- min of tuples of ints, however they are told -/
theorem cd_minF {f : List Nat → D} (hf : ∀ t, Py α (f t) (.tuple (intsP (cst t)))) {T : List (List Nat)} (hc : cont α d = some (T.map f)) (ht : isT d = false) (hne : T ≠ []) (h : ∀ t, t ∈ T → (∀ t' ∈ T, ¬ t' < t) → R (f t) α) : CD K (rMinT K) [d] α R := by
  intro A H xs s q Q c
  cases q with
  | cons q1 qn =>
    cases qn
    obtain ⟨a, ys, rfl, hs, rr⟩ := readSeq s q1 hc
    have hs : SqL K H a ys := hs.elim (fun z => z.2) (fun z => by rw [ht] at z; cases z.1)
    have hl : ys.length = T.length := by rw [rr.length, List.length_map]
    have at_ : ∀ (i : Nat) (x : V) (e : List Int), ys[i]? = some x → (T.map cst)[i]? = some e → ∃ t, T[i]? = some t ∧ e = cst t ∧ Da K A H x (f t) := by
      intro i x e hx he
      rw [List.getElem?_map] at he
      cases ht : T[i]? with
      | none => rw [ht] at he; cases he
      | some t =>
        rw [ht] at he; cases he
        obtain ⟨v, hv, qv⟩ := rr.get (i := i) (d := f t) (by rw [List.getElem?_map, ht]; rfl)
        rw [hx] at hv; cases hv
        exact ⟨t, rfl, rfl, qv⟩
    refine ⟨a, ys, T.map cst, rfl, hs, by rw [hl, List.length_map], fun i x e hx he => ?_, by simpa using hne, fun i x e hx he hmin => ?_⟩
    · obtain ⟨t, _, rfl, qv⟩ := at_ i x e hx he
      exact py_dp s (hf t) qv
    · obtain ⟨t, hti, rfl, qv⟩ := at_ i x e hx he
      exact c.now s qv (h t (List.mem_of_getElem? hti) fun t' ht' z => hmin (cst t') (List.mem_map.mpr ⟨t', ht', rfl⟩) (cst_lt.mpr z))
theorem od_eqNilT {T : List (List Nat)} (h : R (.bl (decide (T = []))) α) : OD K (rEqD K) (.lst (tabsD T)) (.lst []) α R :=
  od_eq (p2 := .list []) (.lst (by rw [tabsD_eq]; exact py_rows _)) (.lst .nil) (sh_rows _) rfl (by
    have : PyData.eqv (.list (rowsP (T.map cst))) (.list []) = decide (T = []) := by
      cases T with
      | nil => rfl
      | cons t T => rfl
    rw [this]; exact h)
end
end DH

end

section
/-! DH: sorted lists of tuples, of items, told in their order. -/
namespace DH
open PySem PySem.Spec PyProof.Rows L2
/-- two strictly ordered lists of the same things are one -/
theorem one_sorted {β : Type} {lt : β → β → Prop} (irr : ∀ a, ¬ lt a a) (tr : ∀ a b c, lt a b → lt b c → lt a c) : ∀ {l m : List β}, l.Pairwise lt → m.Pairwise lt → (∀ x, x ∈ l ↔ x ∈ m) → l = m
  | [], [], _, _, _ => rfl
  | [], y :: m, _, _, h => absurd ((h y).mpr (by simp)) (by simp)
  | x :: l, [], _, _, h => absurd ((h x).mp (by simp)) (by simp)
  | x :: l, y :: m, hl, hm, h => by
    have hl' := List.pairwise_cons.mp hl
    have hm' := List.pairwise_cons.mp hm
    have e : x = y := by
      have h1 := (h x).mp (by simp)
      have h2 := (h y).mpr (by simp)
      rcases List.mem_cons.mp h1 with h1 | h1
      · exact h1
      · rcases List.mem_cons.mp h2 with h2 | h2
        · exact h2.symm
        · exact absurd (tr _ _ _ (hl'.1 y h2) (hm'.1 x h1)) (irr x)
    subst e
    rw [one_sorted irr tr hl'.2 hm'.2 fun z => ?_]
    constructor
    · intro hz
      rcases List.mem_cons.mp ((h z).mp (by simp [hz])) with rfl | hz'
      · exact absurd (hl'.1 z hz) (irr z)
      · exact hz'
    · intro hz
      rcases List.mem_cons.mp ((h z).mpr (by simp [hz])) with rfl | hz'
      · exact absurd (hm'.1 z hz) (irr z)
      · exact hz'
theorem lt_lex {s t : List Nat} : s.length = t.length → ∀ a b : Nat, (s ++ [a] < t ++ [b] ↔ s < t ∨ (s = t ∧ a < b)) := by
  induction s generalizing t with
  | nil =>
    intro h a b
    have : t = [] := List.length_eq_zero_iff.mp h.symm
    subst this
    simp [List.cons_lt_cons_iff]
  | cons x s ih =>
    intro h a b
    cases t with
    | nil => cases h
    | cons y t =>
      rw [List.cons_append, List.cons_append, List.cons_lt_cons_iff, List.cons_lt_cons_iff, ih (by simpa using h)]
      constructor
      · rintro (h1 | ⟨h1, h2 | ⟨h2, h3⟩⟩)
        · exact .inl (.inl h1)
        · exact .inl (.inr ⟨h1, h2⟩)
        · exact .inr ⟨by rw [h1, h2], h3⟩
      · rintro ((h1 | ⟨h1, h2⟩) | ⟨h1, h2⟩)
        · exact .inl h1
        · exact .inr ⟨h1, .inl h2⟩
        · injection h1 with h3 h4
          exact .inr ⟨h3, .inr ⟨h4, h2⟩⟩
/-- int tuples in order -/
theorem le_tups {β : Type} (k : β → List Int) : PySem.W.dataLe false (fun b => .tuple (intsP (k b))) = fun p q => decide (k p ≤ k q) := by
  funext p q
  show (!PySem.W.dataLt (.tuple (intsP (k q))) (.tuple (intsP (k p)))) = _
  rw [PySem.W.dataLt_tuple]
  show (!PySem.W.rowLt ((k q).map PyData.int) ((k p).map PyData.int)) = _
  rw [PySem.W.dataLt_ints]
  by_cases h : k q < k p
  · have h' : ¬ k p ≤ k q := fun r => List.not_lt.mpr r h
    simp [h, h']
  · have h' : k p ≤ k q := List.not_lt.mp h
    simp [h, h']
theorem tups_total {β : Type} (k : β → List Int) : PySem.W.TotalLe (PySem.W.dataLe false (fun b => .tuple (intsP (k b)))) := by
  rw [le_tups]
  refine ⟨fun a b c h1 h2 => ?_, fun a b => ?_⟩
  · simp only [decide_eq_true_eq] at h1 h2 ⊢
    exact List.le_trans h1 h2
  · simp only [decide_eq_true_eq]
    exact List.le_total _ _
/-- items: an int tuple and a text, in order -/
def itemLe (p q : List Int × Str) : Prop := p.1 < q.1 ∨ (p.1 = q.1 ∧ p.2.cps.toList ≤ q.2.cps.toList)
instance (p q : List Int × Str) : Decidable (itemLe p q) := inferInstanceAs (Decidable (p.1 < q.1 ∨ (p.1 = q.1 ∧ p.2.cps.toList ≤ q.2.cps.toList)))
theorem le_items {β : Type} (k : β → List Int × Str) : PySem.W.dataLe false (fun b => itP (k b)) = fun p q => decide (itemLe (k p) (k q)) := by
  funext p q
  show (!PySem.W.dataLt (itP (k q)) (itP (k p))) = _
  unfold itP
  rw [PySem.W.dataLt_pair (by simp only [PySem.W.alike]; exact PySem.W.alike_ints _ _) (by simp [PySem.W.alike]), eqv_intsT, eqv_str]
  rw [PySem.W.dataLt_tuple, PySem.W.dataLt_str]
  have e := PySem.W.dataLt_ints (k q).1 (k p).1
  unfold PySem.W.rowLt at e
  rw [show intsP (k q).1 = (k q).1.map PyData.int from rfl, show intsP (k p).1 = (k p).1.map PyData.int from rfl, e]
  refine Bool.eq_iff_iff.mpr (Iff.trans ?_ decide_eq_true_iff.symm)
  unfold itemLe
  by_cases h : (k q).1 = (k p).1
  · rw [if_pos (decide_eq_true h)]
    by_cases h2 : (k q).2 = (k p).2
    · rw [if_pos (decide_eq_true h2)]
      simp only [Bool.not_false, true_iff]
      exact .inr ⟨h.symm, by rw [h2]; exact List.le_refl _⟩
    · rw [if_neg (by simpa using h2)]
      simp only [Bool.not_eq_true', decide_eq_false_iff_not]
      constructor
      · intro z
        exact .inr ⟨h.symm, List.not_lt.mp z⟩
      · rintro (z | ⟨_, z⟩)
        · rw [h] at z
          exact absurd z (List.lt_irrefl _)
        · exact List.not_lt.mpr z
  · rw [if_neg (by simpa using h)]
    simp only [Bool.not_eq_true', decide_eq_false_iff_not]
    constructor
    · intro z
      rcases List.le_total (k p).1 (k q).1 with z2 | z2
      · by_cases z3 : (k p).1 < (k q).1
        · exact .inl z3
        · exact absurd (List.le_antisymm (List.not_lt.mp z3) z2) h
      · exact absurd (List.le_antisymm z2 (List.not_lt.mp z)) h
    · rintro (z | ⟨z, _⟩)
      · intro z2
        exact List.lt_irrefl _ (List.lt_trans z z2)
      · exact absurd z.symm h
theorem items_total {β : Type} (k : β → List Int × Str) : PySem.W.TotalLe (PySem.W.dataLe false (fun b => itP (k b))) := by
  rw [le_items]
  refine ⟨fun a b c h1 h2 => ?_, fun a b => ?_⟩
  · rw [decide_eq_true_iff] at h1 h2 ⊢
    rcases h1 with h1 | ⟨h1, g1⟩
    · rcases h2 with h2 | ⟨h2, g2⟩
      · exact .inl (List.lt_trans h1 h2)
      · exact .inl (h2 ▸ h1)
    · rcases h2 with h2 | ⟨h2, g2⟩
      · exact .inl (h1 ▸ h2)
      · exact .inr ⟨h1.trans h2, List.le_trans g1 g2⟩
  · rw [decide_eq_true_iff, decide_eq_true_iff]
    unfold itemLe
    by_cases h : (k a).1 = (k b).1
    · rcases List.le_total (k a).2.cps.toList (k b).2.cps.toList with z | z
      · exact .inl (.inr ⟨h, z⟩)
      · exact .inr (.inr ⟨h.symm, z⟩)
    · by_cases z : (k a).1 < (k b).1
      · exact .inl (.inl z)
      · right
        left
        by_cases z2 : (k b).1 < (k a).1
        · exact z2
        · exact absurd (List.le_antisymm (List.not_lt.mp z2) (List.not_lt.mp z)) h
/-- sorted(xs), xs a list of items; told in order -/
def rSortIO (K : PySem.W.Frag) : List V → Hp → VK → Prop := fun vs H Q => ∃ (a : Addr) (xs : List V) (es : List (List Int × Str)), vs = [V.ref a] ∧ SqL K H a xs ∧ xs.length = es.length ∧ (∀ (i : Nat) (x : V) (e : List Int × Str), xs[i]? = some x → es[i]? = some e → Dp K H x (itP e)) ∧
  ∀ (bs : List (V × (List Int × Str))) (p : Addr), bs.Perm (xs.zip es) → (bs.map (·.2)).Pairwise itemLe → H p = none → Q (.ref p) (upd H p (.lst (bs.map (·.1))))
theorem cr_sortIO {X : Cx} (hu : X.A.units + 64 < cLine) : CallR X (.builtin "sorted") (rSortIO X.K) := by
  intro pins s σ H vs us Q I r h
  obtain ⟨a, xs, es, rfl, hs, hlen, hD, q⟩ := h
  obtain ⟨its, rv, hl, hz⟩ := I.list hs
  obtain ⟨u, rfl, ru⟩ := vals1 r
  obtain rfl : u = Value.ref a := ru
  obtain ⟨e1, e2⟩ := each_bs I rv hD hlen
  have hzl : (xs.zip es).length = xs.length := by rw [List.length_zip, hlen, Nat.min_self]
  refine PySem.W.sorted_data (enc := fun b => itP b.2) hl.isList e1 e2 (.of fun b b' => ?_) (.tuples fun b => ⟨_, _, rfl⟩) (by rw [hzl]; exact hz) (fun b hb => ?_) fun out ho eo => ?_
  · show PySem.W.alike (itP b.2) (itP b'.2) = true
    unfold itP
    simp only [PySem.W.alike, PySem.W.alikeAll]
    rw [show intsP b.2.1 = b.2.1.map PyData.int from rfl, show intsP b'.2.1 = b'.2.1.map PyData.int from rfl, PySem.W.alike_ints]
    simp
  · have := it_dep b.2
    show X.A.units + 2 + (itP b.2).depth < cLine
    omega
  · obtain ⟨c, hc⟩ := sortedAll_at s.heap its out.toArray
    have hf : s.heap.objs.size ≤ s.heap.objs.size + 1 := Nat.le_succ _
    have hp := List.mergeSort_perm (xs.zip es) (PySem.W.dataLe false fun b => itP b.2)
    have hw := PySem.W.sort_pairwise (items_total (fun b : V × (List Int × Str) => b.2)) (xs.zip es)
    refine ⟨.ref (s.heap.objs.size + 1), upd H (s.heap.objs.size + 1) (.lst (((xs.zip es).mergeSort (PySem.W.dataLe false fun b => itP b.2)).map (·.1))), I.laid (t' := s.toks) (fun _ _ => sortedAll_old) hf ⟨?_, out, c, each_vals eo, hc⟩, rfl, q _ _ hp ?_ (I.hok.fresh hf)⟩
    · rw [List.length_map, hp.length_eq, hzl]
      exact hz
    · rw [List.pairwise_map]
      refine hw.imp fun {a b} z => ?_
      rw [le_items] at z
      exact of_decide_eq_true z
theorem cd_sortIO {K : PySem.W.Frag} {α : Sto} {R : RE} {es : List (List Int × Str)} (h : ∀ es', List.Perm es' es → es'.Pairwise itemLe → R (.lst (es'.map itD)) α) : CD K (rSortIO K) [.lst (es.map itD)] α R := by
  intro A H xs s q Q c
  cases q with
  | cons q r =>
    cases r
    cases q with
    | lst n e rr =>
      rename_i a ys
      have hl : ys.length = es.length := by rw [rr.length, List.length_map]
      refine ⟨a, ys, es, rfl, .inl (.inl e), hl, fun i x en h1 h2 => ?_, fun bs p hp hw hn => ?_⟩
      · obtain ⟨v, hv, qv⟩ := rr.get (i := i) (d := itD en) (by rw [List.getElem?_map, h2]; rfl)
        rw [h1] at hv; cases hv
        exact py_dp s (py_it α en) qv
      · have e2 : List.Perm (bs.map (·.2)) es := by
          have := hp.map (·.2)
          rwa [List.map_snd_zip (by omega)] at this
        have das : ∀ bs' : List (V × (List Int × Str)), (∀ b ∈ bs', b ∈ ys.zip es) → Das K A H (bs'.map (·.1)) ((bs'.map (·.2)).map itD) := by
          intro bs'
          induction bs' with
          | nil => intro _; exact .nil
          | cons b bs' ih =>
            intro hb
            refine .cons ?_ (ih fun x hx => hb x (by simp [hx]))
            obtain ⟨j, hj⟩ := List.mem_iff_getElem?.mp (hb b (by simp))
            obtain ⟨j1, j2⟩ := List.getElem?_zip_eq_some.mp hj
            obtain ⟨v, hv, qv⟩ := rr.get (i := j) (d := itD b.2) (by rw [List.getElem?_map, j2]; rfl)
            rw [j1] at hv; cases hv
            exact qv
        exact c.newL s hn (das bs fun b hb => hp.mem_iff.mp hb) (h _ e2 hw)
end DH

end

section
/-! DH: all queues of a length, in order. -/
namespace DH
open PySem PySem.Spec PyProof.Rows L2
def qsL (n : Nat) : Nat → List (List Nat)
  | 0 => [[]]
  | k + 1 => (qsL n k).flatMap fun q => (List.range n).map fun c => q ++ [c]
theorem flatMap_len {α β : Type} {l : List α} {g : α → List β} {c : Nat} (h : ∀ x, (g x).length = c) : (l.flatMap g).length = l.length * c := by
  induction l with
  | nil => simp
  | cons x l ih => rw [List.flatMap_cons, List.length_append, h, ih, List.length_cons, Nat.succ_mul]; omega
theorem qsL_len (n : Nat) : ∀ k, (qsL n k).length = n ^ k
  | 0 => rfl
  | k + 1 => by
    unfold qsL
    rw [flatMap_len (c := n) fun q => by simp, qsL_len n k, Nat.pow_succ]
theorem qsL_small {n k : Nat} (hn : n ≤ 12) (hk : k ≤ 4) : (qsL n k).length ≤ 20736 := by
  rw [qsL_len]
  have h1 : n ^ k ≤ 12 ^ k := Nat.pow_le_pow_left hn k
  have h2 : 12 ^ k ≤ 12 ^ 4 := Nat.pow_le_pow_right (by decide) hk
  have : 12 ^ 4 = 20736 := by decide
  omega
theorem mem_qsL {n : Nat} : ∀ {k : Nat} {q : List Nat}, q ∈ qsL n k ↔ q.length = k ∧ ∀ y ∈ q, y < n
  | 0, q => by
    unfold qsL
    rw [List.mem_singleton]
    constructor
    · rintro rfl; simp
    · rintro ⟨h, _⟩; exact List.length_eq_zero_iff.mp h
  | k + 1, q => by
    unfold qsL
    rw [List.mem_flatMap]
    constructor
    · rintro ⟨p, hp, hq⟩
      obtain ⟨c, hc, rfl⟩ := List.mem_map.mp hq
      obtain ⟨h1, h2⟩ := mem_qsL.mp hp
      refine ⟨by simp [h1], fun y hy => ?_⟩
      rcases List.mem_append.mp hy with hy | hy
      · exact h2 y hy
      · simp at hy; subst hy; simpa using hc
    · rintro ⟨h1, h2⟩
      have hne : q ≠ [] := fun z => by subst z; simp at h1
      refine ⟨q.dropLast, mem_qsL.mpr ⟨by simp [h1], fun y hy => h2 y ((List.dropLast_sublist q).subset hy)⟩, List.mem_map.mpr ⟨q.getLast hne, by simpa using h2 _ (List.getLast_mem hne), List.dropLast_concat_getLast hne⟩⟩

theorem lt_irr (s : List Nat) : ¬ s < s := List.lt_irrefl s
theorem lt_tr {s t u : List Nat} (h : s < t) (g : t < u) : s < u := List.lt_trans h g
theorem qsL_sorted (n : Nat) : ∀ k, (qsL n k).Pairwise (· < ·)
  | 0 => by simp [qsL]
  | k + 1 => by
    unfold qsL
    have ih := qsL_sorted n k
    have len : ∀ q ∈ qsL n k, q.length = k := fun q hq => (mem_qsL.mp hq).1
    revert ih len
    generalize qsL n k = L
    intro ih len
    induction L with
    | nil => simp
    | cons q L ih2 =>
      rw [List.flatMap_cons, List.pairwise_append]
      obtain ⟨h1, h2⟩ := List.pairwise_cons.mp ih
      refine ⟨?_, ih2 h2 fun x hx => len x (by simp [hx]), ?_⟩
      · rw [List.pairwise_map]
        refine List.pairwise_lt_range.imp fun {a b} hab => ?_
        exact (lt_lex rfl a b).mpr (.inr ⟨rfl, hab⟩)
      · intro x hx y hy
        obtain ⟨a, _, rfl⟩ := List.mem_map.mp hx
        obtain ⟨r, hr, hy⟩ := List.mem_flatMap.mp hy
        obtain ⟨b, _, rfl⟩ := List.mem_map.mp hy
        exact (lt_lex (by rw [len q (by simp), len r (by simp [hr])]) a b).mpr (.inl (h1 r hr))
/-- a queue of four's kind -/
def kindQ (m : Rows) (q : List Nat) : Option Str := match q with
  | [a, b, c, d] => kindOf m a b c d
  | _ => none
def foursL (m : Rows) (n : Nat) : List (List Nat × Str) := (qsL n 4).filterMap fun q => (kindQ m q).map fun s => (q, s)
def itN (e : List Nat × Str) : List Int × Str := (cst e.1, e.2)
theorem mem_fours {m : Rows} {n : Nat} {e : List Nat × Str} : e ∈ foursL m n ↔ ∃ a b c d, e.1 = [a, b, c, d] ∧ a < n ∧ b < n ∧ c < n ∧ d < n ∧ kindOf m a b c d = some e.2 := by
  unfold foursL
  rw [List.mem_filterMap]
  constructor
  · rintro ⟨q, hq, h⟩
    obtain ⟨h4, hl⟩ := mem_qsL.mp hq
    match q, h4, hl, h with
    | [a, b, c, d], _, hl, h =>
      rw [Option.map_eq_some_iff] at h
      obtain ⟨s, hs, rfl⟩ := h
      exact ⟨a, b, c, d, rfl, hl a (by simp), hl b (by simp), hl c (by simp), hl d (by simp), hs⟩
  · rintro ⟨a, b, c, d, h1, ha, hb, hc, hd, hk⟩
    obtain ⟨q, s⟩ := e
    simp only at h1 hk
    subst h1
    exact ⟨[a, b, c, d], mem_qsL.mpr ⟨rfl, by simp; omega⟩, by simp [kindQ, hk]⟩
theorem fours_sorted (m : Rows) (n : Nat) : (foursL m n).Pairwise fun p q => p.1 < q.1 := by
  unfold foursL
  rw [List.pairwise_filterMap]
  refine (qsL_sorted n 4).imp fun {q r} h p hp p' hp' => ?_
  obtain ⟨s, _, rfl⟩ := Option.map_eq_some_iff.mp hp
  obtain ⟨s', _, rfl⟩ := Option.map_eq_some_iff.mp hp'
  exact h
theorem fours_nil {m : Rows} {n : Nat} : foursL m n = [] ↔ NoBad n m := by
  constructor
  · intro h a b c d ha hb hc hd
    cases e : kindOf m a b c d with
    | none => rfl
    | some s =>
      have : ([a, b, c, d], s) ∈ foursL m n := mem_fours.mpr ⟨a, b, c, d, rfl, ha, hb, hc, hd, e⟩
      rw [h] at this
      cases this
  · intro h
    cases e : foursL m n with
    | nil => rfl
    | cons x l =>
      have : x ∈ foursL m n := by rw [e]; simp
      obtain ⟨a, b, c, d, _, ha, hb, hc, hd, hk⟩ := mem_fours.mp this
      rw [h a b c d ha hb hc hd] at hk
      cases hk
/-! items put -/
section
variable {es : List (List Int × Str)} {k : List Int} {s : Str} {p : List Int × Str}
theorem putE_has : (k, s) ∈ putE es k s := by
  unfold putE
  split
  · rename_i h
    obtain ⟨q, hq, e⟩ := List.any_eq_true.mp h
    have e' : q.1 = k := of_decide_eq_true e
    exact List.mem_map.mpr ⟨q, hq, by rw [if_pos e', e']⟩
  · simp
theorem putE_old (h : p ∈ es) (g : p.1 = k → p.2 = s) : p ∈ putE es k s := by
  unfold putE
  split
  · refine List.mem_map.mpr ⟨p, h, ?_⟩
    by_cases e : p.1 = k
    · rw [if_pos e, ← g e]
    · rw [if_neg e]
  · exact List.mem_append_left _ h
theorem putE_keys (h : (es.map (·.1)).Nodup) : ((putE es k s).map (·.1)).Nodup := by
  unfold putE
  split
  · have : (es.map fun p => if p.1 = k then (p.1, s) else p).map (·.1) = es.map (·.1) := by
      rw [List.map_map]
      apply List.map_congr_left
      intro p _
      simp only [Function.comp]
      split <;> rfl
    rw [this]
    exact h
  · rename_i hn
    rw [List.map_append, List.nodup_append]
    refine ⟨h, by simp, fun a ha b hb => ?_⟩
    simp at hb
    subst hb
    rintro rfl
    obtain ⟨q, hq, e⟩ := List.mem_map.mp ha
    exact hn (List.any_eq_true.mpr ⟨q, hq, decide_eq_true e⟩)
end
/-- items in order whose keys are told once -/
theorem keys_lt {es : List (List Int × Str)} (h : es.Pairwise itemLe) (g : (es.map (·.1)).Nodup) : es.Pairwise fun p q => p.1 < q.1 := by
  have g' : es.Pairwise fun p q => p.1 ≠ q.1 := List.pairwise_map.mp g
  refine List.Pairwise.imp (R := fun p q => itemLe p q ∧ p.1 ≠ q.1) (fun {p q} z => ?_) (List.Pairwise.and h g')
  rcases z.1 with z1 | ⟨z1, _⟩
  · exact z1
  · exact absurd z1 z.2
theorem cst_nodup_lt {e e' : List Nat × Str} : (itN e).1 < (itN e').1 ↔ e.1 < e'.1 := cst_lt
end DH

end

section
/-! DH: t[::-1]; sorted ints; xs * n; list(range(a, b)); extend; pop(i). -/
namespace DH
open PySem PySem.Spec PyProof.Rows L2
section
variable {prog : Program} {w : World} {A : Around} {E : Value → Shared → Prop} {s : Shared}
theorem dh_applied_back {sl : Addr} {vl vu vk : Value} {n : Nat} {Q : Int × Int × Nat → Shared → Prop} (hs : s.heap.IsSliceOf sl vl vu vk) (pl : IsPart vl none) (pu : IsPart vu none) (pk : IsPart vk (some (-1)))
    (h : Q ((n : Int) - 1, -1, n) s) : wpAny (model prog w) A (Builtin.Slice.sliceApplied (.ref sl) (pure (n : Int))) Q E s := by
  obtain ⟨os, hos, hcs, hds⟩ := id hs
  unfold Builtin.Slice.sliceApplied Builtin.Slice.sliceFields
  refine wpAny_bind (wpAny_bind (wpAny_field hos hds (x := vl) rfl (wpAny_bind (wpAny_field hos hds (x := vu) rfl (wpAny_bind (wpAny_field hos hds (x := vk) rfl (wpAny_pure ?_)))))))
  refine wpAny_bind (HT.slicePart_ pk ?_)
  show wpAny _ _ (if ((-1 : Int) == 0) = true then _ else _) _ _ s
  rw [if_neg (by decide)]
  refine wpAny_bind (HT.slicePart_ pl (wpAny_bind (HT.slicePart_ pu (wpAny_bind (wpAny_pure ?_)))))
  show wpAny _ _ (match Builtin.Slice.sliceAdjust none none (-1) (n : Int) with | (lo, hi) => pure (lo, (-1 : Int), Builtin.Slice.slicePlaces lo hi (-1))) _ _ s
  have e1 : Builtin.Slice.sliceAdjust none none (-1) (n : Int) = ((n : Int) - 1, -1) := by
    unfold Builtin.Slice.sliceAdjust
    simp
  rw [e1]
  have e2 : Builtin.Slice.slicePlaces ((n : Int) - 1) (-1) (-1) = n := by
    unfold Builtin.Slice.slicePlaces
    simp
    try (split <;> omega)
    try omega
  show wpAny _ _ (pure ((n : Int) - 1, (-1 : Int), Builtin.Slice.slicePlaces ((n : Int) - 1) (-1) (-1))) _ _ s
  rw [e2]
  exact wpAny_pure h
theorem fm_congr {β γ : Type} {f g : β → Option γ} : ∀ (l : List β), (∀ a ∈ l, f a = g a) → l.filterMap f = l.filterMap g
  | [], _ => rfl
  | a :: l, h => by
    rw [List.filterMap_cons, List.filterMap_cons, h a (by simp), fm_congr l fun b hb => h b (by simp [hb])]
theorem back_ix {β : Type} (l : List β) : (List.range l.length).filterMap (fun (m : Nat) => l[(((l.length : Int) - 1) + (m : Int) * (-1)).toNat]?) = l.reverse := by
  have h1 : (List.range l.length).filterMap (fun (m : Nat) => l[(((l.length : Int) - 1) + (m : Int) * (-1)).toNat]?) = (List.range l.length).filterMap (fun m => l.reverse[m]?) := by
    refine fm_congr _ fun m hm => ?_
    have hm' : m < l.length := by simpa using hm
    rw [List.getElem?_reverse hm']
    congr 1
    omega
  rw [h1]
  have h2 : ∀ (r : List β), (List.range r.length).filterMap (fun m => r[m]?) = r := by
    intro r
    induction r with
    | nil => rfl
    | cons x r ih =>
      rw [List.length_cons, List.range_succ_eq_map, List.filterMap_cons, List.filterMap_map]
      simp only [List.getElem?_cons_zero]
      congr 1
  have := h2 l.reverse
  rwa [List.length_reverse] at this
theorem pick_back (xs : Array Value) : ((List.range xs.size).filterMap fun (m : Nat) => xs[(((xs.size : Int) - 1) + (m : Int) * (-1)).toNat]?).toArray = xs.toList.reverse.toArray := by
  have := back_ix xs.toList
  rw [← this]
  simp only [Array.getElem?_toList, Array.length_toList]
theorem dh_tuple_back {t sl : Addr} {items : Array Value} {vl vu vk : Value} {Q : Value → Shared → Prop} (ht : IsTup s.heap t items) (hs : s.heap.IsSliceOf sl vl vu vk) (pl : IsPart vl none) (pu : IsPart vu none) (pk : IsPart vk (some (-1)))
    (h : Q (.ref s.heap.objs.size) { s with heap := s.heap.push { cls := .type "tuple", data := .seq items.toList.reverse.toArray } })
    (hsz : items.size ≤ sizeLine) : wpAny (model prog w) A (getItem (.ref t) (.ref sl)) Q E s := by
  have fits : sizeOk (.seq items.toList.reverse.toArray) := by
    show items.toList.reverse.toArray.size ≤ sizeLine
    simpa using hsz
  obtain ⟨os, hos, hcs, hds⟩ := id hs
  have hTs : s.TypeIs (.ref sl) "slice" := ⟨os, hos, hcs⟩
  unfold getItem
  try with_reducible refine wpAny_holding ?_
  first | refine wpAny_bind (wpAny_pure ?_) | skip
  refine wpAny_bind (wpAny_sequenceKey ht.typeIs (by decide) ?_)
  refine wpAny_bind (wpAny_callSpecial?_slot (name := Str.ofString "__getitem__") ht.typeIs PyProof.Rows.slot_tuple_getitem
    (wpAny_call_entry PyProof.Rows.slot_tuple_getitem ht.typeIs entry_tuple_getitem ?_ (args_tuple_getitem _ _)))
  show wpAny _ _ (Builtin.Tuple.tupleItemsOf (.ref t) >>= _) _ _ s
  refine wpAny_bind (tupleItemsOf_ ht ?_)
  refine wpAny_bind (wpAny_typeOf hTs ?_)
  rw [if_pos (by decide)]
  refine wpAny_bind (dh_applied_back hs pl pu pk ?_)
  have hno : ¬ ((((items.size : Int) - 1) == 0 && (-1 : Int) == 1 && items.size == items.size) = true) := by simp
  show wpAny _ _ (if (((items.size : Int) - 1) == 0 && (-1 : Int) == 1 && items.size == items.size) = true then _ else _) _ _ s
  rw [if_neg hno, pick_back]
  first
    | exact wpAny_bind (m := Builtin.Tuple.tupleExact _) (wpAny_newObj_type (wpAny_pure ⟨_, rfl, wpAny_pure h⟩) fits)
    | exact wpAny_bind (m := Builtin.Tuple.tupleExact _) (wpAny_newObj_type (wpAny_bind (wpAny_pure (wpAny_pure ⟨_, rfl, wpAny_pure h⟩))) fits)
    | exact wpAny_bind (wpAny_bind (m := Builtin.Tuple.tupleExact _) (wpAny_newObj_type (wpAny_pure (wpAny_pure ⟨_, rfl, wpAny_pure h⟩)) fits))
    | exact wpAny_bind (wpAny_bind (m := Builtin.Tuple.tupleExact _) (wpAny_newObj_type (wpAny_pure ⟨_, rfl, wpAny_pure h⟩) fits))
end
theorem rep_das {K : PySem.W.Frag} {A : List Addr} {H : Hp} {xs : List V} {ds : List D} (r : Das K A H xs ds) : ∀ n : Nat, Das K A H (List.replicate n xs).flatten (List.replicate n ds).flatten
  | 0 => .nil
  | n + 1 => by
    rw [List.replicate_succ, List.flatten_cons, List.replicate_succ, List.flatten_cons]
    exact r.app (rep_das r n)
section
variable {X : Cx} {ρ : Rho} {α : Sto} {R : RE} {e o b : Expr} {p p2 pos apos cpos pos' : Pos}
/-- t[::-1] -/
theorem pe_back {k : Expr} {te tk : TE} (he : PE X e te) (hk : PE X k tk) : PE X (.Subscript e (.Slice none none (some k) p2) pos) (fun σ H Q => te σ H fun x H1 => tk σ H1 fun y H2 => y = .int (-1) ∧ ∃ a xs, x = .ref a ∧ SqT X.K H2 a xs ∧ ∀ p, H2 p = none → Q (.ref p) (upd H2 p (.tup xs.reverse))) := by
  refine ⟨fun pins s σ H Q I h => ?_⟩
  refine Subscript_ (thn (he.run pins s σ H _ I h) fun v s1 ⟨x, H1, I1, r1, q1⟩ => ?_)
  refine wpAny_Slice ?_
  simp only [evalPart_none]
  refine wpAny_pure ?_
  refine wpAny_pure ?_
  rw [evalPart_some]
  refine thn (hk.run pins s1 σ H1 _ I1 q1) fun vk s3 ⟨y, H3, I3, ry, ey, a, xs, ex, hx, q⟩ => ?_
  subst ey ex
  obtain ⟨t, rfl⟩ := ry
  cases r1
  have I4 : Inv X pins σ H3 { s3 with heap := s3.heap.push { cls := .type "slice", data := .fields #[.none, .none, .int (-1) t] } } := I3.kept (t' := s3.toks) fun b ob q => Heap.get?_push_of_some _ q
  obtain ⟨its, r, ht, hz⟩ := I4.tuple hx
  refine tail_any (ops := [.ref a, .ref s3.heap.objs.size]) ht.typeIs PyProof.Rows.slot_tuple_getitem.lookup ?_ (by with_unfolding_all rfl)
  have hlen : its.toArray.size = xs.length := by rw [List.size_toArray]; exact r.length.symm
  refine dh_tuple_back ht (Heap.IsSliceOf.new ..) .none .none (.int (-1) t) ?_ (by rw [hlen]; exact hz)
  refine ⟨.ref _, _, I4.laid (t' := s3.toks) (o := .tup xs.reverse) (fun b ob q => Heap.get?_push_of_some _ q) (Nat.le_refl _) ?_, rfl, q _ (I4.hok.fresh (Nat.le_refl _))⟩
  exact ⟨by rw [List.length_reverse]; exact hz, _, r.reverse, IsTup.new _ _⟩
theorem Das.rev {K : PySem.W.Frag} {A : List Addr} {H : Hp} : ∀ {xs : List V} {ds : List D}, Das K A H xs ds → Das K A H xs.reverse ds.reverse
  | _, _, .nil => .nil
  | _, _, .cons h t => by
    rw [List.reverse_cons, List.reverse_cons]
    exact (Das.rev t).app (.cons h .nil)
theorem de_back {k : Expr} (h : DE X e ρ α fun d α1 => ∃ ds, d = .tup ds ∧ DE X k ρ α1 fun d2 α2 => d2 = .int (-1) ∧ R (.tup ds.reverse) α2) : DE X (.Subscript e (.Slice none none (some k) p2) pos) ρ α R := by
  intro A σ H Q rep con
  refine wp_of (pe_back pe_wp pe_wp) (h A σ H _ rep fun v d B α1 H1 h1 g s q => ?_)
  obtain ⟨ds, rfl, h1⟩ := h1
  refine h1 _ σ H1 _ (rep.mono g s) fun y d2 B2 α2 H2 h2 g2 s2 q2 => ?_
  obtain ⟨rfl, h2⟩ := h2
  refine ⟨q2.int_inv, ?_⟩
  have q' := q.mono g2
  cases q' with
  | tup n e r => exact ⟨_, _, rfl, .inl (.inl e), fun p hp => ((con.step g s).step g2 s2).newT s2 hp (Das.rev r) h2⟩
/-- xs * n -/
theorem od_rep {K : PySem.W.Frag} {d : D} {ds : List D} {n : Nat} (h1 : lstC α d = some ds) (hz : ds.length * n ≤ 1000000) (hn : n ≤ 1000000) (h : R (.lst (List.replicate n ds).flatten) α) : OD K rRep d (.int (n : Nat)) α R := by
  intro A H x y s q1 q2 Q c
  obtain ⟨a, xs, rfl, e1, r1⟩ := readL s q1 h1
  refine ⟨a, n, xs, rfl, q2.int_inv, e1, by omega, by omega, ?_, fun p hp => c.newL s hp ?_ h⟩
  · rw [r1.length, Int.toNat_natCast]; exact Nat.le_trans hz (by decide)
  · rw [Int.toNat_natCast]
    exact rep_das r1 n
theorem od_repC {K : PySem.W.Frag} {d : D} {ds : List D} {n : Nat} (h1 : lstC α d = some ds) (hz : ds.length * n ≤ 1000000) (hn : n ≤ 1000000) (h : R (.acc α.length) (α ++ [.l (List.replicate n ds).flatten])) : OD K rRep d (.int (n : Nat)) α R := by
  intro A H x y s q1 q2 Q c
  obtain ⟨a, xs, rfl, e1, r1⟩ := readL s q1 h1
  refine ⟨a, n, xs, rfl, q2.int_inv, e1, by omega, by omega, ?_, fun p hp => c.newC s hp ?_ h⟩
  · rw [r1.length, Int.toNat_natCast]; exact Nat.le_trans hz (by decide)
  · rw [Int.toNat_natCast]
    exact rep_das r1 n
/-- list(range(a, b)) -/
theorem de_listRg2 {a b : Expr} (hc : X.calm = true) (hm : X.mg "list" = none) (hm2 : X.mg "range" = none) (h : DE X a ρ α fun d α1 => DE X b ρ α1 fun d2 α2 => ∃ i j : Nat, d = .int i ∧ d2 = .int j ∧ i ≤ 16777216 ∧ j ≤ 16777216 ∧ R (.lst (rgD i (j - i))) α2)
    (hg : Gl X "list" := by rfl) (hg2 : Gl X "range" := by rfl) (na : starEach [a, b] X.env = (false, eval a X.env) :: starEach [b] X.env := by rfl) (nb : starEach [b] X.env = (false, eval b X.env) :: starEach [] X.env := by rfl) (nc : (backTo pos2 (starEach [b] X.env)).any (·.1) = false := by rfl)
    (na2 : starEach [.Call (.Name "range" p2) [a, b] [] pos2] X.env = (false, eval (.Call (.Name "range" p2) [a, b] [] pos2) X.env) :: starEach [] X.env := by rfl) :
    DE X (.Call (.Name "list" p) [.Call (.Name "range" p2) [a, b] [] pos2] [] pos) ρ α R := by
  intro A σ H Q rep con
  refine wp_of (pe_listRg hc hg hm (prg_2 hg2 hm2 pe_wp pe_wp na nb nc) na2) (h A σ H _ rep fun v d B α1 H1 h1 g s q => ?_)
  refine h1 _ σ H1 _ (rep.mono g s) fun y d2 B2 α2 H2 h2 g2 s2 q2 => ?_
  obtain ⟨i, j, rfl, rfl, hi, hj, h2⟩ := h2
  refine ⟨i, j, q.int_inv, q2.int_inv, RgOk.of_le (by omega) (by omega) (by omega) (by omega), fun l hl => ((con.step g s).step g2 s2).newL s2 hl (ds := rgD i (j - i)) ?_ h2⟩
  have := das_rg (K := X.K) (A := A ++ B ++ B2) (H := H2) i j
  rwa [show ((j : Int) - (i : Int)).toNat = j - i by omega] at this
end
end DH

end

section
/-! DH: sorted ints, sorted int tuples in order; pop(i); extend; a small dict display; items compared and told. -/
namespace DH
open PySem PySem.Spec PyProof.Rows L2
section
variable {X : Cx} {ρ : Rho} {α : Sto} {R : RE} {e o b : Expr} {p p2 pos apos cpos pos' : Pos} {K : PySem.W.Frag}
theorem cd_sortI {ns : List Int} (hz : ns.length < 64) (h : ∀ ns', List.Perm ns' ns → ns'.Pairwise (· ≤ ·) → R (.lst (ns'.map D.int)) α) : CD K (rSorted K) [.lst (ns.map D.int)] α R := by
  intro A H xs s q Q c
  cases q with
  | cons q r =>
    cases r
    cases q with
    | lst n e rr =>
      rename_i a ys
      refine ⟨a, ns, rfl, ?_, hz, fun ns' p h1 h2 hn => c.newL s hn (Das.ints ns') (h ns' h1 h2)⟩
      rw [← das_ints rr]
      exact .inl (.inl e)
theorem od_eqLI {a b : List Int} (h : R (.bl (decide (a = b))) α) : OD K (rEqD K) (.lst (a.map D.int)) (.lst (b.map D.int)) α R := od_eq (py_intsL a) (py_intsL b) (sh_intsL a) (sh_intsL b) (by rw [eqv_intsL]; exact h)
theorem od_neLI {a b : List Int} (h : R (.bl (!decide (a = b))) α) : OD K (rNeD K) (.lst (a.map D.int)) (.lst (b.map D.int)) α R := od_ne (py_intsL a) (py_intsL b) (sh_intsL a) (sh_intsL b) (by rw [eqv_intsL]; exact h)
/-- one and the same value -/
theorem od_neSelf {d1 d2 : D} {q : PyData} (h1 : Py α d1 q) (h2 : Py α d2 q) (hs : SeqAt.shaped q = true) (h : R (.bl false) α) : OD K (rNeD K) d1 d2 α R :=
  od_ne h1 h2 hs hs (by rw [SeqAt.eqv_refl q (SeqAt.canLay_of_shaped hs)]; exact h)
theorem Das.erase {A : List Addr} {H : Hp} : ∀ {xs : List V} {ds : List D} (i : Nat), Das K A H xs ds → Das K A H (xs.eraseIdx i) (ds.eraseIdx i)
  | _, _, _, .nil => .nil
  | _, _, 0, .cons h t => t
  | _, _, i + 1, .cons h t => .cons h (Das.erase i t)
/-- xs.pop(i), xs a cell -/
theorem de_popAt (h : DE X o ρ α fun d α1 => ∃ c es, d = .acc c ∧ α1[c]? = some (.l es) ∧ DE X e ρ α1 fun d2 α2 => ∃ (i : Nat) (ds : List D) (y : D), d2 = .int i ∧ i < 1000000 ∧ α2[c]? = some (.l ds) ∧ ds[i]? = some y ∧ R y (α2.set c (.l (ds.eraseIdx i))))
    (hbase : attributeBase o "pop" X.env (eval o X.env) = eval o X.env := by rfl)
    (hfew : ((backTo cpos (starEach (e :: []) X.env)).all (fun x => !x.1) && (backToKw cpos (keywordEach [] X.env)).all (fun x => x.1.isSome)
      && decide ((e :: ([] : List Expr)).length + ([] : List Keyword).length + (if ([] : List Keyword).isEmpty then 0 else 1) < 30)) = true := by rfl)
    (hline : (apos.endLine == cpos.line) = true := by rfl) (hst : starEach (e :: []) X.env = (false, eval e X.env) :: starEach [] X.env := by rfl) (hplain : (backTo cpos (starEach [] X.env)).any (·.1) = false := by rfl) :
    DE X (.Call (.Attribute o "pop" apos) [e] [] cpos) ρ α R := by
  intro A σ H Q rep con
  refine wp_of (pe_bm PySem.F.plainAttrs_list PySem.F.slot_list_pop PySem.F.type_list_pop mt_popAt pe_wp (pa_cons pe_wp pa_nil hst) hbase hfew hline hst hplain) (h A σ H _ rep fun v d B α1 H1 h1 g s q => ?_)
  obtain ⟨c, es, rfl, hk, h1⟩ := h1
  cases q with
  | acc ea =>
    rename_i a0
    obtain ⟨a', xs, ea', e1, r⟩ := s.get hk
    rw [ea] at ea'; cases ea'
    refine ⟨.inl ⟨rfl, xs, .inl (.inl e1)⟩, ?_⟩
    refine h1 _ σ H1 _ (rep.mono g s) fun u d2 B2 α2 H2 h2 g2 s2 q2 => ?_
    obtain ⟨i, ds, y, rfl, hi, hk2, hy, hR⟩ := h2
    obtain ⟨a', ys, ea', e2, r2⟩ := s2.get hk2
    rw [ix_app ea] at ea'; cases ea'
    obtain ⟨z, hz, qz⟩ := r2.get hy
    have hlt := (List.getElem?_eq_some_iff.mp hz).1
    refine ⟨_, ys, i, i, z, rfl, by rw [q2.int_inv], e2, by omega, by omega, ?_, hz, ?_⟩
    · unfold seqIndex?
      simp
      omega
    · obtain ⟨s3, g3⟩ := s2.put (c := .l (ds.eraseIdx i)) (ix_app ea) ⟨_, rfl, Das.erase i r2⟩
      have s3' : So X.K (A ++ B ++ B2 ++ []) (upd H2 a0 (.lst (ys.eraseIdx i))) (α2.set c (.l (ds.eraseIdx i))) := by rw [List.append_nil]; exact s3
      have q3 := qz.mono g3
      exact ((con.step g s).step g2 s2) _ y [] _ _ hR g3 s3' q3
/-- xs.extend(ys), xs a cell, ys a list -/
theorem ds_extend {n : Nat} {P : Post} (h : DE X o ρ α fun d α1 => ∃ k, d = .acc k ∧ ∃ es, α1[k]? = some (.l es) ∧ DE X e ρ α1 fun d2 α2 => ∃ ds zs, α2[k]? = some (.l ds) ∧ d2 = .lst zs ∧ ds.length + zs.length ≤ 1000000 ∧ P.nx ρ (α2.set k (.l (ds ++ zs))))
    (hbase : attributeBase o "extend" X.env (eval o X.env) = eval o X.env := by rfl)
    (hfew : ((backTo cpos (starEach (e :: []) X.env)).all (fun x => !x.1) && (backToKw cpos (keywordEach [] X.env)).all (fun x => x.1.isSome)
      && decide ((e :: ([] : List Expr)).length + ([] : List Keyword).length + (if ([] : List Keyword).isEmpty then 0 else 1) < 30)) = true := by rfl)
    (hline : (apos.endLine == cpos.line) = true := by rfl) (hst : starEach (e :: []) X.env = (false, eval e X.env) :: starEach [] X.env := by rfl) (hplain : (backTo cpos (starEach [] X.env)).any (·.1) = false := by rfl)
    (hs : swapsWith (.Call (.Attribute o "extend" apos) [e] [] cpos) none pos.line X.env = pure false := by rfl) :
    DS X n (.Expr (.Call (.Attribute o "extend" apos) [e] [] cpos) pos) ρ α P := by
  intro A H0 E B σ H at_
  refine wps_of (ps_expr (pe_bm PySem.F.plainAttrs_list PySem.F.slot_list_extend PySem.F.type_list_extend mt_extend pe_wp (pa_cons pe_wp pa_nil hst) hbase hfew hline hst hplain) hs) (h _ σ H _ at_.rep fun v d B1 α1 H1 h1 g s q => ?_)
  obtain ⟨k, rfl, h1⟩ := h1
  cases q with
  | acc hk =>
    rename_i c
    obtain ⟨es0, he0, h1⟩ := h1
    obtain ⟨c', ys, ec, hy, _⟩ := s.get he0
    rw [hk] at ec; cases ec
    refine ⟨.inl ⟨rfl, _, .inl (.inl hy)⟩, ?_⟩
    refine h1 _ σ H1 _ (at_.rep.mono g s) fun u d2 B2 α2 H2 h2 g2 s2 q2 => ?_
    obtain ⟨ds, zs, e1, rfl, hz, h2⟩ := h2
    obtain ⟨a', xs, e2, e3, q3⟩ := s2.get e1
    rw [ix_app hk] at e2; cases e2
    cases q2 with
    | lst nb eb rb =>
      rename_i b ws
      refine ⟨_, b, xs, ws, rfl, rfl, e3, eb, by rw [q3.length, rb.length]; exact Nat.le_trans hz (by decide), ?_⟩
      have at1 := at_.step g s
      have at2 := at1.step (by rw [← List.append_assoc]; exact g2) (by rw [← List.append_assoc]; exact s2)
      have hk2 : (A ++ (B ++ B1 ++ B2))[k]? = some c := by rw [← List.append_assoc, ← List.append_assoc]; exact ix_app hk
      exact (at2.cell (cl := .l (ds ++ zs)) hk2 ⟨_, rfl, Das.app (by rw [← List.append_assoc, ← List.append_assoc]; exact q3) (by rw [← List.append_assoc, ← List.append_assoc]; exact rb)⟩).nx h2
/-- {"a": "b", ..}, three texts -/
theorem de_disp3 {k1 k2 k3 v1 v2 v3 : Str} {j1 j2 j3 i1 i2 i3} {a1 a2 a3 b1 b2 b3 : Pos} (hne : k1 ≠ k2 ∧ k1 ≠ k3 ∧ k2 ≠ k3) (h : R (.acc α.length) (α ++ [.kd [(.inr k1, .str v1), (.inr k2, .str v2), (.inr k3, .str v3)]])) :
    DE X (.Dict [some (.Constant (.str k1) j1 a1), some (.Constant (.str k2) j2 a2), some (.Constant (.str k3) j3 a3)] [.Constant (.str v1) i1 b1, .Constant (.str v2) i2 b2, .Constant (.str v3) i3 b3] pos) ρ α R := by
  intro A σ H Q rep con
  refine wp_of (pe_disp (pps_cons pe_str pe_str (pps_cons pe_str pe_str (pps_cons pe_str pe_str pps_nil))) rfl rfl (by simp) (by simp)) fun p hp => ?_
  refine ⟨upd_same, [(.inr k1, .str v1), (.inr k2, .str v2), (.inr k3, .str v3)], rfl, by simp, ?_⟩
  have em : mergeK [] [((.inr k1 : Key), V.str v1), (.inr k2, .str v2), (.inr k3, .str v3)] = [(.inr k1, .str v1), (.inr k2, .str v2), (.inr k3, .str v3)] := by
    obtain ⟨n1, n2, n3⟩ := hne
    simp [mergeK, putK, n1, n2, n3, Ne.symm n1, Ne.symm n2, Ne.symm n3]
  rw [em, upd_upd]
  obtain ⟨s', g⟩ := rep.so.cellNew (c := .kd [(.inr k1, .str v1), (.inr k2, .str v2), (.inr k3, .str v3)]) (o := .dK [(.inr k1, .str v1), (.inr k2, .str v2), (.inr k3, .str v3)]) hp ⟨_, rfl, .cons (.str _) (.cons (.str _) (.cons (.str _) .nil))⟩
  refine con _ _ [p] _ _ h g s' (.acc ?_)
  rw [← rep.so.len, List.getElem?_append_right (Nat.le_refl _)]
  simp
end
end DH

end

section
/-! DH: sorted int tuples in order; items as data. -/
namespace DH
open PySem PySem.Spec PyProof.Rows L2
/-- sorted(xs), xs a list of int tuples; told in order -/
def rSortTO (K : PySem.W.Frag) : List V → Hp → VK → Prop := fun vs H Q => ∃ (a : Addr) (xs : List V) (es : List (List Int)), vs = [V.ref a] ∧ SqL K H a xs ∧ xs.length = es.length ∧ (∀ (i : Nat) (x : V) (e : List Int), xs[i]? = some x → es[i]? = some e → Dp K H x (.tuple (intsP e))) ∧ (∀ e ∈ es, ∃ x r, e = x :: r) ∧
  ∀ (bs : List (V × List Int)) (p : Addr), bs.Perm (xs.zip es) → (bs.map (·.2)).Pairwise (· ≤ ·) → H p = none → Q (.ref p) (upd H p (.lst (bs.map (·.1))))
theorem each_tO {X : Cx} {pins : List (Addr × Obj)} {σ : L2.St} {H : Hp} {s : Shared} (I : Inv X pins σ H s) : ∀ {xs : List V} {its : List Value} {es : List (List Int)}, Vals xs its → (∀ (i : Nat) (x : V) (e : List Int), xs[i]? = some x → es[i]? = some e → Dp X.K H x (.tuple (intsP e))) → xs.length = es.length →
    PySem.W.EachIs (fun (v : Value) (b : V × List Int) => RelV b.1 v) its (xs.zip es) ∧ PySem.W.EachIs (fun (v : Value) (b : V × List Int) => ∃ as, Reads s.heap v (.tuple (intsP b.2)) as) its (xs.zip es)
  | [], _, [], .nil, _, _ => ⟨.nil, .nil⟩
  | [], _, e :: es, .nil, _, h => by cases h
  | x :: xs, _, [], .cons _ _, _, h => by cases h
  | x :: xs, _, e :: es, .cons r t, hD, h => by
    obtain ⟨e1, e2⟩ := each_tO I t (fun i x' e' h1 h2 => hD (i + 1) x' e' (by simpa using h1) (by simpa using h2)) (by simpa using h)
    exact ⟨.cons r e1, .cons (Dp.reads I _ _ _ (hD 0 x e rfl rfl) r) e2⟩
theorem each_tvals : ∀ {out : List Value} {bs : List (V × List Int)}, PySem.W.EachIs (fun (v : Value) (b : V × List Int) => RelV b.1 v) out bs → Vals (bs.map (·.1)) out
  | _, _, .nil => .nil
  | _, _, .cons r t => .cons r (each_tvals t)
theorem cr_sortTO {X : Cx} (hu : X.A.units + 64 < cLine) : CallR X (.builtin "sorted") (rSortTO X.K) := by
  intro pins s σ H vs us Q I r h
  obtain ⟨a, xs, es, rfl, hs, hlen, hD, hne, q⟩ := h
  obtain ⟨its, rv, hl, hz⟩ := I.list hs
  obtain ⟨u, rfl, ru⟩ := vals1 r
  obtain rfl : u = Value.ref a := ru
  obtain ⟨e1, e2⟩ := each_tO I rv hD hlen
  have hzl : (xs.zip es).length = xs.length := by rw [List.length_zip, hlen, Nat.min_self]
  refine PySem.W.sorted_data (enc := fun b => .tuple (intsP b.2)) hl.isList e1 e2 (.of fun b b' => ?_) (.inl fun d hd => ?_) (by rw [hzl]; exact hz) (fun b hb => ?_) fun out ho eo => ?_
  · simp only [PySem.W.alike]
    exact PySem.W.alike_ints _ _
  · obtain ⟨b, hb, rfl⟩ := List.mem_map.mp hd
    obtain ⟨x, r, e⟩ := hne b.2 (List.of_mem_zip (show (b.1, b.2) ∈ xs.zip es from hb)).2
    exact ⟨.int x, intsP r, by rw [e]; rfl⟩
  · show X.A.units + 2 + (PyData.tuple (intsP b.2)).depth < cLine
    simp only [PyData.depth, dep_ints]
    omega
  · obtain ⟨c, hc⟩ := sortedAll_at s.heap its out.toArray
    have hf : s.heap.objs.size ≤ s.heap.objs.size + 1 := Nat.le_succ _
    have hp := List.mergeSort_perm (xs.zip es) (PySem.W.dataLe false fun b => .tuple (intsP b.2))
    have hw := PySem.W.sort_pairwise (tups_total (fun b : V × List Int => b.2)) (xs.zip es)
    refine ⟨.ref (s.heap.objs.size + 1), upd H (s.heap.objs.size + 1) (.lst (((xs.zip es).mergeSort (PySem.W.dataLe false fun b => .tuple (intsP b.2))).map (·.1))), I.laid (t' := s.toks) (fun _ _ => sortedAll_old) hf ⟨?_, out, c, each_tvals eo, hc⟩, rfl, q _ _ hp ?_ (I.hok.fresh hf)⟩
    · rw [List.length_map, hp.length_eq, hzl]
      exact hz
    · rw [List.pairwise_map]
      refine hw.imp fun {a b} z => ?_
      rw [le_tups] at z
      exact of_decide_eq_true z
theorem cd_sortTO {K : PySem.W.Frag} {α : Sto} {R : RE} {T : List (List Nat)} (hne : ∀ t ∈ T, t ≠ []) (h : ∀ T', List.Perm T' T → T'.Pairwise (· ≤ ·) → R (.lst (tabsD T')) α) : CD K (rSortTO K) [.lst (tabsD T)] α R := by
  intro A H xs s q Q c
  cases q with
  | cons q r =>
    cases r
    cases q with
    | lst n e rr =>
      rename_i a ys
      have hl : ys.length = T.length := by rw [rr.length, tabsD_len]
      refine ⟨a, ys, T.map cst, rfl, .inl (.inl e), by rw [List.length_map, hl], fun i x en h1 h2 => ?_, ?_, fun bs p hp hw hn => ?_⟩
      · rw [List.getElem?_map] at h2
        cases ht : T[i]? with
        | none => rw [ht] at h2; cases h2
        | some t =>
          rw [ht] at h2; cases h2
          obtain ⟨v, hv, qv⟩ := rr.get (i := i) (d := tabD t) (by unfold tabsD; rw [List.getElem?_map, ht]; rfl)
          rw [h1] at hv; cases hv
          exact py_dp s (by rw [tabD_eq]; exact py_intsT (α := α) _) qv
      · intro e he
        obtain ⟨t, ht, rfl⟩ := List.mem_map.mp he
        cases t with
        | nil => exact absurd rfl (hne [] ht)
        | cons x r => exact ⟨_, _, rfl⟩
      · have e2 : List.Perm (bs.map (·.2)) (T.map cst) := by
          have := hp.map (·.2)
          rwa [List.map_snd_zip (by rw [List.length_map]; omega)] at this
        have das : ∀ bs' : List (V × List Int), (∀ b ∈ bs', b ∈ ys.zip (T.map cst)) → ∃ T', bs'.map (·.2) = T'.map cst ∧ Das K A H (bs'.map (·.1)) (tabsD T') := by
          intro bs'
          induction bs' with
          | nil => intro _; exact ⟨[], rfl, .nil⟩
          | cons b bs' ih =>
            intro hb
            obtain ⟨T', e', q'⟩ := ih fun x hx => hb x (by simp [hx])
            obtain ⟨j, hj⟩ := List.mem_iff_getElem?.mp (hb b (by simp))
            obtain ⟨j1, j2⟩ := List.getElem?_zip_eq_some.mp hj
            rw [List.getElem?_map] at j2
            cases ht : T[j]? with
            | none => rw [ht] at j2; cases j2
            | some t =>
              rw [ht] at j2
              obtain ⟨v, hv, qv⟩ := rr.get (i := j) (d := tabD t) (by unfold tabsD; rw [List.getElem?_map, ht]; rfl)
              rw [j1] at hv; cases hv
              refine ⟨t :: T', ?_, .cons qv q'⟩
              rw [List.map_cons, List.map_cons, e']
              injection j2 with j2
              rw [j2]
        obtain ⟨T', e3, q3⟩ := das bs fun b hb => hp.mem_iff.mp hb
        refine c.newL s hn q3 (h T' ?_ ?_)
        · rw [e3] at e2
          have := e2.map (fun t : List Int => t.map Int.toNat)
          simpa [List.map_map, Function.comp_def, cst] using this
        · rw [e3, List.pairwise_map] at hw
          refine hw.imp fun {a b} z => ?_
          refine List.not_lt.mp fun z2 => ?_
          exact List.not_lt.mpr z (cst_lt.mpr z2)
/-- kinds of bad fours -/
def IsKind (s : Str) : Prop := s = "middle" ∨ s = "left" ∨ s = "right"
def itsP (es : List (List Int × Str)) : PyData := .tuple (es.map itP)
theorem py_its (α : Sto) (es : List (List Int × Str)) : Py α (.tup (es.map itD)) (itsP es) := .tup (by
  induction es with
  | nil => exact .nil
  | cons e r ih => exact .cons (py_it α e) ih)
theorem lay_it {e : List Int × Str} (h : IsKind e.2) : (itP e).canLay0 = true := by
  unfold itP
  simp only [PyData.canLay0, PyData.canLayAll0, lay_ints, Bool.and_true, Bool.true_and]
  rcases h with h | h | h <;> rw [h] <;> decide +kernel
theorem sh_its {es : List (List Int × Str)} (h : ∀ e ∈ es, IsKind e.2) : SeqAt.shaped (itsP es) = true := by
  unfold SeqAt.shaped itsP
  have h1 : PyData.canLayAll0 (es.map itP) = true := by
    induction es with
    | nil => rfl
    | cons e r ih =>
      simp only [List.map_cons, PyData.canLayAll0, lay_it (h e (by simp)), ih fun x hx => h x (by simp [hx]), Bool.and_self]
  have h2 : PyData.depthAll (es.map itP) ≤ 2 := by
    clear h h1
    induction es with
    | nil => simp [PyData.depthAll]
    | cons e r ih =>
      have := it_dep e
      simp only [List.map_cons, PyData.depthAll]
      omega
  simp only [PyData.canLay0, PyData.depth, h1, Bool.true_and]
  apply decide_eq_true
  omega
theorem rok_its {es : List (List Int × Str)} (h : ∀ e ∈ es, ∀ i ∈ e.1, i.natAbs < 10 ^ 18) : rok (itsP es) = true := by
  show roks (es.map itP) = true
  induction es with
  | nil => rfl
  | cons e r ih =>
    show (rok (itP e) && roks (r.map itP)) = true
    rw [ih fun x hx => h x (by simp [hx]), Bool.and_true]
    show (roks (intsP e.1) && (rok (.str e.2) && true)) = true
    rw [roks_ints (h e (by simp))]
    rfl
theorem rw_its {es : List (List Int × Str)} {k : Nat} (h : ∀ e ∈ es, e.1.length ≤ k ∧ IsKind e.2) : DH.rw (itsP es) ≤ 3 + es.length * (22 * k + 30) := by
  show 3 + rws (es.map itP) ≤ _
  have : rws (es.map itP) ≤ es.length * (22 * k + 30) := by
    induction es with
    | nil => simp [rws]
    | cons e r ih =>
      have i1 := ih fun x hx => h x (by simp [hx])
      obtain ⟨i2, i3⟩ := h e (by simp)
      show DH.rw (itP e) + 2 + rws (r.map itP) ≤ _
      have i4 : DH.rw (itP e) ≤ 3 + (3 + 22 * e.1.length + 2 + (10 + 2)) := by
        show 3 + (3 + rws (intsP e.1) + 2 + (DH.rw (.str e.2) + 2 + 0)) ≤ _
        rw [rws_ints]
        have : DH.rw (.str e.2) ≤ 10 := by
          rcases i3 with z | z | z <;> rw [z] <;> decide +kernel
        omega
      rw [List.length_cons, Nat.succ_mul]
      omega
  omega
section
variable {K : PySem.W.Frag} {α : Sto} {R : RE} {d : D}
/-- repr of items -/
theorem cd_reprIts {es : List (List Int × Str)} (hd : Py α d (itsP es)) (h : ∀ e ∈ es, ∀ i ∈ e.1, i.natAbs < 10 ^ 18) (hl : ∀ e ∈ es, e.1.length ≤ 4 ∧ IsKind e.2) (hz : es.length ≤ 5000) (hR : R (.str (itsP es).shown) α) : CD K (rRepr K) [d] α R := by
  refine cd_repr hd (rok_its h) ?_ ?_ hR
  · have := rw_its hl
    have : es.length * (22 * 4 + 30) ≤ 5000 * (22 * 4 + 30) := Nat.mul_le_mul_right _ hz
    omega
  · have h2 : PyData.depthAll (es.map itP) ≤ 2 := by
      clear h hl hz hd hR
      induction es with
      | nil => simp [PyData.depthAll]
      | cons e r ih =>
        have := it_dep e
        simp only [List.map_cons, PyData.depthAll]
        omega
    unfold itsP
    simp only [PyData.depth]
    omega
end
end DH

end

section
/-! Plain law: a merger's mirror, its image under names. -/
namespace DH
open PySem PySem.Spec PyProof.Rows L2 FM
/-- rows by a function -/
def tabR (n : Nat) (g : Nat → Nat → Option Int) : Rows := (List.range n).map fun a => (List.range n).map fun b => g a b
theorem tabR_look {n : Nat} {g : Nat → Nat → Option Int} {a b : Nat} (ha : a < n) (hb : b < n) : look (tabR n g) a b = g a b := by
  unfold look tabR
  simp [ha, hb]
theorem tabR_wf {n : Nat} {g : Nat → Nat → Option Int} (h : ∀ a b, a < n → b < n → ∀ i, g a b = some i → -1 ≤ i ∧ i < (n : Nat)) : Wf n (tabR n g) := by
  refine ⟨by simp [tabR], fun r hr => ?_, fun r hr x hx i hi => ?_⟩
  · obtain ⟨a, _, rfl⟩ := List.mem_map.mp hr
    simp
  · obtain ⟨a, ha, rfl⟩ := List.mem_map.mp hr
    obtain ⟨b, hb, rfl⟩ := List.mem_map.mp hx
    exact h a b (by simpa using ha) (by simpa using hb) i hi
theorem meetL_gone {m : Rows} {c : Nat} : meetL m (-1) c = some (c : Int) := if_pos rfl
theorem meetL_nn {m : Rows} {x c : Nat} : meetL m (x : Int) c = look m x c := by unfold meetL; rw [if_neg (by omega), Int.toNat_natCast]
theorem meetR_gone {m : Rows} {a : Nat} : meetR m a (-1) = some (a : Int) := if_pos rfl
theorem meetR_nn {m : Rows} {a y : Nat} : meetR m a (y : Int) = look m a y := by unfold meetR; rw [if_neg (by omega), Int.toNat_natCast]
theorem handB_iff {m : Rows} {a b c : Nat} : handB m a b c = true ↔ ∃ x y : Nat, look m a b = some (x : Int) ∧ look m b c = some (y : Int) ∧ look m x c = none :=
  ⟨handB_two, fun ⟨_, _, h1, h2, h3⟩ => handB_of h1 h2 h3⟩
theorem handB_lt {m : Rows} {n a b c : Nat} (hw : Wf n m) (ha : a < n) (hb : b < n) (hc : c < n) (h : handB m a b c = true) : mk m a b < n ∧ mk m b c < n := by
  obtain ⟨x, y, e1, e2, _⟩ := handB_two h
  have h1 := (hw.look ha hb e1).2
  have h2 := (hw.look hb hc e2).2
  unfold mk
  rw [e1, e2]
  simp
  omega
/-! ### the mirror -/
def mirR (m : Rows) (n : Nat) : Rows := tabR n fun a b => look m b a
theorem look_mir {m : Rows} {n a b : Nat} (ha : a < n) (hb : b < n) : look (mirR m n) a b = look m b a := tabR_look ha hb
theorem wf_mir {m : Rows} {n : Nat} (hw : Wf n m) : Wf n (mirR m n) := tabR_wf fun a b ha hb i hi => hw.look hb ha hi
theorem nat_end {x : Int} (h : -1 ≤ x) : x = -1 ∨ ∃ k : Nat, x = k := by
  by_cases e : x = -1
  · exact .inl e
  · exact .inr ⟨x.toNat, by omega⟩
theorem snd_mir {m : Rows} {n : Nat} (hw : Wf n m) (hs : Sound n m) : Sound n (mirR m n) := by
  intro a b c ha hb hc x y h1 h2
  rw [look_mir ha hb] at h1
  rw [look_mir hb hc] at h2
  have := hs c b a hc hb ha y x h2 h1
  obtain ⟨x1, x2⟩ := hw.look hb ha h1
  obtain ⟨y1, y2⟩ := hw.look hc hb h2
  rcases nat_end x1 with rfl | ⟨x, rfl⟩ <;> rcases nat_end y1 with rfl | ⟨y, rfl⟩
  · rw [meetL_gone, meetR_gone] at this ⊢; exact this.symm
  · rw [meetL_gone, meetR_nn, look_mir ha (by omega)]
    rw [meetL_nn, meetR_gone] at this
    exact this.symm
  · rw [meetL_nn, meetR_gone, look_mir (by omega) hc]
    rw [meetL_gone, meetR_nn] at this
    exact this.symm
  · rw [meetL_nn, meetR_nn, look_mir (by omega) hc, look_mir ha (by omega)]
    rw [meetL_nn, meetR_nn] at this
    exact this.symm
theorem mk_mir {m : Rows} {n a b : Nat} (ha : a < n) (hb : b < n) : mk (mirR m n) a b = mk m b a := by unfold mk; rw [look_mir ha hb]
theorem hand_mir {m : Rows} {n a b c : Nat} (hw : Wf n m) (hs : Sound n m) (ha : a < n) (hb : b < n) (hc : c < n) : handB (mirR m n) a b c = handB m c b a := by
  rw [Bool.eq_iff_iff, handB_iff, handB_iff]
  rw [look_mir ha hb, look_mir hb hc]
  constructor
  · rintro ⟨x, y, h1, h2, h3⟩
    have hx := (hw.look hb ha h1).2
    refine ⟨y, x, h2, h1, ?_⟩
    rw [look_mir (by omega) hc] at h3
    have := hs c b a hc hb ha _ _ h2 h1
    rw [meetL_nn, meetR_nn] at this
    rw [this, h3]
  · rintro ⟨y, x, h2, h1, h3⟩
    have hx := (hw.look hb ha h1).2
    refine ⟨x, y, h1, h2, ?_⟩
    rw [look_mir (by omega) hc]
    have := hs c b a hc hb ha _ _ h2 h1
    rw [meetL_nn, meetR_nn] at this
    rw [← this, h3]
/-- left for right -/
def turnK (s : Str) : Str := if s = "left" then "right" else if s = "right" then "left" else s
theorem tk_l : turnK "left" = "right" := by decide +kernel
theorem tk_r : turnK "right" = "left" := by decide +kernel
theorem tk_m : turnK "middle" = "middle" := by decide +kernel
theorem hand_none {m : Rows} {a b c : Nat} (h : handB m a b c = true) : (look m a b).isNone = false ∧ (look m b c).isNone = false := by
  obtain ⟨x, y, h1, h2, _⟩ := handB_two h
  rw [h1, h2]
  exact ⟨rfl, rfl⟩
theorem kind_mir {m : Rows} {n a b c d : Nat} (hw : Wf n m) (hs : Sound n m) (ha : a < n) (hb : b < n) (hc : c < n) (hd : d < n) : kindOf (mirR m n) a b c d = (kindOf m d c b a).map turnK := by
  unfold kindOf
  rw [hand_mir hw hs ha hb hc, hand_mir hw hs hb hc hd, look_mir ha hb, look_mir hc hd, mk_mir hb hc]
  cases h1 : handB m c b a with
  | false =>
    cases h2 : handB m d c b with
    | false => simp
    | true =>
      obtain ⟨l1, l2⟩ := handB_lt hw hd hc hb h2
      rw [look_mir ha l2]
      cases h3 : (look m b a).isNone <;> cases h4 : (look m (mk m c b) a).isNone <;> simp [tk_l, tk_r]
  | true =>
    cases h2 : handB m d c b with
    | false =>
      obtain ⟨l1, l2⟩ := handB_lt hw hc hb ha h1
      rw [look_mir l1 hd]
      cases h3 : (look m d c).isNone <;> cases h4 : (look m d (mk m c b)).isNone <;> simp [tk_l, tk_r]
    | true => simp [tk_m]
theorem qsl4 {n : Nat} {q : List Nat} (h : q ∈ qsL n 4) : ∃ a b c d, q = [a, b, c, d] ∧ a < n ∧ b < n ∧ c < n ∧ d < n := by
  obtain ⟨h4, hl⟩ := mem_qsL.mp h
  match q, h4, hl with
  | [a, b, c, d], _, hl => exact ⟨a, b, c, d, rfl, hl a (by simp), hl b (by simp), hl c (by simp), hl d (by simp)⟩
theorem kinds_three {m : Rows} {a b c d : Nat} {s : Str} (h : kindOf m a b c d = some s) : IsKind s := by
  unfold kindOf at h
  split at h
  · cases h; exact .inl rfl
  · split at h
    · cases h; exact .inr (.inl rfl)
    · split at h
      · cases h; exact .inr (.inr rfl)
      · cases h
theorem turn_turn {s : Str} (h : IsKind s) : turnK (turnK s) = s := by
  rcases h with rfl | rfl | rfl <;> decide +kernel
theorem turn_kind {s : Str} (h : IsKind s) : IsKind (turnK s) := by
  rcases h with rfl | rfl | rfl
  · exact .inl (by decide +kernel)
  · exact .inr (.inr (by decide +kernel))
  · exact .inr (.inl (by decide +kernel))
theorem four_kind {m : Rows} {n : Nat} {e : List Nat × Str} (h : e ∈ foursL m n) : IsKind e.2 := by
  obtain ⟨a, b, c, d, _, _, _, _, _, hk⟩ := mem_fours.mp h
  exact kinds_three hk
theorem mem_mir {m : Rows} {n : Nat} (hw : Wf n m) (hs : Sound n m) {e : List Nat × Str} : e ∈ foursL (mirR m n) n ↔ ∃ e' ∈ foursL m n, e = (e'.1.reverse, turnK e'.2) := by
  obtain ⟨q, s⟩ := e
  constructor
  · intro h
    obtain ⟨a, b, c, d, h1, ha, hb, hc, hd, hk⟩ := mem_fours.mp h
    simp only at h1 hk
    subst h1
    rw [kind_mir hw hs ha hb hc hd] at hk
    obtain ⟨s', hs', rfl⟩ := Option.map_eq_some_iff.mp hk
    exact ⟨([d, c, b, a], s'), mem_fours.mpr ⟨d, c, b, a, rfl, hd, hc, hb, ha, hs'⟩, rfl⟩
  · rintro ⟨e', h, e⟩
    obtain ⟨a, b, c, d, h1, ha, hb, hc, hd, hk⟩ := mem_fours.mp h
    obtain ⟨q', s'⟩ := e'
    simp only at h1 hk
    subst h1
    injection e with e1 e2
    subst e1 e2
    exact mem_fours.mpr ⟨d, c, b, a, rfl, hd, hc, hb, ha, by rw [kind_mir hw hs hd hc hb ha, hk]; rfl⟩
/-! ### what is carried along -/
def renO (φ : Nat → Nat) : Option Int → Option Int
  | none => none
  | some i => if i = -1 then some (-1) else some ((φ i.toNat : Nat) : Int)
theorem renO_nn {φ : Nat → Nat} {x : Nat} : renO φ (some (x : Int)) = some ((φ x : Nat) : Int) := by show (if (x : Int) = -1 then some (-1) else some ((φ (x : Int).toNat : Nat) : Int)) = _; rw [if_neg (by omega), Int.toNat_natCast]
theorem renO_gone {φ : Nat → Nat} : renO φ (some (-1)) = some (-1) := by show (if (-1 : Int) = -1 then some (-1) else some ((φ (-1 : Int).toNat : Nat) : Int)) = _; rw [if_pos rfl]
theorem renO_none {φ : Nat → Nat} {x : Option Int} : renO φ x = none ↔ x = none := by
  cases x with
  | none => exact ⟨fun _ => rfl, fun _ => rfl⟩
  | some i =>
    show (if i = -1 then some (-1) else some ((φ i.toNat : Nat) : Int)) = none ↔ _
    constructor
    · intro h; by_cases e : i = -1
      · rw [if_pos e] at h; cases h
      · rw [if_neg e] at h; cases h
    · intro h; cases h
theorem renO_isNone {φ : Nat → Nat} {x : Option Int} : (renO φ x).isNone = x.isNone := by
  rw [Bool.eq_iff_iff, Option.isNone_iff_eq_none, Option.isNone_iff_eq_none]; exact renO_none
theorem renO_some {φ : Nat → Nat} {x : Option Int} {k : Nat} (h : renO φ x = some (k : Int)) (hx : ∀ i, x = some i → -1 ≤ i) : ∃ j : Nat, x = some (j : Int) ∧ k = φ j := by
  cases x with
  | none => cases h
  | some i =>
    rcases nat_end (hx i rfl) with rfl | ⟨j, rfl⟩
    · rw [renO_gone] at h; injection h with h; omega
    · rw [renO_nn] at h; injection h with h; exact ⟨j, rfl, by omega⟩
structure Emb (n : Nat) (m m' : Rows) (φ : Nat → Nat) : Prop where
  wf : Wf n m
  look : ∀ a b, a < n → b < n → DH.look m' (φ a) (φ b) = renO φ (DH.look m a b)
section
variable {n : Nat} {m m' : Rows} {φ : Nat → Nat}
theorem Emb.hand (E : Emb n m m' φ) {a b c : Nat} (ha : a < n) (hb : b < n) (hc : c < n) : handB m' (φ a) (φ b) (φ c) = handB m a b c := by
  rw [Bool.eq_iff_iff, handB_iff, handB_iff, E.look a b ha hb, E.look b c hb hc]
  constructor
  · rintro ⟨x, y, h1, h2, h3⟩
    obtain ⟨x, e1, rfl⟩ := renO_some h1 fun i hi => (E.wf.look ha hb hi).1
    obtain ⟨y, e2, rfl⟩ := renO_some h2 fun i hi => (E.wf.look hb hc hi).1
    have hx := (E.wf.look ha hb e1).2
    rw [E.look x c (by omega) hc, renO_none] at h3
    exact ⟨x, y, e1, e2, h3⟩
  · rintro ⟨x, y, e1, e2, h3⟩
    have hx := (E.wf.look ha hb e1).2
    refine ⟨φ x, φ y, by rw [e1, renO_nn], by rw [e2, renO_nn], ?_⟩
    rw [E.look x c (by omega) hc, renO_none]
    exact h3
theorem Emb.made (E : Emb n m m' φ) {a b x : Nat} (ha : a < n) (hb : b < n) (h : DH.look m a b = some (x : Int)) : DH.mk m' (φ a) (φ b) = φ x ∧ DH.mk m a b = x := by
  unfold DH.mk
  rw [E.look a b ha hb, h, renO_nn]
  simp
theorem Emb.kind (E : Emb n m m' φ) {a b c d : Nat} (ha : a < n) (hb : b < n) (hc : c < n) (hd : d < n) : kindOf m' (φ a) (φ b) (φ c) (φ d) = kindOf m a b c d := by
  unfold kindOf
  rw [E.hand ha hb hc, E.hand hb hc hd, E.look a b ha hb, E.look c d hc hd, renO_isNone, renO_isNone]
  have key : ∀ x : Nat, x < n → (DH.look m' (φ a) (φ x)).isNone = (DH.look m a x).isNone ∧ (DH.look m' (φ x) (φ d)).isNone = (DH.look m x d).isNone := fun x hx => by
    rw [E.look a x ha hx, E.look x d hx hd, renO_isNone, renO_isNone]
    exact ⟨rfl, rfl⟩
  cases h1 : handB m a b c with
  | false =>
    cases h2 : handB m b c d with
    | false => simp
    | true =>
      obtain ⟨x, y, e1, e2, _⟩ := handB_two h2
      obtain ⟨g1, g2⟩ := E.made hb hc e1
      have hx := (E.wf.look hb hc e1).2
      rw [g1, g2, (key x (by omega)).1, (key x (by omega)).2]
  | true =>
    obtain ⟨x, y, e1, e2, _⟩ := handB_two h1
    obtain ⟨g1, g2⟩ := E.made hb hc e2
    have hx := (E.wf.look hb hc e2).2
    rw [g1, g2, (key y (by omega)).1, (key y (by omega)).2]
theorem Emb.unl (E : Emb n m m' φ) (inj : ∀ a b, a < n → b < n → φ a = φ b → a = b) {a b : Nat} (ha : a < n) (hb : b < n) {c : Nat} (hc : c < n) : DH.look m' (φ a) (φ b) = some (φ c : Int) ↔ DH.look m a b = some (c : Int) := by
  rw [E.look a b ha hb]
  constructor
  · intro h
    obtain ⟨j, e, hj⟩ := renO_some h fun i hi => (E.wf.look ha hb hi).1
    have := (E.wf.look ha hb e).2
    rw [e, inj c j hc (by omega) hj]
  · intro h; rw [h, renO_nn]
end
end DH

end

section
/-! Plain law: a merger under other names; two mergers beside one another. -/
namespace DH
open PySem PySem.Spec PyProof.Rows L2 FM
theorem rows_ext {n : Nat} {m m' : Rows} (h : Wf n m) (h' : Wf n m') (e : ∀ a b, a < n → b < n → look m a b = look m' a b) : m = m' := by
  apply List.ext_getElem?
  intro a
  by_cases ha : a < n
  · obtain ⟨r, h1, h2, h3⟩ := h.get ha
    obtain ⟨r', h1', h2', h3'⟩ := h'.get ha
    rw [h1, h1']
    congr 1
    apply List.ext_getElem?
    intro b
    by_cases hb : b < n
    · rw [h3 b hb, h3' b hb, e a b ha hb]
    · rw [List.getElem?_eq_none (by omega), List.getElem?_eq_none (by omega)]
  · rw [List.getElem?_eq_none (by rw [h.len]; omega), List.getElem?_eq_none (by rw [h'.len]; omega)]
theorem look_set {n : Nat} {m : Rows} (hw : Wf n m) {i j : Nat} {r : List (Option Int)} {v : Option Int} (hr : m[i]? = some r) (hj : j < n) {a b : Nat} : look (m.set i (r.set j v)) a b = if a = i ∧ b = j then v else look m a b := by
  have hi := (List.getElem?_eq_some_iff.mp hr).1
  have hrl := hw.row r (List.mem_of_getElem? hr)
  unfold look
  by_cases e1 : a = i
  · subst e1
    rw [List.getElem?_set_self hi, Option.getD_some]
    by_cases e2 : b = j
    · subst e2
      rw [List.getElem?_set_self (by omega), if_pos ⟨rfl, rfl⟩]
      rfl
    · rw [List.getElem?_set_ne (Ne.symm e2), if_neg (fun z => e2 z.2), hr]
      rfl
  · rw [List.getElem?_set_ne (Ne.symm e1), if_neg (fun z => e1 z.1)]
/-- names: the commands in some order -/
structure Nm (n : Nat) (names : List Nat) : Prop where
  perm : names.Perm (List.range n)
def sg (names : List Nat) (x : Nat) : Nat := names.getD x 0
section
variable {n : Nat} {names : List Nat}
theorem Nm.len (N : Nm n names) : names.length = n := by rw [N.perm.length_eq]; simp
theorem Nm.nd (N : Nm n names) : names.Nodup := N.perm.nodup_iff.mpr List.nodup_range
theorem Nm.mem (N : Nm n names) {i : Nat} : i ∈ names ↔ i < n := by rw [N.perm.mem_iff, List.mem_range]
theorem Nm.at (N : Nm n names) {x : Nat} (hx : x < n) : names[x]? = some (sg names x) := by
  have : x < names.length := by rw [N.len]; exact hx
  unfold sg
  rw [List.getD_eq_getElem?_getD, List.getElem?_eq_getElem this]
  rfl
theorem Nm.lt (N : Nm n names) {x : Nat} (hx : x < n) : sg names x < n := N.mem.mp (List.mem_of_getElem? (N.at hx))
theorem Nm.inj (N : Nm n names) : ∀ a b, a < n → b < n → sg names a = sg names b → a = b := fun a b ha hb h => by
  have h1 := N.at ha
  have h2 := N.at hb
  rw [← h] at h2
  exact (List.getElem?_inj (by rw [N.len]; exact ha) N.nd).mp (h1.trans h2.symm)
def inv (names : List Nat) (i : Nat) : Nat := names.idxOf i
theorem Nm.inv_lt (N : Nm n names) {i : Nat} (hi : i < n) : inv names i < n := by
  have := List.idxOf_lt_length_of_mem (N.mem.mpr hi)
  rwa [N.len] at this
theorem Nm.sg_inv (N : Nm n names) {i : Nat} (hi : i < n) : sg names (inv names i) = i := by
  have h := List.idxOf_lt_length_of_mem (N.mem.mpr hi)
  unfold sg inv
  rw [List.getD_eq_getElem?_getD, List.getElem?_eq_getElem h, List.getElem_idxOf h]
  rfl
theorem Nm.inv_sg (N : Nm n names) {x : Nat} (hx : x < n) : inv names (sg names x) = x :=
  N.inj _ _ (N.inv_lt (N.lt hx)) hx (N.sg_inv (N.lt hx))
end
def namR (m : Rows) (n : Nat) (names : List Nat) : Rows := tabR n fun i j => renO (sg names) (look m (inv names i) (inv names j))
section
variable {n : Nat} {m m' : Rows} {φ : Nat → Nat} {names : List Nat}
theorem renO_bd {x : Option Int} {n' : Nat} (hx : ∀ i, x = some i → -1 ≤ i ∧ i < (n : Nat)) (hφ : ∀ a, a < n → φ a < n') {i : Int} (h : renO φ x = some i) : -1 ≤ i ∧ i < (n' : Nat) ∨ i = -1 := by
  cases x with
  | none => cases h
  | some j =>
    obtain ⟨h1, h2⟩ := hx j rfl
    rcases nat_end h1 with rfl | ⟨k, rfl⟩
    · rw [renO_gone] at h; injection h with h; exact .inr h.symm
    · rw [renO_nn] at h
      injection h with h
      have := hφ k (by omega)
      exact .inl ⟨by omega, by omega⟩
theorem emb_nam (hw : Wf n m) (N : Nm n names) : Emb n m (namR m n names) (sg names) where
  wf := hw
  look := fun a b ha hb => by
    show look (tabR n _) _ _ = _
    rw [tabR_look (N.lt ha) (N.lt hb), N.inv_sg ha, N.inv_sg hb]
theorem wf_nam (hw : Wf n m) (N : Nm n names) : Wf n (namR m n names) := tabR_wf fun a b ha hb i hi => by
  rcases renO_bd (fun i h => hw.look (N.inv_lt ha) (N.inv_lt hb) h) (fun a ha => N.lt ha) hi with h | h
  · exact h
  · exact ⟨by omega, by omega⟩
theorem renO_case {x : Option Int} (hx : ∀ i, x = some i → -1 ≤ i) {i : Int} (h : renO φ x = some i) : (x = some (-1) ∧ i = -1) ∨ ∃ k : Nat, x = some (k : Int) ∧ i = (φ k : Nat) := by
  cases x with
  | none => cases h
  | some j =>
    rcases nat_end (hx j rfl) with rfl | ⟨k, rfl⟩
    · rw [renO_gone] at h; injection h with h; exact .inl ⟨rfl, h.symm⟩
    · rw [renO_nn] at h; injection h with h; exact .inr ⟨k, rfl, h.symm⟩
theorem Emb.meet (E : Emb n m m' φ) (hs : Sound n m) {a b c : Nat} (ha : a < n) (hb : b < n) (hc : c < n) {x y : Int} (h1 : DH.look m' (φ a) (φ b) = some x) (h2 : DH.look m' (φ b) (φ c) = some y) : meetL m' x (φ c) = meetR m' (φ a) y := by
  rw [E.look a b ha hb] at h1
  rw [E.look b c hb hc] at h2
  have L : ∀ {x' : Int} {x : Int}, DH.look m a b = some x' → (x' = -1 ∧ x = -1 ∨ ∃ k : Nat, x' = k ∧ x = (φ k : Nat)) → meetL m' x (φ c) = renO φ (meetL m x' c) := by
    rintro x' x hx (⟨rfl, rfl⟩ | ⟨k, rfl, rfl⟩)
    · rw [meetL_gone, meetL_gone, renO_nn]
    · rw [meetL_nn, meetL_nn, E.look k c (by have := (E.wf.look ha hb hx).2; omega) hc]
  have R : ∀ {y' : Int} {y : Int}, DH.look m b c = some y' → (y' = -1 ∧ y = -1 ∨ ∃ k : Nat, y' = k ∧ y = (φ k : Nat)) → meetR m' (φ a) y = renO φ (meetR m a y') := by
    rintro x' x hx (⟨rfl, rfl⟩ | ⟨k, rfl, rfl⟩)
    · rw [meetR_gone, meetR_gone, renO_nn]
    · rw [meetR_nn, meetR_nn, E.look a k ha (by have := (E.wf.look hb hc hx).2; omega)]
  have c1 : ∃ x', DH.look m a b = some x' ∧ (x' = -1 ∧ x = -1 ∨ ∃ k : Nat, x' = k ∧ x = (φ k : Nat)) := by
    rcases renO_case (fun i hi => (E.wf.look ha hb hi).1) h1 with ⟨z, e⟩ | ⟨k, z, e⟩
    · exact ⟨_, z, .inl ⟨rfl, e⟩⟩
    · exact ⟨_, z, .inr ⟨k, rfl, e⟩⟩
  have c2 : ∃ y', DH.look m b c = some y' ∧ (y' = -1 ∧ y = -1 ∨ ∃ k : Nat, y' = k ∧ y = (φ k : Nat)) := by
    rcases renO_case (fun i hi => (E.wf.look hb hc hi).1) h2 with ⟨z, e⟩ | ⟨k, z, e⟩
    · exact ⟨_, z, .inl ⟨rfl, e⟩⟩
    · exact ⟨_, z, .inr ⟨k, rfl, e⟩⟩
  obtain ⟨x', hx', d1⟩ := c1
  obtain ⟨y', hy', d2⟩ := c2
  rw [L hx' d1, R hy' d2, hs a b c ha hb hc x' y' hx' hy']
theorem snd_nam (hw : Wf n m) (hs : Sound n m) (N : Nm n names) : Sound n (namR m n names) := fun a b c ha hb hc x y h1 h2 => by
  have := (emb_nam hw N).meet hs (N.inv_lt ha) (N.inv_lt hb) (N.inv_lt hc) (x := x) (y := y)
  rw [N.sg_inv ha, N.sg_inv hb, N.sg_inv hc] at this
  exact this h1 h2
theorem mem_nam (hw : Wf n m) (N : Nm n names) {e : List Nat × Str} : e ∈ foursL (namR m n names) n ↔ ∃ e' ∈ foursL m n, e = (e'.1.map (sg names), e'.2) := by
  have E := emb_nam hw N
  obtain ⟨q, s⟩ := e
  constructor
  · intro h
    obtain ⟨a, b, c, d, h1, ha, hb, hc, hd, hk⟩ := mem_fours.mp h
    simp only at h1 hk
    subst h1
    have := E.kind (N.inv_lt ha) (N.inv_lt hb) (N.inv_lt hc) (N.inv_lt hd)
    rw [N.sg_inv ha, N.sg_inv hb, N.sg_inv hc, N.sg_inv hd, hk] at this
    exact ⟨([inv names a, inv names b, inv names c, inv names d], s), mem_fours.mpr ⟨_, _, _, _, rfl, N.inv_lt ha, N.inv_lt hb, N.inv_lt hc, N.inv_lt hd, this.symm⟩, by simp [N.sg_inv ha, N.sg_inv hb, N.sg_inv hc, N.sg_inv hd]⟩
  · rintro ⟨e', h, e⟩
    obtain ⟨a, b, c, d, h1, ha, hb, hc, hd, hk⟩ := mem_fours.mp h
    obtain ⟨q', s'⟩ := e'
    simp only at h1 hk
    subst h1
    injection e with e1 e2
    subst e1 e2
    exact mem_fours.mpr ⟨_, _, _, _, rfl, N.lt ha, N.lt hb, N.lt hc, N.lt hd, by rw [E.kind ha hb hc hd, hk]⟩
end
/-! ### beside -/
def besR (m1 : Rows) (n1 : Nat) (m2 : Rows) (n2 : Nat) : Rows := m1.map (fun r => r ++ List.replicate n2 none) ++ m2.map (fun r => List.replicate n1 none ++ r.map (renO (n1 + ·)))
section
variable {n1 n2 : Nat} {m1 m2 : Rows}
theorem bes_11 (h1 : Wf n1 m1) (h2 : Wf n2 m2) {a b : Nat} (ha : a < n1) (hb : b < n1) : look (besR m1 n1 m2 n2) a b = look m1 a b := by
  obtain ⟨r, g1, g2, g3⟩ := h1.get ha
  unfold besR look
  rw [List.getElem?_append_left (by rw [List.length_map, h1.len]; exact ha), List.getElem?_map, g1]
  simp only [Option.map_some, Option.getD_some]
  rw [List.getElem?_append_left (by omega)]
theorem bes_12 (h1 : Wf n1 m1) (h2 : Wf n2 m2) {a b : Nat} (ha : a < n1) (hb : ¬ b < n1) : look (besR m1 n1 m2 n2) a b = none := by
  obtain ⟨r, g1, g2, g3⟩ := h1.get ha
  unfold besR look
  rw [List.getElem?_append_left (by rw [List.length_map, h1.len]; exact ha), List.getElem?_map, g1]
  simp only [Option.map_some, Option.getD_some]
  rw [List.getElem?_append_right (by omega), List.getElem?_replicate]
  split <;> rfl
theorem bes_21 (h1 : Wf n1 m1) (h2 : Wf n2 m2) {a b : Nat} (ha : ¬ a < n1) (hb : b < n1) : look (besR m1 n1 m2 n2) a b = none := by
  unfold besR look
  rw [List.getElem?_append_right (by rw [List.length_map, h1.len]; omega), List.getElem?_map]
  cases (m2[a - (List.map (fun r => r ++ List.replicate n2 none) m1).length]?) with
  | none => rfl
  | some r =>
    simp only [Option.map_some, Option.getD_some]
    rw [List.getElem?_append_left (by simpa using hb), List.getElem?_replicate]
    split <;> rfl
theorem bes_22 (h1 : Wf n1 m1) (h2 : Wf n2 m2) {a b : Nat} (ha : a < n2) (hb : b < n2) : look (besR m1 n1 m2 n2) (n1 + a) (n1 + b) = renO (n1 + ·) (look m2 a b) := by
  obtain ⟨r, g1, g2, g3⟩ := h2.get ha
  unfold besR
  show ((((_ : Rows) ++ _)[n1 + a]?.getD [])[n1 + b]?).getD none = _
  rw [List.getElem?_append_right (by rw [List.length_map, h1.len]; omega), List.length_map, h1.len, Nat.add_sub_cancel_left, List.getElem?_map, g1]
  simp only [Option.map_some, Option.getD_some]
  rw [List.getElem?_append_right (by simp), List.length_replicate, Nat.add_sub_cancel_left, List.getElem?_map, g3 b hb]
  rfl
theorem wf_bes (h1 : Wf n1 m1) (h2 : Wf n2 m2) : Wf (n1 + n2) (besR m1 n1 m2 n2) := by
  refine ⟨by simp [besR, h1.len, h2.len], fun r hr => ?_, fun r hr x hx i hi => ?_⟩
  · rcases List.mem_append.mp hr with hr | hr
    · obtain ⟨r', hr', rfl⟩ := List.mem_map.mp hr
      simp [h1.row r' hr']
    · obtain ⟨r', hr', rfl⟩ := List.mem_map.mp hr
      simp [h2.row r' hr']
  · rcases List.mem_append.mp hr with hr | hr
    · obtain ⟨r', hr', rfl⟩ := List.mem_map.mp hr
      rcases List.mem_append.mp hx with hx | hx
      · have := h1.ends r' hr' x hx i hi; omega
      · rw [List.eq_of_mem_replicate hx] at hi; cases hi
    · obtain ⟨r', hr', rfl⟩ := List.mem_map.mp hr
      rcases List.mem_append.mp hx with hx | hx
      · rw [List.eq_of_mem_replicate hx] at hi; cases hi
      · obtain ⟨x', hx', rfl⟩ := List.mem_map.mp hx
        rcases renO_bd (n := n2) (n' := n1 + n2) (φ := (n1 + ·)) (fun i e => h2.ends r' hr' x' hx' i e) (fun a ha => by show n1 + a < _; omega) hi with h | h
        · exact h
        · omega
theorem emb_1 (h1 : Wf n1 m1) (h2 : Wf n2 m2) : Emb n1 m1 (besR m1 n1 m2 n2) (fun a => a) where
  wf := h1
  look := fun a b ha hb => by
    rw [bes_11 h1 h2 ha hb]
    cases e : look m1 a b with
    | none => rfl
    | some i =>
      rcases nat_end (h1.look ha hb e).1 with rfl | ⟨k, rfl⟩
      · rw [renO_gone]
      · rw [renO_nn]
theorem emb_2 (h1 : Wf n1 m1) (h2 : Wf n2 m2) : Emb n2 m2 (besR m1 n1 m2 n2) (n1 + ·) where
  wf := h2
  look := fun a b ha hb => bes_22 h1 h2 ha hb
/-- neighbours that merge are of one side, and what they merge to -/
theorem bes_side (h1 : Wf n1 m1) (h2 : Wf n2 m2) {a b : Nat} (ha : a < n1 + n2) (hb : b < n1 + n2) {x : Int} (h : look (besR m1 n1 m2 n2) a b = some x) : (a < n1 ∧ b < n1 ∧ x < n1) ∨ (¬ a < n1 ∧ ¬ b < n1 ∧ (x = -1 ∨ (n1 : Int) ≤ x)) := by
  by_cases ca : a < n1
  · by_cases cb : b < n1
    · rw [bes_11 h1 h2 ca cb] at h
      exact .inl ⟨ca, cb, (h1.look ca cb h).2⟩
    · rw [bes_12 h1 h2 ca cb] at h; cases h
  · by_cases cb : b < n1
    · rw [bes_21 h1 h2 ca cb] at h; cases h
    · refine .inr ⟨ca, cb, ?_⟩
      have e := bes_22 h1 h2 (a := a - n1) (b := b - n1) (by omega) (by omega)
      rw [show n1 + (a - n1) = a by omega, show n1 + (b - n1) = b by omega, h] at e
      rcases renO_case (fun i hi => (h2.look (by omega) (by omega) hi).1) e.symm with ⟨_, z⟩ | ⟨k, _, z⟩
      · exact .inl z
      · exact .inr (by rw [z]; show (n1 : Int) ≤ ((n1 + k : Nat) : Int); omega)
theorem snd_bes (h1 : Wf n1 m1) (h2 : Wf n2 m2) (s1 : Sound n1 m1) (s2 : Sound n2 m2) : Sound (n1 + n2) (besR m1 n1 m2 n2) := fun a b c ha hb hc x y e1 e2 => by
  rcases bes_side h1 h2 ha hb e1 with ⟨ca, cb, _⟩ | ⟨ca, cb, _⟩
  · rcases bes_side h1 h2 hb hc e2 with ⟨_, cc, _⟩ | ⟨z, _, _⟩
    · exact (emb_1 h1 h2).meet s1 ca cb cc e1 e2
    · exact absurd cb z
  · rcases bes_side h1 h2 hb hc e2 with ⟨z, _, _⟩ | ⟨_, cc, _⟩
    · exact absurd z cb
    · have := (emb_2 h1 h2).meet s2 (a := a - n1) (b := b - n1) (c := c - n1) (by omega) (by omega) (by omega) (x := x) (y := y)
      simp only [show n1 + (a - n1) = a by omega, show n1 + (b - n1) = b by omega, show n1 + (c - n1) = c by omega] at this
      exact this e1 e2
theorem hand_side (h1 : Wf n1 m1) (h2 : Wf n2 m2) {a b c : Nat} (ha : a < n1 + n2) (hb : b < n1 + n2) (hc : c < n1 + n2) (h : handB (besR m1 n1 m2 n2) a b c = true) : (a < n1 ∧ b < n1 ∧ c < n1 ∧ mk (besR m1 n1 m2 n2) a b < n1 ∧ mk (besR m1 n1 m2 n2) b c < n1) ∨ (¬ a < n1 ∧ ¬ b < n1 ∧ ¬ c < n1 ∧ ¬ mk (besR m1 n1 m2 n2) a b < n1 ∧ ¬ mk (besR m1 n1 m2 n2) b c < n1) := by
  obtain ⟨x, y, e1, e2, _⟩ := handB_two h
  have k1 : mk (besR m1 n1 m2 n2) a b = x := by unfold mk; rw [e1]; simp
  have k2 : mk (besR m1 n1 m2 n2) b c = y := by unfold mk; rw [e2]; simp
  rw [k1, k2]
  rcases bes_side h1 h2 ha hb e1 with ⟨g1, g2, g3⟩ | ⟨g1, g2, g3⟩ <;> rcases bes_side h1 h2 hb hc e2 with ⟨f1, f2, f3⟩ | ⟨f1, f2, f3⟩
  · exact .inl ⟨g1, g2, f2, by omega, by omega⟩
  · omega
  · omega
  · exact .inr ⟨g1, g2, f2, by omega, by omega⟩
theorem kind_side (h1 : Wf n1 m1) (h2 : Wf n2 m2) {a b c d : Nat} (ha : a < n1 + n2) (hb : b < n1 + n2) (hc : c < n1 + n2) (hd : d < n1 + n2) {s : Str} (h : kindOf (besR m1 n1 m2 n2) a b c d = some s) : (a < n1 ∧ b < n1 ∧ c < n1 ∧ d < n1) ∨ (¬ a < n1 ∧ ¬ b < n1 ∧ ¬ c < n1 ∧ ¬ d < n1) := by
  have wf := wf_bes h1 h2
  have merge : ∀ {u v : Nat}, u < n1 + n2 → v < n1 + n2 → (look (besR m1 n1 m2 n2) u v).isNone = false → (u < n1 ↔ v < n1) := fun {u v} hu hv e => by
    cases e2 : look (besR m1 n1 m2 n2) u v with
    | none => rw [e2] at e; cases e
    | some x => rcases bes_side h1 h2 hu hv e2 with ⟨g1, g2, _⟩ | ⟨g1, g2, _⟩ <;> omega
  unfold kindOf at h
  by_cases c1 : handB (besR m1 n1 m2 n2) a b c = true
  · have l := handB_lt wf ha hb hc c1
    have s1 := hand_side h1 h2 ha hb hc c1
    by_cases c2 : handB (besR m1 n1 m2 n2) b c d = true
    · have s2 := hand_side h1 h2 hb hc hd c2
      omega
    · rw [c1] at h
      simp only [Bool.not_eq_true] at c2
      rw [c2] at h
      simp only [Bool.and_false, Bool.false_eq_true, if_false, Bool.false_and, Bool.true_and] at h
      split at h
      · rename_i z
        simp only [Bool.and_eq_true, Bool.not_eq_true'] at z
        have := merge l.2 hd z.2
        omega
      · cases h
  · simp only [Bool.not_eq_true] at c1
    by_cases c2 : handB (besR m1 n1 m2 n2) b c d = true
    · have l := handB_lt wf hb hc hd c2
      have s2 := hand_side h1 h2 hb hc hd c2
      rw [c1, c2] at h
      simp only [Bool.and_false, Bool.false_eq_true, if_false, Bool.false_and, Bool.true_and] at h
      split at h
      · rename_i z
        simp only [Bool.and_eq_true, Bool.not_eq_true'] at z
        have := merge ha l.1 z.2
        omega
      · cases h
    · simp only [Bool.not_eq_true] at c2
      rw [c1, c2] at h
      simp at h
def shE (n1 : Nat) (e : List Nat × Str) : List Nat × Str := (e.1.map (n1 + ·), e.2)
theorem map_lt {n1 : Nat} : ∀ {s t : List Nat}, s.map (n1 + ·) < t.map (n1 + ·) ↔ s < t
  | [], [] => by simp
  | [], _ :: _ => by simp
  | _ :: _, [] => by simp
  | x :: s, y :: t => by
    rw [List.map_cons, List.map_cons, List.cons_lt_cons_iff, List.cons_lt_cons_iff, map_lt]
    show (n1 + x < n1 + y ∨ n1 + x = n1 + y ∧ s < t) ↔ _
    rw [Nat.add_lt_add_iff_left, Nat.add_left_cancel_iff]
/-- both beside one another have both's bad queues and no other ones -/
theorem fours_bes (h1 : Wf n1 m1) (h2 : Wf n2 m2) : foursL (besR m1 n1 m2 n2) (n1 + n2) = foursL m1 n1 ++ (foursL m2 n2).map (shE n1) := by
  refine one_sorted (lt := fun p q : List Nat × Str => p.1 < q.1) (fun a => lt_irr _) (fun a b c h g => lt_tr h g) (fours_sorted _ _) ?_ fun e => ?_
  · rw [List.pairwise_append]
    refine ⟨fours_sorted _ _, ?_, fun x hx y hy => ?_⟩
    · rw [List.pairwise_map]
      exact (fours_sorted m2 n2).imp fun {a b} z => map_lt.mpr z
    · obtain ⟨y', hy', rfl⟩ := List.mem_map.mp hy
      obtain ⟨a, b, c, d, e1, ha, _⟩ := mem_fours.mp hx
      obtain ⟨a', b', c', d', e2, _⟩ := mem_fours.mp hy'
      show x.1 < (y'.1.map (n1 + ·))
      rw [e1, e2, List.map_cons, List.cons_lt_cons_iff]
      exact .inl (by omega)
  · obtain ⟨q, s⟩ := e
    rw [List.mem_append, List.mem_map, mem_fours]
    constructor
    · rintro ⟨a, b, c, d, e1, ha, hb, hc, hd, hk⟩
      simp only at e1 hk
      subst e1
      rcases kind_side h1 h2 ha hb hc hd hk with ⟨ca, cb, cc, cd⟩ | ⟨ca, cb, cc, cd⟩
      · left
        refine mem_fours.mpr ⟨a, b, c, d, rfl, ca, cb, cc, cd, ?_⟩
        rw [← (emb_1 h1 h2).kind ca cb cc cd]
        exact hk
      · right
        refine ⟨([a - n1, b - n1, c - n1, d - n1], s), mem_fours.mpr ⟨_, _, _, _, rfl, by omega, by omega, by omega, by omega, ?_⟩, ?_⟩
        · have := (emb_2 h1 h2).kind (a := a - n1) (b := b - n1) (c := c - n1) (d := d - n1) (by omega) (by omega) (by omega) (by omega)
          simp only [show n1 + (a - n1) = a by omega, show n1 + (b - n1) = b by omega, show n1 + (c - n1) = c by omega, show n1 + (d - n1) = d by omega] at this
          rw [← this]
          exact hk
        · unfold shE
          simp only [List.map_cons, List.map_nil, show n1 + (a - n1) = a by omega, show n1 + (b - n1) = b by omega, show n1 + (c - n1) = c by omega, show n1 + (d - n1) = d by omega]
    · rintro (h | ⟨e', h, e⟩)
      · obtain ⟨a, b, c, d, e1, ha, hb, hc, hd, hk⟩ := mem_fours.mp h
        refine ⟨a, b, c, d, e1, by omega, by omega, by omega, by omega, ?_⟩
        rw [(emb_1 h1 h2).kind ha hb hc hd]
        exact hk
      · obtain ⟨a, b, c, d, e1, ha, hb, hc, hd, hk⟩ := mem_fours.mp h
        obtain ⟨q', s'⟩ := e'
        simp only at e1 hk
        subst e1
        unfold shE at e
        injection e with e2 e3
        subst e2 e3
        refine ⟨n1 + a, n1 + b, n1 + c, n1 + d, rfl, by omega, by omega, by omega, by omega, ?_⟩
        rw [(emb_2 h1 h2).kind ha hb hc hd]
        exact hk
end
end DH

end

section
/-! DH: y = [..], kept as a cell. -/
namespace DH
open PySem PySem.Spec PyProof.Rows L2
section
variable {X : Cx} {n : Nat} {ρ : Rho} {α : Sto} {P : Post} {elt iter tg : Expr} {st : List Stmt} {ifs : List Expr} {scope : Scope} {own : List (Str × Nat)} {pos : Pos}
theorem dss_setLcC {y : Str} {py spos : Pos} (j : Nat) (T : Tg) (hc : X.calm = true) (hN : X.N.Nodup) (ok : BlkOk X.N X.env.scope scope own) (hi : T.all (fun i => decide (i ∈ own.map (·.2))) = true)
    (hg : BlkG X scope tg T) (hsw : swapsWith (.ListComp elt [⟨tg, iter, ifs, 0⟩] scope pos) (some (.Name y py)) spos.line X.env = pure true)
    (h : LcGT X elt tg iter ifs scope (own.map (·.2)) T ρ α fun α' zs => DSs X n st (ρ.set j (some (.acc α'.length))) (α' ++ [.l zs]) P)
    (hy : X.N[j]? = some y := by rfl) (hyl : X.env.scope.names.lookup y = some .local := by rfl) (hs : ∀ x, foldedSetIterable iter X.env x = pure x := by intro _; rfl) :
    DSs X n (.Assign [.Name y py] (.ListComp elt [⟨tg, iter, ifs, 0⟩] scope pos) spos :: st) ρ α P := by
  refine dss_cons (ds_setLct j T hc hN ok hi hg hsw ?_ hy hyl hs)
  intro A σ H Q r c
  refine h.lc A σ H Q r fun J ds stays B α1 H1 h1 g s yl => c J ds stays B α1 H1 ?_ g s yl
  obtain ⟨V, v0, st, turn, fin⟩ := h1
  refine ⟨V, v0, st, turn, fun α' v => ?_⟩
  obtain ⟨α2, zs, e, rfl, h1⟩ := fin α' v
  show DSs X n _ (ρ.set j (some (.acc α1.length))) (α2 ++ [.l zs]) P
  rw [show α1.length = α2.length by injection e]
  exact h1
end
section
variable {X : Cx} {ρ : Rho} {α : Sto} {R : RE} {a : Expr} {p p2 pos pos2 : Pos}
/-- list(range(n)) as a cell -/
theorem de_listRgC (hc : X.calm = true) (hm : X.mg "list" = none) (hm2 : X.mg "range" = none) (h : DE X a ρ α fun d α1 => ∃ j : Nat, d = .int j ∧ j ≤ 16777216 ∧ R (.acc α1.length) (α1 ++ [.l (rgD 0 j)]))
    (hg : Gl X "list" := by rfl) (hg2 : Gl X "range" := by rfl) (na : starEach [a] X.env = (false, eval a X.env) :: starEach [] X.env := by rfl)
    (na2 : starEach [.Call (.Name "range" p2) [a] [] pos2] X.env = (false, eval (.Call (.Name "range" p2) [a] [] pos2) X.env) :: starEach [] X.env := by rfl) :
    DE X (.Call (.Name "list" p) [.Call (.Name "range" p2) [a] [] pos2] [] pos) ρ α R := by
  intro A σ H Q rep con
  refine wp_of (pe_listRg hc hg hm (prg_1 hg2 hm2 pe_wp na) na2) (h A σ H _ rep fun v d B α1 H1 h1 g s q => ?_)
  obtain ⟨j, rfl, hj, h1⟩ := h1
  refine ⟨j, q.int_inv, RgOk.of_le (by omega) (by omega) (by omega) (by omega), fun l hl => (con.step g s).newC s hl (ds := rgD 0 j) ?_ h1⟩
  have := das_rg (K := X.K) (A := A ++ B) (H := H1) 0 j
  rwa [show ((j : Int) - 0).toNat = j by omega] at this
end
end DH

end

section
/-! DH: a, b, c = x, y, z; rows told. -/
namespace DH
open PySem PySem.Spec PyProof.Rows L2
section
variable {X : Cx} {n : Nat} {ρ : Rho} {α : Sto} {P : Post} {a b c : Expr} {pos : Pos} {x : Str}
theorem ds_par3 (i j l : Nat) {y z : Str} {px py pz pt : Pos} {kt k2 pt2} (hc : X.calm = true) (hN : X.N.Nodup) (h : DA X [a, b, c] ρ α fun ds α1 => ∃ d1 d2 d3, ds = [d1, d2, d3] ∧ P.nx (((ρ.set i (some d1)).set j (some d2)).set l (some d3)) α1) (hi : X.N[i]? = some x := by rfl) (hj : X.N[j]? = some y := by rfl) (hl : X.N[l]? = some z := by rfl) (hij : i ≠ j := by decide) (hil : i ≠ l := by decide) (hjl : j ≠ l := by decide)
    (hx : X.env.scope.names.lookup x = some .local := by rfl) (hy : X.env.scope.names.lookup y = some .local := by rfl) (hz : X.env.scope.names.lookup z = some .local := by rfl)
    (hw : swappedStores [.Tuple [.Name x px, .Name y py, .Name z pz] kt pt] (.Tuple [a, b, c] k2 pt2) X.env = pure (some [x, y, z]) := by rfl)
    (hs : swapsWithSole [.Tuple [.Name x px, .Name y py, .Name z pz] kt pt] (.Tuple [a, b, c] k2 pt2) pos.line X.env = pure false := by rfl) :
    DS X n (.Assign [.Tuple [.Name x px, .Name y py, .Name z pz] kt pt] (.Tuple [a, b, c] k2 pt2) pos) ρ α P := by
  intro A H0 E B σ H at_
  refine wps_of (ps_par3 hc hN hi hj hl hij hil hjl hx hy hz pa_wp hw hs) (h _ σ H _ at_.rep fun vs ds B1 α1 H1 h1 g s q => ?_)
  obtain ⟨d1, d2, d3, rfl, h1⟩ := h1
  cases q with
  | cons q1 q =>
    cases q with
    | cons q2 q =>
      cases q with
      | cons q3 q =>
        cases q
        exact ⟨_, _, _, rfl, ((((at_.step g s).put (da_assoc q1)).put (da_assoc q2)).put (da_assoc q3)).nx h1⟩
end
theorem sh_rowsT (tt : List (List Int)) : SeqAt.shaped (.tuple (rowsP tt)) = true := by
  unfold SeqAt.shaped
  have := dep_rows tt
  simp only [PyData.canLay0, PyData.depth, lay_rows, Bool.true_and, decide_eq_true_eq]
  apply decide_eq_true
  omega
theorem py_tabsT (α : Sto) (T : List (List Nat)) : Py α (.tup (tabsD T)) (.tuple (rowsP (T.map cst))) := .tup (by rw [tabsD_eq]; exact py_rows _)
theorem roks_enc : ∀ {r : List (Option Int)}, (∀ x ∈ r, ∀ i, x = some i → -1 ≤ i ∧ i < 1000) → roks (encP r) = true ∧ rws (encP r) ≤ 22 * r.length
  | [], _ => ⟨rfl, Nat.zero_le _⟩
  | x :: r, h => by
    obtain ⟨h1, h2⟩ := roks_enc (r := r) fun y hy => h y (by simp [hy])
    have hx : rok (pyE x) = true ∧ DH.rw (pyE x) ≤ 20 := by
      cases x with
      | none => exact ⟨rfl, by decide⟩
      | some i =>
        have := h (some i) (by simp) i rfl
        exact ⟨decide_eq_true (by omega), Nat.le_refl _⟩
    constructor
    · show (rok (pyE x) && roks (encP r)) = true
      rw [hx.1, h1]; rfl
    · show DH.rw (pyE x) + 2 + rws (encP r) ≤ _
      rw [List.length_cons]
      omega
theorem rok_rows {m : Rows} {n : Nat} (hw : Wf n m) (hn : n ≤ 12) : rok (.tuple (tupP m)) = true ∧ DH.rw (.tuple (tupP m)) ≤ 1000000 ∧ (PyData.tuple (tupP m)).depth ≤ 40 := by
  have key : ∀ m' : Rows, (∀ r ∈ m', r ∈ m) → roks (tupP m') = true ∧ rws (tupP m') ≤ 300 * m'.length := by
    intro m'
    induction m' with
    | nil => intro _; exact ⟨rfl, Nat.zero_le _⟩
    | cons r m' ih =>
      intro h
      obtain ⟨i1, i2⟩ := ih fun r' hr' => h r' (by simp [hr'])
      have hrm := h r (by simp)
      obtain ⟨j1, j2⟩ := roks_enc (r := r) fun x hx i hi => by
        have := hw.ends r hrm x hx i hi
        omega
      have hl := hw.row r hrm
      constructor
      · show (roks (encP r) && roks (tupP m')) = true
        rw [j1, i1]; rfl
      · show 3 + rws (encP r) + 2 + rws (tupP m') ≤ _
        rw [List.length_cons]
        omega
  obtain ⟨k1, k2⟩ := key m fun r h => h
  refine ⟨k1, ?_, ?_⟩
  · show 3 + rws (tupP m) ≤ _
    rw [hw.len] at k2
    omega
  · have := (lay_tupP m).2
    simp only [PyData.depth]
    omega
end DH

end

section
/-! Plain law: the ends of queues of three and four, by what merges. -/
namespace FM
/-- tables that are sound -/
structure Sd (t : Tab) (n : Nat) : Prop where
  cl : ∀ a b c, a < n → b < n → t a b = some (some c) → c < n
  snd : ∀ a b c, a < n → b < n → c < n → ∀ x y, t a b = some x → t b c = some y → lft t x c = rgt t a y
/-- what is held alike: kept by hand-overs -/
structure Rl (t : Tab) (n : Nat) (S : List Nat → List Nat → Prop) : Prop where
  refl : ∀ q, S q q
  symm : ∀ q r, S q r → S r q
  trans : ∀ q r s, S q r → S r s → S q s
  hand : ∀ a b c x y, a < n → b < n → c < n → t a b = some (some x) → t b c = some (some y) → t x c = none → S [x, c] [a, y]
  left : ∀ q r d, S q r → S (q ++ [d]) (r ++ [d])
  right : ∀ q r d, S q r → S (d :: q) (d :: r)
theorem mem_ends {t : Tab} {q e : List Nat} (h : e ∈ ends t q) : (NoStep t q ∧ e = q) ∨ ∃ a r, stepAt t q a = some r ∧ e ∈ ends t r := by
  rw [ends_eq] at h
  by_cases hu : endsUp t q (q.length - 1) = []
  · rw [if_pos hu] at h
    refine .inl ⟨fun a => ?_, by simpa using h⟩
    cases e1 : stepAt t q a with
    | none => rfl
    | some r =>
      obtain ⟨e', he'⟩ := List.exists_mem_of_ne_nil _ (ends_ne (t := t) (q := r))
      have := mem_endsUp.mpr ⟨a, r, (stepAt_len e1).2, e1, he'⟩
      rw [hu] at this
      cases this
  · rw [if_neg hu] at h
    obtain ⟨a, r, _, h2, h3⟩ := mem_endsUp.mp h
    exact .inr ⟨a, r, h2, h3⟩
section
variable {t : Tab} {n : Nat} {S : List Nat → List Nat → Prop}
/-- all ends of q are alike -/
def One (t : Tab) (S : List Nat → List Nat → Prop) (q : List Nat) : Prop := ∀ e ∈ ends t q, ∀ e' ∈ ends t q, S e e'
/-- some ends of q and r are alike -/
def Meet (t : Tab) (S : List Nat → List Nat → Prop) (q r : List Nat) : Prop := ∃ e ∈ ends t q, ∃ e' ∈ ends t r, S e e'
theorem Meet.of (R : Rl t n S) {q r p : List Nat} (h : ∀ e ∈ ends t p, e ∈ ends t q ∧ e ∈ ends t r) : Meet t S q r := by
  obtain ⟨e, he⟩ := List.exists_mem_of_ne_nil _ (ends_ne (t := t) (q := p))
  exact ⟨e, (h e he).1, e, (h e he).2, R.refl e⟩
theorem one_meet (R : Rl t n S) {q r : List Nat} (h1 : One t S q) (h2 : One t S r) (h : Meet t S q r) : ∀ e ∈ ends t q, ∀ e' ∈ ends t r, S e e' := by
  obtain ⟨f, hf, f', hf', hs⟩ := h
  exact fun e he e' he' => R.trans _ _ _ (h1 e he f hf) (R.trans _ _ _ hs (h2 f' hf' e' he'))
theorem one_of (R : Rl t n S) {q : List Nat} (h : ∀ a r b r', stepAt t q a = some r → stepAt t q b = some r' → ∀ e ∈ ends t r, ∀ e' ∈ ends t r', S e e') : One t S q := by
  intro e he e' he'
  rcases mem_ends he with ⟨hn, rfl⟩ | ⟨a, r, h1, h2⟩
  · rcases mem_ends he' with ⟨_, rfl⟩ | ⟨b, r', h3, _⟩
    · exact R.refl _
    · rw [hn b] at h3; cases h3
  · rcases mem_ends he' with ⟨hn, rfl⟩ | ⟨b, r', h3, h4⟩
    · rw [hn a] at h1; cases h1
    · exact h a r b r' h1 h3 e h2 e' h4
theorem step1 {p : Nat} : NoStep t [p] := fun a => by
  cases a <;> simp [stepAt]
theorem step0 : NoStep t ([] : List Nat) := fun a => by
  simp [stepAt]
theorem noStep2 {p q : Nat} (h : t p q = none) : NoStep t [p, q] := fun a => by
  match a with
  | 0 => simp [stepAt, h]
  | a + 1 => simp [stepAt]
theorem ends_opt {z : Option Nat} : ends t (opt z) = [opt z] := by
  cases z with
  | none => exact ends_done step0
  | some z => exact ends_done step1
theorem ends2n {p q : Nat} (h : t p q = none) : ends t [p, q] = [[p, q]] := ends_done (noStep2 h)
theorem ends2s {p q : Nat} {z : Option Nat} (h : t p q = some z) : ∀ e, e ∈ ends t [p, q] ↔ e = opt z := by
  have hs : stepAt t [p, q] 0 = some (opt z) := by
    have := stepAt_of (u := []) (v := []) h
    simpa using this
  intro e
  constructor
  · intro he
    rcases mem_ends he with ⟨hn, _⟩ | ⟨a, r, h1, h2⟩
    · rw [hn 0] at hs; cases hs
    · have : a = 0 := by have := (stepAt_len h1).2; simp at this; exact this
      subst this
      rw [hs] at h1; cases h1
      rw [ends_opt] at h2
      simpa using h2
  · rintro rfl
    exact ends_sub hs (by rw [ends_opt]; simp)
theorem one2 (R : Rl t n S) {p q : Nat} : One t S [p, q] := by
  cases h : t p q with
  | none => intro e he e' he'; rw [ends2n h] at he he'; simp at he he'; rw [he, he']; exact R.refl _
  | some z => intro e he e' he'; rw [(ends2s h e).mp he, (ends2s h e').mp he']; exact R.refl _
theorem one_short (R : Rl t n S) {q : List Nat} (h : q.length ≤ 2) : One t S q := by
  match q, h with
  | [], _ => intro e he e' he'; rw [ends_done step0] at he he'; simp at he he'; rw [he, he']; exact R.refl _
  | [p], _ => intro e he e' he'; rw [ends_done step1] at he he'; simp at he he'; rw [he, he']; exact R.refl _
  | [p, q], _ => exact one2 R
/-- ends behind one more merge -/
theorem sub0 {p q : Nat} {z : Option Nat} {v : List Nat} (h : t p q = some z) : ∀ e ∈ ends t (opt z ++ v), e ∈ ends t (p :: q :: v) := fun e he => ends_sub (a := 0) (by
  have := stepAt_of (u := []) (v := v) h
  simpa using this) he
theorem sub1 {o p q : Nat} {z : Option Nat} {v : List Nat} (h : t p q = some z) : ∀ e ∈ ends t (o :: (opt z ++ v)), e ∈ ends t (o :: p :: q :: v) := fun e he => ends_sub (a := 1) (by
  have := stepAt_of (u := [o]) (v := v) h
  simpa using this) he
theorem three_meet (T : Sd t n) (R : Rl t n S) {a b c : Nat} (ha : a < n) (hb : b < n) (hc : c < n) {x y : Option Nat} (h1 : t a b = some x) (h2 : t b c = some y) : Meet t S (opt x ++ [c]) (a :: opt y) := by
  have sd := T.snd a b c ha hb hc x y h1 h2
  cases x with
  | none =>
    have sd : some (some c) = rgt t a y := sd
    cases y with
    | none =>
      have : a = c := by have := sd.symm; simpa [rgt] using this
      subst this
      exact Meet.of R (p := [a]) fun e he => ⟨he, he⟩
    | some y =>
      have e : t a y = some (some c) := sd.symm
      exact Meet.of R (p := [c]) fun e' he => ⟨he, sub0 (v := []) e e' (by simpa [opt] using he)⟩
  | some x =>
    have sd : t x c = rgt t a y := sd
    cases y with
    | none =>
      have e : t x c = some (some a) := sd
      exact Meet.of R (p := [a]) fun e' he => ⟨sub0 (v := []) e e' (by simpa [opt] using he), he⟩
    | some y =>
      have sd : t x c = t a y := sd
      cases hz : t x c with
      | none =>
        refine ⟨[x, c], by show [x, c] ∈ ends t [x, c]; rw [ends2n hz]; simp, [a, y], by show [a, y] ∈ ends t [a, y]; rw [ends2n (sd ▸ hz)]; simp, R.hand a b c x y ha hb hc h1 h2 hz⟩
      | some z =>
        refine Meet.of R (p := opt z) fun e' he => ⟨sub0 (v := []) hz e' (by simpa using he), sub0 (v := []) (sd ▸ hz) e' (by simpa using he)⟩
theorem places3 {a b c : Nat} {i : Nat} {r : List Nat} (h : stepAt t [a, b, c] i = some r) : (i = 0 ∧ ∃ x, t a b = some x ∧ r = opt x ++ [c]) ∨ (i = 1 ∧ ∃ y, t b c = some y ∧ r = a :: opt y) := by
  have hl := (stepAt_len h).2
  match i, h with
  | 0, h =>
    left
    refine ⟨rfl, ?_⟩
    simp only [stepAt, List.getElem?_cons_zero, List.getElem?_cons_succ, Nat.zero_add, List.take_zero, List.nil_append, Option.map_eq_some_iff] at h
    obtain ⟨x, hx, e⟩ := h
    exact ⟨x, hx, by rw [← e]; rfl⟩
  | 1, h =>
    right
    refine ⟨rfl, ?_⟩
    simp only [stepAt, List.getElem?_cons_zero, List.getElem?_cons_succ, Option.map_eq_some_iff] at h
    obtain ⟨x, hx, e⟩ := h
    exact ⟨x, hx, by rw [← e]; simp⟩
  | i + 2, h => simp at hl; omega
/-- queues of three: all ends alike -/
theorem one3 (T : Sd t n) (R : Rl t n S) {a b c : Nat} (ha : a < n) (hb : b < n) (hc : c < n) : One t S [a, b, c] := by
  have s0 : ∀ x : Option Nat, One t S (opt x ++ [c]) := fun x => one_short R (by cases x <;> simp [opt])
  have s1 : ∀ y : Option Nat, One t S (a :: opt y) := fun y => one_short R (by cases y <;> simp [opt])
  refine one_of R fun i r j r' hi hj => ?_
  rcases places3 hi with ⟨rfl, x, hx, rfl⟩ | ⟨rfl, y, hy, rfl⟩ <;> rcases places3 hj with ⟨rfl, x', hx', rfl⟩ | ⟨rfl, y', hy', rfl⟩
  · rw [hx] at hx'; cases hx'
    exact s0 x
  · exact one_meet R (s0 x) (s1 y') (three_meet T R ha hb hc hx hy')
  · have := one_meet R (s0 x') (s1 y) (three_meet T R ha hb hc hx' hy)
    exact fun e he e' he' => R.symm _ _ (this e' he' e he)
  · rw [hy] at hy'; cases hy'
    exact s1 y
/-- no bad queue of four here -/
structure Ok4 (t : Tab) (a b c d : Nat) : Prop where
  mid : Hand t a b c → Hand t b c d → False
  lef : ∀ y, Hand t b c d → t a b = none → t b c = some (some y) → t a y = none
  rig : ∀ y, Hand t a b c → t c d = none → t b c = some (some y) → t y d = none
theorem meet_02 (R : Rl t n S) {a b c d : Nat} {x z : Option Nat} (h1 : t a b = some x) (h2 : t c d = some z) : Meet t S (opt x ++ [c, d]) (a :: b :: opt z) := by
  refine Meet.of R (p := opt x ++ opt z) fun e he => ⟨?_, ?_⟩
  · cases x with
    | none => exact sub0 (v := []) h2 e (by simpa [opt] using he)
    | some x => exact sub1 (o := x) (v := []) h2 e (by simpa [opt] using he)
  · exact sub0 h1 e he
theorem meet_01 (T : Sd t n) (R : Rl t n S) {a b c d : Nat} (ha : a < n) (hb : b < n) (hc : c < n) (hd : d < n) (ok : Ok4 t a b c d) {x y : Option Nat} (h1 : t a b = some x) (h2 : t b c = some y) : Meet t S (opt x ++ [c, d]) (a :: (opt y ++ [d])) := by
  have sd := T.snd a b c ha hb hc x y h1 h2
  cases hl : lft t x c with
  | some z =>
    rw [hl] at sd
    refine Meet.of R (p := opt z ++ [d]) fun e he => ⟨?_, ?_⟩
    · cases x with
      | none => cases hl; exact he
      | some x => exact sub0 (v := [d]) (show t x c = some z from hl) e he
    · cases y with
      | none => cases sd; exact he
      | some y => exact sub0 (v := [d]) (show t a y = some z from sd.symm) e he
  | none =>
    rw [hl] at sd
    cases x with
    | none => cases hl
    | some x =>
      cases y with
      | none => cases sd
      | some y =>
        have e1 : t x c = none := hl
        have e2 : t a y = none := sd.symm
        have hx := T.cl a b x ha hb h1
        have hy := T.cl b c y hb hc h2
        have hh : Hand t a b c := ⟨x, y, h1, h2, e1⟩
        have hS := R.hand a b c x y ha hb hc h1 h2 e1
        show Meet t S [x, c, d] [a, y, d]
        cases e3 : t c d with
        | none =>
          have e4 := ok.rig y hh e3 h2
          refine ⟨[x, c, d], ?_, [a, y, d], ?_, R.left _ _ d hS⟩
          · rw [ends_done (DH.noStep3 e1 e3)]; simp
          · rw [ends_done (DH.noStep3 e2 e4)]; simp
        | some w =>
          have s2 := T.snd b c d hb hc hd (some y) w h2 e3
          cases w with
          | none =>
            have e5 : t y d = some (some b) := s2
            refine Meet.of R (p := [x]) fun e he => ⟨?_, ?_⟩
            · exact sub1 (o := x) (v := []) e3 e he
            · exact sub1 (o := a) (v := []) e5 e (sub0 (v := []) h1 e he)
          | some w =>
            have hw := T.cl c d w hc hd e3
            have s2 : t y d = t b w := s2
            cases e5 : t y d with
            | none => exact absurd ⟨y, w, h2, e3, e5⟩ (ok.mid hh)
            | some v =>
              rw [e5] at s2
              have s3 := T.snd a b w ha hb hw (some x) v h1 s2.symm
              have s3 : t x w = rgt t a v := s3
              have k0 : ∀ e ∈ ends t [x, w], e ∈ ends t [x, c, d] := fun e he => sub1 (o := x) (v := []) e3 e he
              have k1 : ∀ e ∈ ends t (a :: opt v), e ∈ ends t [a, y, d] := fun e he => sub1 (o := a) (v := []) e5 e (by simpa using he)
              cases v with
              | none =>
                have e6 : t x w = some (some a) := s3
                exact Meet.of R (p := [a]) fun e he => ⟨k0 e (sub0 (v := []) e6 e he), k1 e he⟩
              | some v =>
                have s3 : t x w = t a v := s3
                cases e6 : t x w with
                | some u => exact Meet.of R (p := opt u) fun e he => ⟨k0 e (sub0 (v := []) e6 e (by simpa using he)), k1 e (sub0 (v := []) (s3 ▸ e6) e (by simpa using he))⟩
                | none =>
                  refine ⟨[x, w], k0 _ (by rw [ends2n e6]; simp), [a, v], k1 _ (by show [a, v] ∈ ends t [a, v]; rw [ends2n (s3 ▸ e6)]; simp), R.hand a b w x v ha hb hw h1 s2.symm e6⟩
theorem meet_12 (T : Sd t n) (R : Rl t n S) {a b c d : Nat} (ha : a < n) (hb : b < n) (hc : c < n) (hd : d < n) (ok : Ok4 t a b c d) {y z : Option Nat} (h1 : t b c = some y) (h2 : t c d = some z) : Meet t S (a :: (opt y ++ [d])) (a :: b :: opt z) := by
  have sd := T.snd b c d hb hc hd y z h1 h2
  cases hl : lft t y d with
  | some v =>
    rw [hl] at sd
    refine Meet.of R (p := a :: opt v) fun e he => ⟨?_, ?_⟩
    · cases y with
      | none => cases hl; exact he
      | some y => exact sub1 (o := a) (v := []) (show t y d = some v from hl) e (by simpa using he)
    · cases z with
      | none => cases sd; exact he
      | some z => exact sub1 (o := a) (v := []) (show t b z = some v from sd.symm) e (by simpa using he)
  | none =>
    rw [hl] at sd
    cases y with
    | none => cases hl
    | some y =>
      cases z with
      | none => cases sd
      | some z =>
        have e1 : t y d = none := hl
        have e2 : t b z = none := sd.symm
        have hy := T.cl b c y hb hc h1
        have hz := T.cl c d z hc hd h2
        have hh : Hand t b c d := ⟨y, z, h1, h2, e1⟩
        have hS := R.hand b c d y z hb hc hd h1 h2 e1
        show Meet t S [a, y, d] [a, b, z]
        cases e3 : t a b with
        | none =>
          have e4 := ok.lef y hh e3 h1
          refine ⟨[a, y, d], ?_, [a, b, z], ?_, R.right _ _ a hS⟩
          · rw [ends_done (DH.noStep3 e4 e1)]; simp
          · rw [ends_done (DH.noStep3 e3 e2)]; simp
        | some x =>
          have s2 := T.snd a b c ha hb hc x (some y) e3 h1
          cases x with
          | none =>
            have e5 : t a y = some (some c) := s2.symm
            refine Meet.of R (p := [z]) fun e he => ⟨?_, ?_⟩
            · exact sub0 (v := [d]) e5 e (sub0 (v := []) h2 e he)
            · exact sub0 (v := [z]) e3 e he
          | some x =>
            have hx := T.cl a b x ha hb e3
            have s2 : t x c = t a y := s2
            cases e5 : t x c with
            | none => exact absurd hh (fun q => ok.mid ⟨x, y, e3, h1, e5⟩ q)
            | some v =>
              rw [e5] at s2
              have s3 := T.snd x c d hx hc hd v (some z) e5 h2
              have s3 : lft t v d = t x z := s3
              have k0 : ∀ e ∈ ends t (opt v ++ [d]), e ∈ ends t [a, y, d] := fun e he => sub0 (v := [d]) s2.symm e he
              have k1 : ∀ e ∈ ends t [x, z], e ∈ ends t [a, b, z] := fun e he => sub0 (v := [z]) e3 e he
              cases v with
              | none =>
                have e6 : t x z = some (some d) := s3.symm
                exact Meet.of R (p := [d]) fun e he => ⟨k0 e he, k1 e (sub0 (v := []) e6 e he)⟩
              | some v =>
                have s3 : t v d = t x z := s3
                cases e6 : t v d with
                | some u => exact Meet.of R (p := opt u) fun e he => ⟨k0 e (sub0 (v := []) e6 e (by simpa using he)), k1 e (sub0 (v := []) (s3 ▸ e6) e (by simpa using he))⟩
                | none =>
                  refine ⟨[v, d], k0 _ (by show [v, d] ∈ ends t [v, d]; rw [ends2n e6]; simp), [x, z], k1 _ (by rw [ends2n (s3 ▸ e6)]; simp), R.hand x c d v z hx hc hd e5 h2 e6⟩
theorem places4 {a b c d : Nat} {i : Nat} {r : List Nat} (h : stepAt t [a, b, c, d] i = some r) : (i = 0 ∧ ∃ x, t a b = some x ∧ r = opt x ++ [c, d]) ∨ (i = 1 ∧ ∃ y, t b c = some y ∧ r = a :: (opt y ++ [d])) ∨ (i = 2 ∧ ∃ z, t c d = some z ∧ r = a :: b :: opt z) := by
  have hl := (stepAt_len h).2
  match i, h with
  | 0, h =>
    left
    refine ⟨rfl, ?_⟩
    simp only [stepAt, List.getElem?_cons_zero, List.getElem?_cons_succ, Nat.zero_add, List.take_zero, List.nil_append, Option.map_eq_some_iff] at h
    obtain ⟨x, hx, e⟩ := h
    exact ⟨x, hx, by rw [← e]; rfl⟩
  | 1, h =>
    right; left
    refine ⟨rfl, ?_⟩
    simp only [stepAt, List.getElem?_cons_zero, List.getElem?_cons_succ, Option.map_eq_some_iff] at h
    obtain ⟨x, hx, e⟩ := h
    exact ⟨x, hx, by rw [← e]; simp⟩
  | 2, h =>
    right; right
    refine ⟨rfl, ?_⟩
    simp only [stepAt, List.getElem?_cons_zero, List.getElem?_cons_succ, Option.map_eq_some_iff] at h
    obtain ⟨x, hx, e⟩ := h
    exact ⟨x, hx, by rw [← e]; simp⟩
  | i + 3, h => simp at hl; omega
/-- queues of four that are not bad: all ends alike -/
theorem one4 (T : Sd t n) (R : Rl t n S) {a b c d : Nat} (ha : a < n) (hb : b < n) (hc : c < n) (hd : d < n) (ok : Ok4 t a b c d) : One t S [a, b, c, d] := by
  have s0 : ∀ x : Option Nat, t a b = some x → One t S (opt x ++ [c, d]) := fun x hx => by
    cases x with
    | none => exact one_short R (by simp [opt])
    | some x => exact one3 T R (T.cl a b x ha hb hx) hc hd
  have s1 : ∀ y : Option Nat, t b c = some y → One t S (a :: (opt y ++ [d])) := fun y hy => by
    cases y with
    | none => exact one_short R (by simp [opt])
    | some y => exact one3 T R ha (T.cl b c y hb hc hy) hd
  have s2 : ∀ z : Option Nat, t c d = some z → One t S (a :: b :: opt z) := fun z hz => by
    cases z with
    | none => exact one_short R (by simp [opt])
    | some z => exact one3 T R ha hb (T.cl c d z hc hd hz)
  have flip : ∀ {q r : List Nat}, (∀ e ∈ ends t q, ∀ e' ∈ ends t r, S e e') → ∀ e ∈ ends t r, ∀ e' ∈ ends t q, S e e' := fun h e he e' he' => R.symm _ _ (h e' he' e he)
  refine one_of R fun i r j r' hi hj => ?_
  rcases places4 hi with ⟨_, x, hx, rfl⟩ | ⟨_, y, hy, rfl⟩ | ⟨_, z, hz, rfl⟩ <;> rcases places4 hj with ⟨_, x', hx', rfl⟩ | ⟨_, y', hy', rfl⟩ | ⟨_, z', hz', rfl⟩
  · rw [hx] at hx'; cases hx'; exact s0 x hx
  · exact one_meet R (s0 x hx) (s1 y' hy') (meet_01 T R ha hb hc hd ok hx hy')
  · exact one_meet R (s0 x hx) (s2 z' hz') (meet_02 R hx hz')
  · exact flip (one_meet R (s0 x' hx') (s1 y hy) (meet_01 T R ha hb hc hd ok hx' hy))
  · rw [hy] at hy'; cases hy'; exact s1 y hy
  · exact one_meet R (s1 y hy) (s2 z' hz') (meet_12 T R ha hb hc hd ok hy hz')
  · exact flip (one_meet R (s0 x' hx') (s2 z hz) (meet_02 R hx' hz))
  · exact flip (one_meet R (s1 y' hy') (s2 z hz) (meet_12 T R ha hb hc hd ok hy' hz))
  · rw [hz] at hz'; cases hz'; exact s2 z hz
/-- alike in length -/
theorem rl_len : Rl t n fun q r => q.length = r.length := ⟨fun _ => rfl, fun _ _ h => h.symm, fun _ _ _ h g => h.trans g, fun _ _ _ _ _ _ _ _ _ _ _ => rfl, fun _ _ _ h => by simp [h], fun _ _ _ h => by simp [h]⟩
/-- alike in their commands, where hand-overs keep them -/
theorem rl_bag (h : ∀ a b c x y, a < n → b < n → c < n → t a b = some (some x) → t b c = some (some y) → t x c = none → [x, c].Perm [a, y]) : Rl t n fun q r => q.Perm r := ⟨fun _ => .refl _, fun _ _ h => h.symm, fun _ _ _ h g => h.trans g, h, fun _ _ _ h => h.append_right _, fun _ _ d h => h.cons d⟩
end
end FM

end

section
/-! Plain law: a queue of four's kind, by all ways. -/
namespace DH
open PySem PySem.Spec PyProof.Rows L2 FM
section
variable {m : Rows} {n : Nat} {a b c d : Nat}
theorem tab_sd (hw : Wf n m) (hs : Sound n m) : Sd (tab m) n := ⟨tab_cl hw, tab_snd hw hs⟩
theorem hand_tab (hw : Wf n m) (ha : a < n) (hb : b < n) (hc : c < n) : Hand (tab m) a b c ↔ handB m a b c = true := by
  constructor
  · exact hand_iff hw ha hb hc
  · intro h
    obtain ⟨x, y, h1, h2, h3⟩ := handB_two h
    exact ⟨x, y, tab_some h1, tab_some h2, tab_none.mpr h3⟩
theorem mk_tab (hw : Wf n m) (ha : a < n) (hb : b < n) {y : Nat} (h : tab m a b = some (some y)) : mk m a b = y := by
  have := look_some hw ha hb h
  unfold mk
  rw [this]
  simp
theorem kind_ok4 (hw : Wf n m) (ha : a < n) (hb : b < n) (hc : c < n) (hd : d < n) (h : kindOf m a b c d = none) : Ok4 (tab m) a b c d := by
  have no : ∀ {x : Option Int}, x ≠ none → x.isNone = false := fun {x} e => by cases x with | none => exact absurd rfl e | some _ => rfl
  unfold kindOf at h
  refine ⟨fun h1 h2 => ?_, fun y h1 h2 h3 => ?_, fun y h1 h2 h3 => ?_⟩
  · rw [(hand_tab hw ha hb hc).mp h1, (hand_tab hw hb hc hd).mp h2] at h
    simp at h
  · rw [(hand_tab hw hb hc hd).mp h1, tab_none.mp h2, mk_tab hw hb hc h3] at h
    rw [tab_none]
    cases e : look m a y with
    | none => rfl
    | some z => cases e2 : handB m a b c <;> rw [e, e2] at h <;> simp at h
  · rw [(hand_tab hw ha hb hc).mp h1, tab_none.mp h2, mk_tab hw hb hc h3] at h
    rw [tab_none]
    cases e : look m y d with
    | none => rfl
    | some z =>
      rw [e] at h
      have hx : handB m b c d = false := by
        cases e2 : handB m b c d with
        | false => rfl
        | true => rw [e2] at h; simp at h
      rw [hx] at h
      simp at h
theorem kind_cases (hw : Wf n m) (ha : a < n) (hb : b < n) (hc : c < n) (hd : d < n) {s : Str} (h : kindOf m a b c d = some s) :
    (s = "middle" ∧ Hand (tab m) a b c ∧ Hand (tab m) b c d) ∨ (s = "left" ∧ Hand (tab m) b c d ∧ tab m a b = none ∧ ∃ y, tab m b c = some (some y) ∧ tab m a y ≠ none) ∨ (s = "right" ∧ Hand (tab m) a b c ∧ tab m c d = none ∧ ∃ y, tab m b c = some (some y) ∧ tab m y d ≠ none) := by
  unfold kindOf at h
  by_cases h1 : (handB m a b c && handB m b c d) = true
  · rw [if_pos h1] at h
    cases h
    simp only [Bool.and_eq_true] at h1
    exact .inl ⟨rfl, (hand_tab hw ha hb hc).mpr h1.1, (hand_tab hw hb hc hd).mpr h1.2⟩
  · rw [if_neg h1] at h
    by_cases h2 : (handB m b c d && (look m a b).isNone && !(look m a (mk m b c)).isNone) = true
    · rw [if_pos h2] at h
      cases h
      simp only [Bool.and_eq_true, Bool.not_eq_true', Option.isNone_iff_eq_none] at h2
      obtain ⟨y, z, e1, e2, _⟩ := handB_two h2.1.1
      have e3 := tab_some e1
      refine .inr (.inl ⟨rfl, (hand_tab hw hb hc hd).mpr h2.1.1, tab_none.mpr h2.1.2, y, e3, fun q => ?_⟩)
      have := h2.2
      rw [mk_tab hw hb hc e3, tab_none.mp q] at this
      cases this
    · rw [if_neg h2] at h
      by_cases h3 : (handB m a b c && (look m c d).isNone && !(look m (mk m b c) d).isNone) = true
      · rw [if_pos h3] at h
        cases h
        simp only [Bool.and_eq_true, Bool.not_eq_true', Option.isNone_iff_eq_none] at h3
        obtain ⟨x, y, e1, e2, _⟩ := handB_two h3.1.1
        have e3 := tab_some e2
        refine .inr (.inr ⟨rfl, (hand_tab hw ha hb hc).mpr h3.1.1, tab_none.mpr h3.1.2, y, e3, fun q => ?_⟩)
        have := h3.2
        rw [mk_tab hw hb hc e3, tab_none.mp q] at this
        cases this
      · rw [if_neg h3] at h; cases h
/-- not bad: all ends are equally long -/
theorem kind_one (hw : Wf n m) (hs : Sound n m) (ha : a < n) (hb : b < n) (hc : c < n) (hd : d < n) (h : kindOf m a b c d = none) : ∀ e ∈ ends (tab m) [a, b, c, d], ∀ e' ∈ ends (tab m) [a, b, c, d], e.length = e'.length :=
  one4 (tab_sd hw hs) rl_len ha hb hc hd (kind_ok4 hw ha hb hc hd h)
theorem ends_fold {t : Tab} {q e : List Nat} (h : e ∈ ends t q) : NoStep t e := (ends_ind (P := fun _ => True) (fun _ _ _ _ _ => trivial) q.length q (Nat.le_refl _) trivial e h).2
theorem less_iff {t : Tab} {q r : List Nat} {i : Nat} (h : stepAt t q i = some r) : r ∈ ends t q ↔ NoStep t r :=
  ⟨ends_fold, fun z => ends_sub h (by rw [ends_done z]; simp)⟩
theorem noStep3_iff {t : Tab} {p q r : Nat} : NoStep t [p, q, r] ↔ t p q = none ∧ t q r = none := by
  constructor
  · intro h
    have h0 := h 0
    have h1 := h 1
    simp [stepAt] at h0 h1
    exact ⟨h0, h1⟩
  · exact fun ⟨h1, h2⟩ => noStep3 h1 h2
/-- the place of the one merge that leaves three -/
def placeK (s : Str) : Nat := if s = "right" then 0 else if s = "middle" then 1 else 2
theorem place_kind (hw : Wf n m) (hs : Sound n m) (ha : a < n) (hb : b < n) (hc : c < n) (hd : d < n) {s : Str} (h : kindOf m a b c d = some s) :
    (∀ x, tab m a b = some (some x) → ([x, c, d] ∈ ends (tab m) [a, b, c, d] ↔ placeK s = 0)) ∧ (∀ y, tab m b c = some (some y) → ([a, y, d] ∈ ends (tab m) [a, b, c, d] ↔ placeK s = 1)) ∧ (∀ z, tab m c d = some (some z) → ([a, b, z] ∈ ends (tab m) [a, b, c, d] ↔ placeK s = 2)) ∧
    (placeK s = 0 → ∃ x, tab m a b = some (some x)) ∧ (placeK s = 1 → ∃ y, tab m b c = some (some y)) ∧ (placeK s = 2 → ∃ z, tab m c d = some (some z)) := by
  have l0 : ∀ x, tab m a b = some (some x) → ([x, c, d] ∈ ends (tab m) [a, b, c, d] ↔ tab m x c = none ∧ tab m c d = none) := fun x hx => by rw [less_iff (step4_0 hx), noStep3_iff]
  have l1 : ∀ y, tab m b c = some (some y) → ([a, y, d] ∈ ends (tab m) [a, b, c, d] ↔ tab m a y = none ∧ tab m y d = none) := fun y hy => by rw [less_iff (step4_1 hy), noStep3_iff]
  have l2 : ∀ z, tab m c d = some (some z) → ([a, b, z] ∈ ends (tab m) [a, b, c, d] ↔ tab m a b = none ∧ tab m b z = none) := fun z hz => by rw [less_iff (step4_2 hz), noStep3_iff]
  have pm : placeK "middle" = 1 := by decide +kernel
  have pl : placeK "left" = 2 := by decide +kernel
  have pr : placeK "right" = 0 := by decide +kernel
  rcases kind_cases hw ha hb hc hd h with ⟨rfl, ⟨x, y, e1, e2, e3⟩, ⟨y', z, f1, f2, f3⟩⟩ | ⟨rfl, ⟨y, z, e1, e2, e3⟩, e4, y', f1, f2⟩ | ⟨rfl, ⟨x, y, e1, e2, e3⟩, e4, y', f1, f2⟩
  · rw [e2] at f1; cases f1
    have s1 := tab_snd hw hs a b c ha hb hc _ _ e1 e2
    have s1 : tab m x c = tab m a y := s1
    rw [pm]
    refine ⟨fun x' hx => ?_, fun y' hy => ?_, fun z' hz => ?_, fun q => absurd q (by decide), fun _ => ⟨_, e2⟩, fun q => absurd q (by decide)⟩
    · rw [l0 x' hx, f2]; simp
    · rw [e2] at hy; cases hy
      rw [l1 y e2, ← s1, e3, f3]; simp
    · rw [l2 z' hz, e1]; simp
  · rw [e1] at f1; cases f1
    have s2 := tab_snd hw hs b c d hb hc hd _ _ e1 e2
    have s2 : tab m y d = tab m b z := s2
    rw [pl]
    refine ⟨fun x' hx => (by rw [e4] at hx; cases hx), fun y' hy => ?_, fun z' hz => ?_, fun q => absurd q (by decide), fun q => absurd q (by decide), fun _ => ⟨_, e2⟩⟩
    · rw [e1] at hy; cases hy
      rw [l1 y e1]
      constructor
      · exact fun q => absurd q.1 f2
      · intro q; cases q
    · rw [e2] at hz; cases hz
      rw [l2 z e2, e4, ← s2, e3]; simp
  · rw [e2] at f1; cases f1
    rw [pr]
    refine ⟨fun x' hx => ?_, fun y' hy => ?_, fun z' hz => (by rw [e4] at hz; cases hz), fun _ => ⟨_, e1⟩, fun q => absurd q (by decide), fun q => absurd q (by decide)⟩
    · rw [e1] at hx; cases hx
      rw [l0 x e1, e3, e4]; simp
    · rw [e2] at hy; cases hy
      rw [l1 y e2]
      constructor
      · exact fun q => absurd q.2 f2
      · intro q; cases q
end
end DH

end

section
/-! Plain law: what hand-overs keep, all ends of any queue keep, where no queue of four is bad; queues of three one by one; how many ends there are. -/
namespace FM
section
variable {t : Tab} {n : Nat} {S : List Nat → List Nat → Prop}
theorem Rl.pre (R : Rl t n S) {q r : List Nat} (h : S q r) : ∀ u : List Nat, S (u ++ q) (u ++ r)
  | [] => h
  | x :: u => R.right _ _ x (R.pre h u)
theorem ho_S (R : Rl t n S) {s s' : List Nat} (h : Ho t n s s') : S s.reverse s'.reverse := by
  induction h with
  | @here a b c d e u ha hb hc hu e1 e2 e3 _ _ =>
    have := R.pre (R.hand a b c e d ha hb hc e1 e2 e3) u.reverse
    simpa using this
  | @deep w s s' hw h1 _ _ ih =>
    have := R.left _ _ w ih
    simpa using this
theorem eq_S (R : Rl t n S) {s s' : List Nat} (h : Eq' t n s s') : S s.reverse s'.reverse := by
  induction h with
  | refl s => exact R.refl _
  | fwd x _ ih => exact R.trans _ _ _ (ho_S R x) ih
  | bwd x _ ih => exact R.trans _ _ _ (R.symm _ _ (ho_S R x)) ih
/-- any two ends of a queue come from one another by hand-overs -/
theorem ends_eq' (E : Ev t n) {q : List Nat} (hq : ∀ y ∈ q, y < n) {e e' : List Nat} (he : e ∈ ends t q) (he' : e' ∈ ends t q) : Eq' t n e.reverse e'.reverse := by
  have one : ∀ {e : List Nat}, e ∈ ends t q → Eq' t n e.reverse (run t [] q) := fun {e} he => by
    have h1 := (ends_left E hq he).2.2.2 [] trivial (by simp)
    have h2 : run t [] e = e.reverse ++ [] := run_done (DH.ends_fold he).done trivial (fun _ _ _ l r z => by cases z)
    rw [h2, List.append_nil] at h1
    exact h1
  exact (one he).trans (one he').symm
theorem one_all (E : Ev t n) (R : Rl t n S) {q : List Nat} (hq : ∀ y ∈ q, y < n) : One t S q := fun e he e' he' => by
  have := eq_S R (ends_eq' E hq he he')
  simpa using this
/-- the same queue -/
theorem rl_eq (h : ∀ a b c x y, a < n → b < n → c < n → t a b = some (some x) → t b c = some (some y) → t x c = none → [x, c] = [a, y]) : Rl t n fun q r => q = r :=
  ⟨fun _ => rfl, fun _ _ h => h.symm, fun _ _ _ h g => h.trans g, h, fun _ _ _ h => by rw [h], fun _ _ _ h => by rw [h]⟩
theorem rl0_eq : Rl t 0 fun q r => q = r := rl_eq fun _ _ _ _ _ h => absurd h (Nat.not_lt_zero _)
theorem rl0_bag : Rl t 0 fun q r => q.Perm r := rl_bag fun _ _ _ _ _ h => absurd h (Nat.not_lt_zero _)
/-- a queue of three by itself -/
theorem three_loc (T : Sd t n) (R : Rl t 0 S) {a b c : Nat} (ha : a < n) (hb : b < n) (hc : c < n) (hh : ∀ x y, t a b = some (some x) → t b c = some (some y) → t x c = none → S [x, c] [a, y]) : One t S [a, b, c] := by
  have s0 : ∀ x : Option Nat, One t S (opt x ++ [c]) := fun x => one_short R (by cases x <;> simp [opt])
  have s1 : ∀ y : Option Nat, One t S (a :: opt y) := fun y => one_short R (by cases y <;> simp [opt])
  have mt : ∀ {x y : Option Nat}, t a b = some x → t b c = some y → Meet t S (opt x ++ [c]) (a :: opt y) := fun {x y} h1 h2 => by
    have sd := T.snd a b c ha hb hc x y h1 h2
    cases hz : lft t x c with
    | some z =>
      rw [hz] at sd
      refine Meet.of R (p := opt z) fun e he => ⟨?_, ?_⟩
      · cases x with
        | none => cases hz; exact he
        | some x => exact sub0 (v := []) (show t x c = some z from hz) e (by simpa using he)
      · cases y with
        | none => cases sd; exact he
        | some y => exact sub0 (v := []) (show t a y = some z from sd.symm) e (by simpa using he)
    | none =>
      rw [hz] at sd
      cases x with
      | none => cases hz
      | some x => cases y with
        | none => cases sd
        | some y => exact ⟨[x, c], by show [x, c] ∈ ends t [x, c]; rw [ends2n (show t x c = none from hz)]; simp, [a, y], by show [a, y] ∈ ends t [a, y]; rw [ends2n (show t a y = none from sd.symm)]; simp, hh x y h1 h2 hz⟩
  refine one_of R fun i r j r' hi hj => ?_
  rcases places3 hi with ⟨_, x, hx, rfl⟩ | ⟨_, y, hy, rfl⟩ <;> rcases places3 hj with ⟨_, x', hx', rfl⟩ | ⟨_, y', hy', rfl⟩
  · rw [hx] at hx'; cases hx'; exact s0 x
  · exact one_meet R (s0 x) (s1 y') (mt hx hy')
  · exact fun e he e' he' => R.symm _ _ (one_meet R (s0 x') (s1 y) (mt hx' hy) e' he' e he)
  · rw [hy] at hy'; cases hy'; exact s1 y
theorem three_back (T : Sd t n) {a b c x y : Nat} (ha : a < n) (hb : b < n) (hc : c < n) (h1 : t a b = some (some x)) (h2 : t b c = some (some y)) (h3 : t x c = none) (h : One t S [a, b, c]) : S [x, c] [a, y] := by
  have sd : t x c = t a y := T.snd a b c ha hb hc _ _ h1 h2
  exact h _ (sub0 (v := [c]) h1 _ (by show [x, c] ∈ ends t [x, c]; rw [ends2n h3]; simp)) _ (sub1 (o := a) (v := []) h2 _ (by show [a, y] ∈ ends t [a, y]; rw [ends2n (sd ▸ h3)]; simp))
/-- one end alone -/
theorem len_one {q : List Nat} : (ends t q).length = 1 ↔ One t (fun q r => q = r) q := by
  have nd := ends_nodup (t := t) q.length q (Nat.le_refl _)
  have ne := ends_ne (t := t) (q := q)
  unfold One
  generalize ends t q = L at nd ne
  match L, nd, ne with
  | [x], _, _ => simp
  | x :: y :: L, nd, _ =>
    constructor
    · intro z; simp at z
    · intro z
      have := z x (by simp) y (by simp)
      subst this
      simp at nd
end
/-! bags -/
theorem sub_len {β : Type} [DecidableEq β] : ∀ {L M : List β}, L.Nodup → (∀ x ∈ L, x ∈ M) → L.length ≤ M.length
  | [], _, _, _ => Nat.zero_le _
  | x :: L, M, nd, h => by
    have hx := h x (by simp)
    have i := sub_len (L := L) (M := M.erase x) (List.nodup_cons.mp nd).2 fun y hy => (List.mem_erase_of_ne (fun z => by subst z; exact (List.nodup_cons.mp nd).1 hy)).mpr (h y (by simp [hy]))
    rw [List.length_erase_of_mem hx] at i
    have := List.length_pos_of_mem hx
    simp only [List.length_cons]
    omega
def orders : Nat → List Nat → List (List Nat)
  | 0, _ => [[]]
  | k + 1, l => l.flatMap fun x => (orders k (l.erase x)).map (x :: ·)
def few : Nat → Nat
  | 0 => 1
  | k + 1 => (k + 1) * few k
theorem flat_le {β γ : Type} {l : List β} {g : β → List γ} {c : Nat} (h : ∀ x ∈ l, (g x).length ≤ c) : (l.flatMap g).length ≤ l.length * c := by
  induction l with
  | nil => simp
  | cons x l ih =>
    have h1 := h x (by simp)
    have h2 := ih fun y hy => h y (by simp [hy])
    rw [List.flatMap_cons, List.length_append, List.length_cons, Nat.succ_mul]
    omega
theorem orders_len : ∀ (k : Nat) (l : List Nat), l.length = k → (orders k l).length ≤ few k
  | 0, _, _ => Nat.le_refl _
  | k + 1, l, h => by
    have := flat_le (l := l) (g := fun x => (orders k (l.erase x)).map (x :: ·)) (c := few k) fun x hx => by
      rw [List.length_map]
      exact orders_len k _ (by rw [List.length_erase_of_mem hx, h]; rfl)
    rw [h] at this
    exact this
theorem mem_orders : ∀ (k : Nat) (l e : List Nat), l.length = k → e.Perm l → e ∈ orders k l
  | 0, l, e, h, p => by
    have : l = [] := List.length_eq_zero_iff.mp h
    subst this
    rw [p.eq_nil]
    simp [orders]
  | k + 1, l, e, h, p => by
    cases e with
    | nil => have := p.length_eq; simp [h] at this
    | cons x e =>
      have hx : x ∈ l := p.mem_iff.mp (by simp)
      refine List.mem_flatMap.mpr ⟨x, hx, List.mem_map.mpr ⟨e, mem_orders k _ e (by rw [List.length_erase_of_mem hx, h]; rfl) ?_, rfl⟩⟩
      have := p.erase x
      simpa using this
/-- no more lists of these than there are orders of them -/
theorem perms_few {k : Nat} {l : List Nat} {L : List (List Nat)} (hl : l.length = k) (nd : L.Nodup) (h : ∀ e ∈ L, e.Perm l) : L.length ≤ few k :=
  Nat.le_trans (sub_len nd fun e he => mem_orders k l e hl (h e he)) (orders_len k l hl)
section
variable {t : Tab} {n : Nat}
/-- a queue of at most six: few ends, if all have the same commands -/
theorem ends_few {q : List Nat} (h6 : q.length ≤ 6) (h : One t (fun q r => q.Perm r) q) : (ends t q).length < 60 := by
  have nd := ends_nodup (t := t) q.length q (Nat.le_refl _)
  obtain ⟨e, he⟩ := List.exists_mem_of_ne_nil _ (ends_ne (t := t) (q := q))
  have hp : ∀ e' ∈ ends t q, e'.Perm e := fun e' he' => h e' he' e he
  by_cases h4 : e.length ≤ 4
  · have h1 := perms_few rfl nd hp
    have h2 : few e.length ≤ 24 := by
      have : e.length = 0 ∨ e.length = 1 ∨ e.length = 2 ∨ e.length = 3 ∨ e.length = 4 := by omega
      rcases this with z | z | z | z | z <;> rw [z] <;> decide
    omega
  -- at least five are left: at most one merge
  have hl : ∀ e' ∈ ends t q, 5 ≤ e'.length := fun e' he' => by have := (hp e' he').length_eq; omega
  have key : ∀ e' ∈ ends t q, e' ∈ q :: (List.range 6).filterMap fun a => stepAt t q a := fun e' he' => by
    rcases mem_ends he' with ⟨_, rfl⟩ | ⟨a, r, h1, h2⟩
    · simp
    · have l1 := stepAt_len h1
      rcases mem_ends h2 with ⟨_, rfl⟩ | ⟨b, r', h3, h4'⟩
      · exact List.mem_cons_of_mem _ (List.mem_filterMap.mpr ⟨a, by simp; omega, h1⟩)
      · have l2 := stepAt_len h3
        have l3 := ends_le h4'
        have l4 := hl e' he'
        omega
  have := sub_len nd key
  have h2 := List.length_filterMap_le (fun a => stepAt t q a) (List.range 6)
  rw [List.length_cons] at this
  rw [List.length_range] at h2
  omega
end
end FM

end

section
/-! DH: tuples of ints, the empty one among them, can be sorted. -/
namespace DH
open PySem PySem.Spec PyProof.Rows L2 PySem.W PySem.Calls
/-- the values read as these tuples of ints -/
abbrev TupsAre (h : Heap) (vs : List Value) (ds : List (List Int)) : Prop := EachIs (fun v d => ∃ as, Reads h v (.tuple (intsP d)) as) vs ds
section
variable {P : Program} {w : World} {A : Around} {E : Value → Shared → Prop} {s : Shared}
theorem wp_firsts : ∀ {vs : List Value} {ds : List (List Int)} {Q : List (Option Value) → Shared → Prop}, TupsAre s.heap vs ds → (∀ os : List (Option Value), os.length = ds.length → (∀ i : Nat, ((os[i]?.bind id).isSome = true ↔ ∃ x r, ds[i]? = some (x :: r))) → Q os s) →
    wpAny (model P w) A (vs.mapM firstOfTuple') Q E s
  | _, _, Q, .nil, h => by rw [List.mapM_nil]; exact wpAny_pure (h [] rfl fun i => by simp)
  | v :: vs, d :: ds, Q, .cons hv t, h => by
    rw [List.mapM_cons, kas_first_eq]
    obtain ⟨as, r⟩ := hv
    refine wpAny_bind (wpAny_bind ((looks_reads r).here ?_))
    have hT : ¬ (dataType (.tuple (intsP d)) != Value.type "tuple") = true := by
      show ¬ (Value.type "tuple" != Value.type "tuple") = true
      decide
    rw [if_neg hT]
    cases r with
    | @tuple l o xs n _ _ h1 h2 h3 h4 =>
      refine wpAny_bind (listItems_at h1 h3 (wpAny_pure ?_))
      refine wpAny_bind (wp_firsts t fun os hl hi => wpAny_pure (h (xs[0]? :: os) (by simp [hl]) fun i => ?_))
      cases i with
      | succ i => simpa using hi i
      | zero =>
        have n1 : xs.size = d.length := by
          have := SeqAt.ReadsAll.length _ _ _ h4
          simpa [intsP] using this
        cases d with
        | nil =>
          have : xs[0]? = none := by simp at n1; simp [n1]
          rw [this]; simp
        | cons x r =>
          have hlt : 0 < xs.size := by rw [n1]; simp
          simp [hlt]
theorem tup_lt_one {v v' : Value} {d d' : List Int} {as as' : List Addr} {Q : Bool → Shared → Prop} (r : Reads s.heap v (.tuple (intsP d)) as) (r' : Reads s.heap v' (.tuple (intsP d')) as') (hu : A.units + 2 < cLine) (h : Q (dataLt (.tuple (intsP d)) (.tuple (intsP d'))) s) :
    wpAny (model P w) A (oneLt' true v v') Q E s := by
  have hal : alikeAll (intsP d) (intsP d') = true := alike_ints _ _
  have d1 : PyData.depthAll (intsP d) ≤ 1 := by rw [dep_ints]; omega
  cases r with
  | @tuple l o vs n _ _ h1 h2 h3 h4 =>
    cases r' with
    | @tuple l' o' vs' n' _ _ k1 k2 k3 k4 =>
      have n1 : vs.size = (intsP d).length := by simpa using SeqAt.ReadsAll.length _ _ _ h4
      have n2 : vs'.size = (intsP d').length := by simpa using SeqAt.ReadsAll.length _ _ _ k4
      rw [dataLt_tuple, ← firstLt_toks _ _ hal, ← n1, ← n2] at h
      obtain ⟨cls, dd, data, sl⟩ := o
      obtain ⟨cls2, dd2, data2, sl2⟩ := o'
      simp only at h2 h3 k2 k3
      subst h2 h3 k2 k3
      have hin : A.in1.units = A.units + 1 := rfl
      rw [oneLt'_eq]
      simp only [if_true]
      refine wpAny_bind (wpAny_cRoomFor (by omega) ?_)
      refine wpAny_bind (wpAny_callSpecialIfBound?_slot (T := "tuple") ⟨_, h1, rfl⟩ F.slot_tuple_lt (call_meets F.slot_tuple_lt ⟨_, h1, rfl⟩ F.entry_tuple_lt (F.args_tuple_lt_2 _ _)
        (SeqAt.tuple_ltAt l l' vs vs' n n' dd dd2 sl sl2 (SeqAt.pairEq (intsP d) (intsP d')) (fun j => dataLt ((intsP d).getD j .none) ((intsP d').getD j .none))) ⟨h1, k1, fun j j1 j2 => ?_, fun j j1 j2 hj => ?_, wpAny_truthy_bool h⟩))
      · have := eqAt_alikeAll _ _ A.in1 s vs.toList vs'.toList _ _ h4 k4 hal (by omega) j (by simpa using j1) (by simpa using j2)
        simpa using this
      · have := rcLt_alikeAll _ _ A.in1 s vs.toList vs'.toList _ _ h4 k4 hal (by omega) j (by simpa using j1) (by simpa using j2) hj
        simpa using this
/-- can be sorted -/
theorem sorts_tups {vs : List Value} {ds : List (List Int)} (e : TupsAre s.heap vs ds) (hu : A.units + 3 < cLine) : SortsAt P w A s (dataKind s.heap (ds.map fun d => .tuple (intsP d))) vs := by
  have e' : EachIs (fun v d => ∃ as, Reads s.heap v d as) vs (ds.map fun d => .tuple (intsP d)) := each_map (R := fun v d => ∃ as, Reads s.heap v d as) (fun d : List Int => PyData.tuple (intsP d)) e
  have hal : AllAlike (ds.map fun d => .tuple (intsP d)) := by
    intro d hd d' hd'
    obtain ⟨x, _, rfl⟩ := List.mem_map.mp hd
    obtain ⟨y, _, rfl⟩ := List.mem_map.mp hd'
    simp only [alike]
    exact alike_ints _ _
  have dep : ∀ d : List Int, (PyData.tuple (intsP d)).depth ≤ 2 := fun d => by simp only [PyData.depth, dep_ints]; omega
  by_cases hne : ∀ d ∈ ds, ∃ x r, d = x :: r
  · refine SortsAt.data e' hal (.inl fun d hd => ?_) fun d hd => ?_
    · obtain ⟨t, ht, rfl⟩ := List.mem_map.mp hd
      obtain ⟨x, r, rfl⟩ := hne t ht
      exact ⟨.int x, intsP r, rfl⟩
    · obtain ⟨t, ht, rfl⟩ := List.mem_map.mp hd
      have := dep t
      omega
  refine ⟨fun v hv => ?_, ?_⟩
  · obtain ⟨d, hd, as, r⟩ := e'.left v hv
    exact ⟨_, dataKind_some hal hd r⟩
  · by_cases h0 : ∃ x r, ds[0]? = some (x :: r)
    · refine ⟨general', ?_, fun h2 E Q hq => ?_⟩
      · intro E x y a b Q ha hb hq
        obtain ⟨d, as, hd, ra, rfl⟩ := dataKind_inv ha
        obtain ⟨d', as', hd', rb, rfl⟩ := dataKind_inv hb
        show wpAny _ _ (oneLt' false x y) _ _ _
        obtain ⟨t, ht, rfl⟩ := List.mem_map.mp hd
        have := dep t
        exact oneLt_alike (fun z => by cases z) ra rb (hal _ hd _ hd') (fun z => by cases z) (by omega) hq
      · rw [keyKind'_eq, List.mapM_toArray, map_eq_pure_bind]
        refine wpAny_bind (wpAny_bind (wp_firsts e fun os hl hi => wpAny_pure ?_))
        have h1 : ¬ (os.toArray.all fun x => x.isSome) = true := fun z => hne fun d hd => by
          obtain ⟨i, hi'⟩ := List.mem_iff_getElem?.mp hd
          have hlt : i < os.length := by rw [hl]; exact (List.getElem?_eq_some_iff.mp hi').1
          have z2 : (os[i]?.bind id).isSome = true := by
            rw [List.all_toArray, List.all_eq_true] at z
            have := z os[i] (List.getElem_mem hlt)
            rw [List.getElem?_eq_getElem hlt]
            simpa using this
          obtain ⟨x, r, hx⟩ := (hi i).mp z2
          rw [hi'] at hx
          exact ⟨x, r, by injection hx⟩
        rw [if_neg h1]
        have h2 : (os.toArray[0]?.bind id).isSome = true := by
          have := (hi 0).mpr h0
          simpa using this
        rw [if_pos h2]
        exact wpAny_pure hq
    · refine ⟨oneType', ?_, fun h2 E Q hq => ?_⟩
      · intro E x y a b Q ha hb hq
        obtain ⟨d, as, hd, ra, rfl⟩ := dataKind_inv ha
        obtain ⟨d', as', hd', rb, rfl⟩ := dataKind_inv hb
        rw [keyLt'_oneType]
        obtain ⟨t, ht, rfl⟩ := List.mem_map.mp hd
        obtain ⟨t', ht', rfl⟩ := List.mem_map.mp hd'
        exact tup_lt_one ra rb (by omega) hq
      · rw [keyKind'_eq, List.mapM_toArray, map_eq_pure_bind]
        refine wpAny_bind (wpAny_bind (wp_firsts e fun os hl hi => wpAny_pure ?_))
        have h1 : ¬ (os.toArray.all fun x => x.isSome) = true := fun z => hne fun d hd => by
          obtain ⟨i, hi'⟩ := List.mem_iff_getElem?.mp hd
          have hlt : i < os.length := by rw [hl]; exact (List.getElem?_eq_some_iff.mp hi').1
          have z2 : (os[i]?.bind id).isSome = true := by
            rw [List.all_toArray, List.all_eq_true] at z
            have := z os[i] (List.getElem_mem hlt)
            rw [List.getElem?_eq_getElem hlt]
            simpa using this
          obtain ⟨x, r, hx⟩ := (hi i).mp z2
          rw [hi'] at hx
          exact ⟨x, r, by injection hx⟩
        rw [if_neg h1]
        have h3 : ¬ (os.toArray[0]?.bind id).isSome = true := fun z => h0 ((hi 0).mp (by simpa using z))
        rw [if_neg h3]
        rw [oneTypeOnly'_eq, List.mapM_toArray, map_eq_pure_bind]
        refine wpAny_bind (wpAny_bind (wpAny_bind (kas_mapM (r := Value.type "tuple") _ (fun v hv Q' hq => ?_) (wpAny_pure ?_))))
        · obtain ⟨d, hd, as, r⟩ := e.left v hv
          exact (looks_reads r).here hq
        · have hall : ((List.map (fun _ => Value.type "tuple") vs).toArray.all fun x => x == Value.type "tuple") = true := by
            simp only [List.all_toArray, List.all_map, List.all_eq_true]
            intro _ _
            exact beq_self_eq_true _
          have hz : (List.map (fun _ => Value.type "tuple") vs).toArray[0]? = some (Value.type "tuple") := by
            cases vs with
            | nil => simp at h2
            | cons v vs => simp
          rw [hz]
          simp only [hall, if_true]
          exact wpAny_pure (wpAny_pure hq)
end
end DH

end

section
/-! DH: sorted(x), x a set or a tuple. -/
namespace DH
open PySem PySem.Spec PyProof.Rows L2 PySem.W PySem.Calls
theorem sortVals_perm (κ : PyProof.Rows.KeyKind) (vs : List Value) : (sortVals κ false vs vs).Perm vs := by
  unfold sortVals
  have := (List.mergeSort_perm (vs.zip vs) (sortLe κ.toKeyOrd false fun p : Keyed => keyD κ p.1)).map Prod.snd
  rwa [List.map_snd_zip (Nat.le_refl _)] at this
section
variable {P : Program} {w : World} {A : Around} {E : Value → Shared → Prop} {s : Shared}
/-- what must hold behind the gathering: the gathered values can be sorted in any greater heap -/
def SortNext (P : Program) (w : World) (A : Around) (Q : Value → Shared → Prop) (vs : List Value) (s1 : Shared) : Prop :=
  vs.length ≤ sizeLine ∧ ∀ h' : Heap, (∀ b o, s1.heap.get? b = some o → h'.get? b = some o) → ∃ κ, SortsAt P w A.in1.in1 { s1 with heap := h' } κ vs ∧
    ∀ (h2 : Heap) (c : Nat), (∀ b o, s1.heap.get? b = some o → h2.get? b = some o) → h2.get? s1.heap.objs.size = some (seqObj "list" (sortVals κ false vs vs).toArray c) → Q (.ref s1.heap.objs.size) { s1 with heap := h2 }
theorem sorted_by {x : Value} {Q : Value → Shared → Prop} (hc : ∀ E', wpAny (model P w) A.in1 (collect x) (SortNext P w A Q) E' s) : wpAny (model P w) A (call (.builtin "sorted") [x]) Q E s := by
  refine call_function_entry kind_sorted plain_sorted entry_sorted (args_sorted1 _) ?_
  unfold Builtin.«sorted»
  refine wpAny_bind (m := checkCount "sorted" 1 1 _) (wpAny_pure ?_)
  refine wpAny_bind (wpAny_mono (hc _) ?_ fun _ _ e => e)
  rintro vs s1 ⟨hz, hn⟩
  refine wpAny_bind (wpAny_newList ?_ hz)
  have hoL : (s1.heap.push (seqObj "list" vs.toArray 0)).get? s1.heap.objs.size = some (seqObj "list" vs.toArray 0) := Heap.get?_push_size _ rfl
  have old : ∀ b o, s1.heap.get? b = some o → (s1.heap.push (seqObj "list" vs.toArray 0)).get? b = some o := fun b o e => Heap.get?_push_of_some _ e
  have ne : ∀ {b o}, s1.heap.get? b = some o → b ≠ s1.heap.objs.size := fun e => Nat.ne_of_lt (Heap.lt_size e)
  obtain ⟨κ, S, q⟩ := hn (sortingHeap (s1.heap.push (seqObj "list" vs.toArray 0)) s1.heap.objs.size vs) fun b o e => sortingHeap_old (ne e) (old b o e)
  refine wpAny_bind (wpAny_holding (wpAny_call_entry slot_list_sort ⟨_, hoL, rfl⟩ entry_list_sort ?body (args_list_sort _)))
  case body =>
    refine list_sort_vals (s := { s1 with heap := s1.heap.push (seqObj "list" vs.toArray 0) }) hoL S hz ⟨_, rfl, ?_⟩
    obtain ⟨c, hc⟩ := sortedHeap_at (vs := vs) (out := (sortVals κ false vs vs).toArray) hoL
    refine wpAny_pure ⟨_, rfl, q _ c (fun b o e => ?_) hc⟩
    show (sortedHeap (s1.heap.push (seqObj "list" vs.toArray 0)) s1.heap.objs.size vs _).get? b = some o
    rw [sortedHeap_old (ne e) (by rw [size_push']; exact Nat.lt_succ_of_lt (Heap.lt_size e))]
    exact old b o e
end
end DH

end

section
/-! DH: sorted(t), t a tuple of ints; sorted(set of int tuples). -/
namespace DH
open PySem PySem.Spec PyProof.Rows L2 PySem.W PySem.Calls
theorem le_int1 : PySem.W.dataLe false (fun b : Int => PyData.int b) = fun a b => decide (a ≤ b) := by
  funext a b
  show (!PySem.W.dataLt (.int b) (.int a)) = _
  rw [PySem.W.dataLt_int]
  by_cases h : b < a
  · have : ¬ a ≤ b := by omega
    simp [h, this]
  · have : a ≤ b := by omega
    simp [h, this]
theorem int_total : PySem.W.TotalLe (PySem.W.dataLe false (fun b : Int => PyData.int b)) := by
  rw [le_int1]
  refine ⟨fun a b c h1 h2 => ?_, fun a b => ?_⟩
  · simp only [decide_eq_true_eq] at h1 h2 ⊢; omega
  · simp only [decide_eq_true_eq]; omega
section
variable {P : Program} {w : World} {A : Around} {E : Value → Shared → Prop} {s : Shared}
theorem collect_tup {a : Addr} {vs : List Value} {Q : List Value → Shared → Prop} (hl : s.heap.IsTuple a vs.toArray) (hz : vs.length ≤ sizeLine)
    (h : Q vs { s with heap := (s.heap.push (seqObj "list" #[] 0)).update s.heap.objs.size (Obj.mapSeq (· ++ vs.toArray)) }) : wpAny (model P w) A (collect (.ref a)) Q E s := by
  obtain ⟨o, ho, hc, n, hd⟩ := id hl
  unfold collect
  refine wpAny_bind (wpAny_runValue (codeAny_builtin entry_proto_collect' ?_))
  show wpAny _ _ (do again (.builtin "list.__iadd__" ⟨[← newList [], .ref a], []⟩)) _ _ s
  refine wpAny_bind (wpAny_newList (wpAny_pure ⟨Code.quiet_builtin _ (by decide +kernel), codeAny_builtin entry_list_iadd' ?_⟩))
  show wpAny _ _ (Builtin.List.listExtendWith (.ref s.heap.objs.size) (.ref a) (.ref s.heap.objs.size)) _ _ { s with heap := s.heap.push (seqObj "list" #[] 0) }
  unfold Builtin.List.listExtendWith
  have ho' : (s.heap.push (seqObj "list" #[] 0)).get? a = some o := Heap.get?_push_of_some _ ho
  have ht : (Value.type "tuple" == Value.type "tuple") = true := by rfl
  refine wpAny_bind (wpAny_typeOf (T := "tuple") ⟨o, ho', hc⟩ ?_)
  rw [if_pos (by rw [ht]; simp)]
  refine wpAny_bind (listItems_at ho' hd ?_)
  refine wpAny_bind (listItems_at (xs := #[]) (n := 0) (Heap.get?_push_size _ rfl) rfl ?_)
  rw [if_neg (by simp)]
  refine wpAny_bind (listUpdate_at (xs := #[]) (n := 0) (Heap.get?_push_size _ rfl) rfl ?_ (Nat.zero_le _) (by show (#[] ++ vs.toArray).size ≤ sizeLine + 1; simp only [Array.size_append, List.size_toArray, List.length_nil]; omega))
  refine wpAny_pure ?_
  show wpAny (model P w) A (do
      let o ← load s.heap.objs.size
      match o.data with
      | .seq xs _ => pure xs.toList
      | _ => unsupported "internal:collect") Q E { s with heap := (s.heap.push (seqObj "list" #[] 0)).update s.heap.objs.size (Obj.mapSeq (· ++ vs.toArray)) }
  refine wpAny_bind (wpAny_load (get?_update_seq (Heap.get?_push_size _ rfl) _) ?_)
  show wpAny _ _ (pure ((#[] : Array Value) ++ vs.toArray).toList) Q E _
  rw [show ((#[] : Array Value) ++ vs.toArray).toList = vs by simp]
  exact wpAny_pure h
end
theorem perm_pull {α β : Type} {f : α → β} : ∀ {l m : List β}, l.Perm m → ∀ L : List α, m = L.map f → ∃ L1 : List α, L1.Perm L ∧ l = L1.map f := by
  intro l m h
  induction h with
  | nil => intro L e; exact ⟨[], by rw [List.map_eq_nil_iff.mp e.symm], rfl⟩
  | cons x _ ih =>
    intro L e
    cases L with
    | nil => cases e
    | cons y L =>
      rw [List.map_cons] at e
      injection e with e1 e2
      obtain ⟨L1, p, rfl⟩ := ih L e2
      exact ⟨y :: L1, p.cons y, by rw [List.map_cons, e1]⟩
  | swap x y l =>
    intro L e
    match L, e with
    | a :: b :: L, e =>
      rw [List.map_cons, List.map_cons] at e
      injection e with e1 e2
      injection e2 with e2 e3
      exact ⟨b :: a :: L, .swap a b L, by rw [List.map_cons, List.map_cons, e1, e2, e3]⟩
    | [_], e => simp at e
    | [], e => simp at e
  | trans _ _ ih1 ih2 =>
    intro L e
    obtain ⟨L1, p1, e1⟩ := ih2 L e
    obtain ⟨L2, p2, e2⟩ := ih1 L1 e1
    exact ⟨L2, p2.trans p1, e2⟩
section
variable {X : Cx}
/-- sorted(t), t a tuple of ints -/
def rSortTI (K : PySem.W.Frag) : List V → Hp → VK → Prop := fun vs H Q => ∃ (a : Addr) (ns : List Int), vs = [V.ref a] ∧ SqT K H a (ns.map V.int) ∧ ∀ (ns' : List Int) (p : Addr), ns'.Perm ns → ns'.Pairwise (· ≤ ·) → H p = none → Q (.ref p) (upd H p (.lst (ns'.map V.int)))
theorem each_int : ∀ {ns : List Int} {its : List Value}, Vals (ns.map V.int) its → EachIs (fun (v : Value) (n : Int) => RelV (.int n) v) its ns
  | [], _, .nil => .nil
  | _ :: _, _, .cons r t => .cons r (each_int t)
theorem int_vals : ∀ {ns : List Int} {its : List Value}, EachIs (fun (v : Value) (n : Int) => RelV (.int n) v) its ns → Vals (ns.map V.int) its
  | _, _, .nil => .nil
  | _, _, .cons r t => .cons r (int_vals t)
theorem cr_sortTI (hu : X.A.units + 64 < cLine) : CallR X (.builtin "sorted") (rSortTI X.K) := by
  intro pins s σ H vs us Q I r h
  obtain ⟨a, ns, rfl, ha, q⟩ := h
  obtain ⟨its, rv, hl, hz⟩ := I.tuple ha
  rw [Vals.ref1 r]
  have e1 := each_int rv
  have hz2 : its.length ≤ sizeLine := by rw [← rv.length]; exact hz
  refine sorted_by fun E' => collect_tup ⟨_, hl.choose_spec.1, hl.choose_spec.2.1, hl.choose_spec.2.2⟩ hz2 ⟨hz2, fun h' k => ?_⟩
  have er : EachIs (fun (v : Value) (b : Int) => ∃ as, Reads h' v (.int b) as) its ns := e1.mono fun v n hv => by
    obtain ⟨tk, rfl⟩ := hv
    exact ⟨_, .int n tk⟩
  have hal : AllAlike (ns.map PyData.int) := by
    intro d hd d' hd'
    obtain ⟨x, _, rfl⟩ := List.mem_map.mp hd
    obtain ⟨y, _, rfl⟩ := List.mem_map.mp hd'
    rfl
  refine ⟨dataKind h' (ns.map PyData.int), SortsAt.data (each_map (R := fun v d => ∃ as, Reads h' v d as) PyData.int er) hal (.inr fun d hd => ?_) (fun d hd => ?_), fun h2 c k2 hg => ?_⟩
  · obtain ⟨x, _, rfl⟩ := List.mem_map.mp hd
    exact ⟨(fun z => by cases z), (fun _ z => by cases z)⟩
  · obtain ⟨x, _, rfl⟩ := List.mem_map.mp hd
    show X.A.units + 2 + 0 < cLine
    omega
  · have e2 := sortVals_data (enc := PyData.int) false e1 er hal
    have hp := List.mergeSort_perm ns (PySem.W.dataLe false fun b : Int => PyData.int b)
    have hw := PySem.W.sort_pairwise int_total ns
    rw [le_int1] at hw hp e2
    have hsz : ((s.heap.push (seqObj "list" #[] 0)).update s.heap.objs.size (Obj.mapSeq (· ++ its.toArray))).objs.size = s.heap.objs.size + 1 := by rw [Heap.size_update, size_push']
    have kk : ∀ b o, s.heap.get? b = some o → h2.get? b = some o := fun b o e => by
      refine k2 b o ?_
      show ((s.heap.push (seqObj "list" #[] 0)).update s.heap.objs.size (Obj.mapSeq (· ++ its.toArray))).get? b = some o
      rw [Heap.get?_update_ne _ _ _ _ (Nat.ne_of_lt (Heap.lt_size e))]
      exact Heap.get?_push_of_some _ e
    have hf : s.heap.objs.size ≤ s.heap.objs.size + 1 := Nat.le_succ _
    rw [show ({ s with heap := (s.heap.push (seqObj "list" #[] 0)).update s.heap.objs.size (Obj.mapSeq (· ++ its.toArray)) } : Shared).heap.objs.size = s.heap.objs.size + 1 from hsz] at hg ⊢
    refine ⟨.ref (s.heap.objs.size + 1), upd H (s.heap.objs.size + 1) (.lst ((ns.mergeSort fun a b => decide (a ≤ b)).map V.int)), I.laid (t' := s.toks) kk hf ⟨?_, _, c, int_vals e2, hg⟩, rfl, q _ _ hp (hw.imp fun {a b} z => by simpa using z) (I.hok.fresh hf)⟩
    rw [List.length_map, hp.length_eq]
    have : (ns.map V.int).length ≤ sizeLine := hz
    rwa [List.length_map] at this
/-- sorted(s), s a set of int tuples -/
def rSortST (K : PySem.W.Frag) (P : Program) (w : World) : List V → Hp → VK → Prop := fun vs H Q => ∃ (a : Addr) (L : List (Addr × List Int)), vs = [V.ref a] ∧ H a = some (SetTO P w a L) ∧ (∀ p ∈ L, SqT K H p.1 (p.2.map V.int)) ∧ (∀ p ∈ L, Dp K H (.ref p.1) (.tuple (intsP p.2))) ∧
  ∀ (L' : List (Addr × List Int)) (p : Addr), L'.Perm L → (L'.map (·.2)).Nodup → H p = none → Q (.ref p) (upd H p (.lst (L'.map fun q => V.ref q.1)))
theorem tups_of {h : Heap} : ∀ {L : List (Addr × List Int)}, (∀ p ∈ L, ∃ as, Reads h (.ref p.1) (.tuple (intsP p.2)) as) → TupsAre h (L.map fun p => Value.ref p.1) (L.map (·.2))
  | [], _ => .nil
  | p :: L, k => .cons (k p (by simp)) (tups_of fun q hq => k q (by simp [hq]))
theorem cr_sortST (hc : X.calm = true) (hu : X.A.units + 64 < cLine) : CallR X (.builtin "sorted") (rSortST X.K X.prog X.w) := by
  intro pins s σ H vs us Q I r h
  obtain ⟨a, L, rfl, ha, hk, hD, q⟩ := h
  have R0 : SetT0 X.prog X.w s.heap a L := (I.hok a _ ha).1
  obtain ⟨es, ep, t, R⟩ := R0.full fun p hp => I.isT (hk p hp)
  rw [Vals.ref1 r]
  obtain ⟨o, ho, hex, hd⟩ := R.ob
  have hfew := R.few
  have hsz := R.size
  refine sorted_by fun E' => collect_set (I.ok.hd hc) ⟨o, ho, hex.1, hd⟩ R.fits (by unfold scanBound; omega) R.tab.ris R.led fun s1 vs k1 hz g1 o1 pm => ?_
  have hes : es.toList.map (·.2) = L.map fun q => Value.ref q.1 := by
    rw [R.rows]
    unfold L2.rowsOf
    rw [List.map_map] <;> rfl
  rw [hes] at pm
  obtain ⟨L1, p1, rfl⟩ := perm_pull pm L rfl
  have hl1 : L1.length < 64 := by rw [p1.length_eq]; exact hfew
  refine ⟨by rw [List.length_map, sizeLine_eq]; omega, fun h' k => ?_⟩
  have rd : ∀ p ∈ L1, ∃ as, Reads h' (.ref p.1) (.tuple (intsP p.2)) as := fun p hp => by
    obtain ⟨as, z⟩ := Dp.reads I _ _ _ (hD p (p1.mem_iff.mp hp)) rfl
    exact ⟨as, PyProof.Rows.Reads.keeps (fun b o e => k b o (k1 b o e)) z⟩
  refine ⟨_, sorts_tups (s := { s1 with heap := h' }) (tups_of rd) (by show X.A.units + 2 + 3 < cLine; omega), fun h2 c k2 hg => ?_⟩
  obtain ⟨L2, p2, e2⟩ := perm_pull (sortVals_perm _ _) L1 rfl
  rw [e2] at hg
  have kk : ∀ b o, s.heap.get? b = some o → h2.get? b = some o := fun b o e => k2 b o (k1 b o e)
  have hn : H s1.heap.objs.size = none := I.hok.fresh hz
  have hlen : (L2.map fun q => V.ref q.1).length ≤ sizeLine := by rw [List.length_map, p2.length_eq, sizeLine_eq]; omega
  obtain ⟨hp, g', d', tk, os'⟩ := s1
  have g1' : g' = s.gens := g1
  have o1' : os' = s.os := o1
  subst g1' o1'
  have J : Inv X pins σ (upd H hp.objs.size (.lst (L2.map fun q => V.ref q.1))) { s with heap := h2, drawn := d', toks := tk } :=
    I.call (ch := []) (Un.laid kk hz hn) (I.hok.laid kk hz ⟨hlen, _, c, vals_of_refs L2, hg⟩) I.bare (fun _ z => nomatch z)
  exact ⟨.ref hp.objs.size, _, J, rfl, q L2 _ (p2.trans p1) (((p2.trans p1).map (·.2)).nodup_iff.mpr R.nd) hn⟩
end
end DH

end

section
/-! DH: sorted(t), sorted(set(e)), e a list of tuples of ints. -/
namespace DH
open PySem PySem.Spec PyProof.Rows L2 PySem.W
section
variable {X : Cx} {ρ : Rho} {α : Sto} {R : RE} {e : Expr} {p p2 pos pos2 : Pos} {K : PySem.W.Frag}
theorem cd_sortTI {ns : List Int} (h : ∀ ns', List.Perm ns' ns → ns'.Pairwise (· ≤ ·) → R (.lst (ns'.map D.int)) α) : CD K (rSortTI K) [.tup (ns.map D.int)] α R := by
  intro A H xs s q Q c
  cases q with
  | cons q r =>
    cases r
    cases q with
    | tup n e rr =>
      rename_i a ys
      refine ⟨a, ns, rfl, ?_, fun ns' p h1 h2 hn => c.newL s hn (Das.ints ns') (h ns' h1 h2)⟩
      rw [← das_ints rr]
      exact .inl (.inl e)
theorem tups_ks {A : List Addr} {H : Hp} : ∀ {T : List (List Nat)} {ys : List V}, Das K A H ys (tabsD T) → ∃ ks : List (Addr × List Int), ys = ks.map (fun p => V.ref p.1) ∧ ks.map (·.2) = T.map cst ∧ ∀ p ∈ ks, SqT K H p.1 (p.2.map V.int) ∧ Da K A H (.ref p.1) (.tup (p.2.map D.int))
  | [], _, .nil => ⟨[], rfl, rfl, by simp⟩
  | t :: T, y :: ys, .cons q r => by
    obtain ⟨ks, e1, e2, h⟩ := tups_ks (T := T) r
    rw [tabD_eq] at q
    cases q with
    | tup n e rr =>
      rename_i a xs
      have ex := das_ints rr
      subst ex
      refine ⟨(a, cst t) :: ks, by rw [e1]; rfl, by rw [List.map_cons, e2]; rfl, fun p hp => ?_⟩
      rcases List.mem_cons.mp hp with rfl | hp
      · exact ⟨.inl (.inl e), .tup n e rr⟩
      · exact h p hp
theorem ks_tups {A : List Addr} {H : Hp} : ∀ {ks : List (Addr × List Int)}, (∀ p ∈ ks, ∃ t : List Nat, p.2 = cst t) → (∀ p ∈ ks, Da K A H (.ref p.1) (.tup (p.2.map D.int))) → ∃ T : List (List Nat), ks.map (·.2) = T.map cst ∧ Das K A H (ks.map fun p => V.ref p.1) (tabsD T)
  | [], _, _ => ⟨[], rfl, .nil⟩
  | p :: ks, h1, h2 => by
    obtain ⟨T, e, q⟩ := ks_tups (ks := ks) (fun x hx => h1 x (by simp [hx])) fun x hx => h2 x (by simp [hx])
    obtain ⟨t, ht⟩ := h1 p (by simp)
    have hp := h2 p (by simp)
    refine ⟨t :: T, by rw [List.map_cons, List.map_cons, e, ht], .cons ?_ q⟩
    rw [tabD_eq, ← ht]
    exact hp
/-- sorted(set(e)), e a list of tuples of ints -/
theorem de_sortSetT (hc : X.calm = true) (hu : X.A.units + 64 < cLine) (hm : X.mg "sorted" = none) (hm2 : X.mg "set" = none) (h : DE X e ρ α fun d α1 => ∃ T : List (List Nat), d = .lst (tabsD T) ∧ T.length < 64 ∧ ∀ T' : List (List Nat), T'.Nodup → (∀ t, t ∈ T' ↔ t ∈ T) → R (.lst (tabsD T')) α1)
    (hg : Gl X "sorted" := by rfl) (hg2 : Gl X "set" := by rfl) (hs : starEach [e] X.env = (false, eval e X.env) :: starEach [] X.env := by rfl)
    (hs2 : starEach [.Call (.Name "set" p2) [e] [] pos2] X.env = (false, eval (.Call (.Name "set" p2) [e] [] pos2) X.env) :: starEach [] X.env := by rfl) :
    DE X (.Call (.Name "sorted" p) [.Call (.Name "set" p2) [e] [] pos2] [] pos) ρ α R := by
  intro A σ H Q rep con
  refine wp_of (pe_callB (cr_sortST hc hu) hg hm boot_sorted (pa_cons (pe_callTy (cr_setOfT hc hu) hg2 hm2 boot_set (pa_cons pe_wp pa_nil hs) (by decide) (by decide) hs rfl) pa_nil hs2) (by decide) (by decide) hs2 rfl) (h A σ H _ rep fun v d B α1 H1 h1 g s q => ?_)
  obtain ⟨T, rfl, hz, h1⟩ := h1
  cases q with
  | lst n e rr =>
    rename_i a ys
    obtain ⟨ks, rfl, e2, hk⟩ := tups_ks rr
    have hkl : ks.length = T.length := by simpa using congrArg List.length e2
    refine ⟨a, ks, rfl, .inl (.inl e), fun p hp => (hk p hp).1, by omega, fun b L hb hL1 hL2 => ?_⟩
    have g2 : ∀ c u, H1 c = some u → upd H1 b (SetTO X.prog X.w b L) c = some u := gr_new hb
    have s2 : So X.K (A ++ B) (upd H1 b (SetTO X.prog X.w b L)) α1 := s.same g2
    have da2 : ∀ p ∈ L, Da X.K (A ++ B) (upd H1 b (SetTO X.prog X.w b L)) (.ref p.1) (.tup (p.2.map D.int)) := fun p hp => (hk p (hL1 p hp)).2.new hb
    refine ⟨b, L, rfl, upd_same, fun p hp => ?_, fun p hp => py_dp s2 (py_intsT (α := α1) _) (da2 p hp), fun L' p' hp' hnd hn => ?_⟩
    · have := da2 p hp
      cases this with
      | tup n e rr => rw [← das_ints rr]; exact .inl (.inl e)
    · obtain ⟨T', e3, q3⟩ := ks_tups (ks := L') (fun p hp => by
        have : p.2 ∈ ks.map (·.2) := List.mem_map.mpr ⟨p, hL1 p (hp'.mem_iff.mp hp), rfl⟩
        rw [e2] at this
        obtain ⟨t, _, ht⟩ := List.mem_map.mp this
        exact ⟨t, ht.symm⟩) fun p hp => da2 p (hp'.mem_iff.mp hp)
      have c2 := (con.step g s).step (B := []) (gr_same g2) (by rw [List.append_nil]; exact s2)
      rw [List.append_nil] at c2
      refine c2.newL s2 hn q3 (h1 T' ?_ fun t => ?_)
      · rw [e3] at hnd
        exact List.Pairwise.of_map cst (fun x y hne z => hne (congrArg cst z)) hnd
      · have m1 : t ∈ T' ↔ cst t ∈ T'.map cst := ⟨fun z => List.mem_map.mpr ⟨t, z, rfl⟩, fun z => by obtain ⟨t', h', z⟩ := List.mem_map.mp z; rwa [← cst_inj z]⟩
        have m2 : t ∈ T ↔ cst t ∈ T.map cst := ⟨fun z => List.mem_map.mpr ⟨t, z, rfl⟩, fun z => by obtain ⟨t', h', z⟩ := List.mem_map.mp z; rwa [← cst_inj z]⟩
        rw [m1, m2, ← e3, ← e2]
        constructor
        · intro z
          obtain ⟨p, hp, z⟩ := List.mem_map.mp z
          exact List.mem_map.mpr ⟨p, hL1 p (hp'.mem_iff.mp hp), z⟩
        · intro z
          obtain ⟨p, hp, z⟩ := List.mem_map.mp z
          have := hL2 p hp
          rw [z] at this
          obtain ⟨p2, hp2, z2⟩ := List.mem_map.mp this
          exact List.mem_map.mpr ⟨p2, hp'.mem_iff.mpr hp2, z2⟩
end
end DH

end
set_option maxHeartbeats 2000000
namespace KL
open PySem PySem.Spec PyProof.Rows L2 DH
local macro_rules | `(tactic| walk_at "dn") => `(tactic| first
  | (with_reducible refine g_nmx "int" ?_); refine de_bltn (v := .ty "int") rfl (Bl.int (by assumption)) boot_int rfl ?_
  | (with_reducible refine g_nmx "bool" ?_); refine de_bltn (v := .ty "bool") rfl (Bl.bool (by assumption)) boot_bool rfl ?_
  | (with_reducible refine g_nmx "list" ?_); refine de_bltn (v := .ty "list") rfl (Bl.list (by assumption)) boot_list rfl ?_
  | (with_reducible refine g_nmx "tuple" ?_); refine de_bltn (v := .ty "tuple") rfl (Bl.tuple (by assumption)) boot_tuple rfl ?_
  | (with_reducible refine g_nmx "GONE" ?_); refine de_gI rfl (Cn.gone (by assumption)) ?_
  | (with_reducible refine g_nmx "MOST_QUEUE" ?_); refine de_gI rfl (Cq.mq (by assumption)) ?_
  | (with_reducible refine g_nmx "MOST_COMMANDS" ?_); refine de_gI rfl (Cn.mc (by assumption)) ?_
  | refine de_nm rfl ?_)
local macro_rules | `(tactic| walk_at "dc") => `(tactic| first
  | (with_reducible refine g_isiT ?_); refine de_callB call_isiT rfl (Bl.isinstance (by assumption)) boot_isinstance ?_
  | (with_reducible refine g_callx "isinstance" ?_); refine de_callB call_isi rfl (Bl.isinstance (by assumption)) boot_isinstance ?_
  | (with_reducible refine g_callx "abs" ?_); refine de_callB call_abs rfl (Bl.abs (by assumption)) boot_abs ?_
  | (with_reducible refine g_callx "int" ?_); refine de_callTy call_int1 rfl (Bl.int (by assumption)) boot_int ?_
  | (with_reducible refine g_callx "len" ?_); refine de_callB call_len_seq rfl (Bl.len (by assumption)) boot_len ?_)
local macro_rules | `(tactic| walk_at "df") => `(tactic| first
  | (with_reducible refine g_fld "commands" ?_); refine de_fldO (MC.cls (by assumption)) (MC.com (by assumption)) ?_
  | (with_reducible refine g_fld "rows" ?_); refine de_fldO (MC.cls (by assumption)) (MC.rows (by assumption)) ?_)
local macro_rules | `(tactic| walk_at "d1") => `(tactic| first
  | (with_reducible refine g_nm ?_); walk_at "dn"
  | (with_reducible refine g_co ?_); first | refine de_int ?_ | refine de_non ?_ | refine de_bl ?_ | refine de_str ?_
  | (with_reducible refine g_da ?_); first | (with_reducible refine da_consN ?_) | (with_reducible refine da_consC ?_) | (with_reducible refine da_consT ?_) | (with_reducible refine da_consL ?_) | (with_reducible refine da_consS ?_) | (with_reducible refine da_consF ?_) | (with_reducible refine da_consB ?_) | (with_reducible refine da_consA ?_) | refine da_nil ?_ | refine da_cons ?_
  | (with_reducible refine g_bo ?_); first | refine de_one ?_ | refine de_and ?_ | refine de_or ?_
  | (with_reducible refine g_not ?_); refine de_not ?_
  | (with_reducible refine g_neg ?_); refine de_neg (i := 0) ?_
  | (with_reducible refine g_ite ?_); refine de_ite ?_
  | (with_reducible refine g_tnot ?_); refine dt_not ?_
  | (with_reducible refine g_tbo ?_); refine dt_w ?_
  | (with_reducible refine g_w ?_); first | refine dw_and1 ?_ | refine dw_or1 ?_ | refine dw_and ?_ | refine dw_or ?_
  | (with_reducible refine g_tcall ?_); refine dt_val ?_
  | (with_reducible refine g_tch .LtE .LtE ?_); refine dt_chain op_le op_le ?_
  | (with_reducible refine g_tch .LtE .Lt ?_); refine dt_chain op_le op_lt ?_
  | (with_reducible refine g_ch .LtE .LtE ?_); refine de_chain op_le op_le ?_
  | (with_reducible refine g_ch .LtE .Lt ?_); refine de_chain op_le op_lt ?_
  | (with_reducible refine g_tcmpx .Eq ?_); refine dt_cmp (op_eqD (Room.units (by assumption))) (nomark _) ?_
  | (with_reducible refine g_tcmpx .NotEq ?_); refine dt_cmp (op_neD (Room.units (by assumption))) (nomark _) ?_
  | (with_reducible refine g_cmpx .Eq ?_); refine de_cmp (op_eqD (Room.units (by assumption))) (nomark _) ?_
  | (with_reducible refine g_cmpx .NotEq ?_); refine de_cmp (op_neD (Room.units (by assumption))) (nomark _) ?_
  | (with_reducible refine g_tcmpx .Is ?_); refine dt_cmp op_isN (nomark _) ?_
  | (with_reducible refine g_tcmpx .IsNot ?_); refine dt_cmp op_notN (nomark _) ?_
  | (with_reducible refine g_tcmpx .Lt ?_); refine dt_cmp op_lt (nomark _) ?_
  | (with_reducible refine g_tcmpx .LtE ?_); refine dt_cmp op_le (nomark _) ?_
  | (with_reducible refine g_tcmpx .Gt ?_); refine dt_cmp op_gt (nomark _) ?_
  | (with_reducible refine g_tcmpx .GtE ?_); refine dt_cmp op_ge (nomark _) ?_
  | (with_reducible refine g_cmpx .Is ?_); refine de_cmp op_isN (nomark _) ?_
  | (with_reducible refine g_cmpx .IsNot ?_); refine de_cmp op_notN (nomark _) ?_
  | (with_reducible refine g_cmpx .Lt ?_); refine de_cmp op_lt (nomark _) ?_
  | (with_reducible refine g_cmpx .LtE ?_); refine de_cmp op_le (nomark _) ?_
  | (with_reducible refine g_cmpx .Gt ?_); refine de_cmp op_gt (nomark _) ?_
  | (with_reducible refine g_cmpx .GtE ?_); refine de_cmp op_ge (nomark _) ?_
  | (with_reducible refine g_binx .Sub ?_); refine de_op op_sub ?_
  | (with_reducible refine g_binx .Mod ?_); refine de_op op_mod ?_
  | (with_reducible refine g_binx .Mult ?_); refine de_op op_mul ?_
  | (with_reducible refine g_binx .FloorDiv ?_); refine de_op op_fdiv ?_
  | (with_reducible refine g_binx .Pow ?_); refine de_op op_pow ?_
  | (with_reducible refine g_sub ?_); refine de_ix ix_seq ?_
  | walk_at "dc"
  | walk_at "df"
  | (with_reducible refine g_rowT ?_); refine od_rowT (by assumption) (by first | assumption | omega) (fun _ _ _ _ => ?_)
  | (with_reducible refine g_rowL ?_); refine od_rowL (by assumption) (by first | assumption | omega) (fun _ _ _ _ => ?_)
  | (with_reducible refine g_ixo ?_); first | refine od_end' (by assumption) (by assumption) (by assumption) (by first | assumption | omega) (by first | assumption | omega) ?_ | refine od_rowR (by assumption) (by assumption) (by first | assumption | omega) (fun _ _ _ _ => ?_) | refine od_ix rfl rfl ?_
  | (with_reducible refine g_tup ?_); refine de_tup ?_
  | (with_reducible refine g_len ?_); refine len_and rfl ?_
  | (with_reducible refine od_ii ?_) | (with_reducible refine g_od ?_); first | refine od_mul ?_ | refine od_mod ?_ | refine od_fdv ?_
  | (with_reducible refine od_ib ?_) | (with_reducible refine od_eqI ?_) | (with_reducible refine od_neI ?_) | (with_reducible refine od_isN ?_) | (with_reducible refine od_notN ?_)
  | (with_reducible refine g_ift ?_); first | refine ifT rfl ?_ | refine ifF rfl ?_
  | (with_reducible refine g_ex ?_); first | refine ⟨_, rfl, ?_⟩ | refine ⟨_, _, _, rfl, rfl, ?_⟩)
local macro_rules | `(tactic| walk_at "go") => `(tactic| repeat walk_at "d1")
local macro_rules | `(tactic| walk_at "goI") => `(tactic| repeat (first | walk_at "d1" | (with_reducible refine g_binx .Add ?_); refine de_op op_add ?_ | refine cd_int ?_ | refine cd_abs ?_))
local macro_rules | `(tactic| walk_at "goL") => `(tactic| repeat (first | walk_at "d1" | (with_reducible refine g_lst2 ?_); refine de_lst ?_ | (with_reducible refine g_binx .Add ?_); refine de_op op_add ?_ | refine cd_int ?_ | refine cd_abs ?_))

def top (i : Nat) : Stmt := PySem.Challenge.pw_foursfold_k17_whole_one_folded_queue_and.main.body.getD i (.Pass ⟨0, 0, 0, 0⟩)

abbrev sIsInteger : Stmt := top 7
abbrev sIsSequence : Stmt := top 8
abbrev sIsEnd : Stmt := top 10
theorem scIsInteger : FnScope ["value"] ["value"] (defScope sIsInteger) := ⟨rfl, rfl, rfl, by decide +kernel, rfl, by decide +kernel, by decide +kernel⟩
theorem scIsSequence : FnScope ["value"] ["value"] (defScope sIsSequence) := ⟨rfl, rfl, rfl, by decide +kernel, rfl, by decide +kernel, by decide +kernel⟩
theorem scIsEnd : FnScope ["value", "many"] ["value", "many"] (defScope sIsEnd) := ⟨rfl, rfl, rfl, by decide +kernel, rfl, by decide +kernel, by decide +kernel⟩
section
variable {P : Program} {w : World} {K : PySem.W.Frag} {mg : Str → Option Value} {base : Heap} {f : Addr} {fd : FuncData}
def SIsInteger : FSpec := fun ds α R => ∃ i, ds = [.int i] ∧ R (.bl true) α
theorem fn_is_integer (F : Fun K "is_integer" "is_integer" sIsInteger f fd) (Z : Bl mg) : FnOk P w K mg base CX0 1 f fd ["value"] (SpD K SIsInteger) := by
  refine fn_def F scIsInteger (fun ds α R h => by obtain ⟨i, rfl, _⟩ := h; rfl) (fun cdv A outer s H E hr ds α R h hna hnd => ?_)
  obtain ⟨i, rfl, h⟩ := h
  refine dss_cons (ds_ret ?_)
  walk_at "go"
  refine cd_isi (t := "int") rfl (b := true) (by decide +kernel) ?_
  walk_at "go"
  refine cd_isi (t := "int") rfl (b := false) (by decide +kernel) ?_
  walk_at "go"
  exact h
def SIsNumber : FSpec := fun ds α R => ∃ i : Int, ds = [.int i] ∧ R (.bl (decide (0 ≤ i))) α
def SIsBelow : FSpec := fun ds α R => ∃ i j : Int, ds = [.int i, .int j] ∧ R (.bl (decide (0 ≤ i ∧ i < j))) α
def SIsSequence : FSpec := fun ds α R => ∃ d t, ds = [d] ∧ tyD α d = some t ∧ (t = "list" ∨ t = "tuple") ∧ R (.bl true) α
theorem fn_is_sequence (F : Fun K "is_sequence" "is_sequence" sIsSequence f fd) (Z : Bl mg) : FnOk P w K mg base CX0 1 f fd ["value"] (SpD K SIsSequence) := by
  refine fn_def F scIsSequence (fun ds α R h => by obtain ⟨i, t, rfl, _⟩ := h; rfl) (fun cdv A outer s H E hr ds α R h hna hnd => ?_)
  obtain ⟨d, t, rfl, ht, hl, h⟩ := h
  refine dss_cons (ds_ret ?_)
  walk_at "go"
  rcases hl with rfl | rfl
  · exact cd_isiT ht kit_seqL h
  · exact cd_isiT ht kit_seqT h
/-- None, or an int from -1 to below many -/
def SIsEnd : FSpec := fun ds α R => ∃ (x : Option Int) (j : Int), ds = [encE x, .int j] ∧ (∀ i, x = some i → -1 ≤ i ∧ i < j) ∧ R (.bl true) α
theorem fn_is_end (F : Fun K "is_end" "is_end" sIsEnd f fd) (Z : Bl mg) (N : Cn mg) (c : Fx P w K mg base 1 "is_integer" ["value"] SIsInteger) : FnOk P w K mg base CX0 2 f fd ["value", "many"] (SpD K SIsEnd) := by
  refine fn_def F scIsEnd (fun ds α R h => by obtain ⟨i, t, rfl, _⟩ := h; rfl) (fun cdv A outer s H E hr ds α R h hna hnd => ?_)
  obtain ⟨x, j, rfl, hx, h⟩ := h
  refine dss_cons (ds_ret ?_)
  cases x with
  | none =>
    walk_at "go"
    exact h
  | some i =>
    obtain ⟨h1, h2⟩ := hx i rfl
    walk_at "go"
    refine de_call c hr rfl ?_
    walk_at "go"
    refine ⟨i, rfl, true, rfl, ?_⟩
    refine de_one (de_chain op_le op_lt (de_gI rfl N.gone ?_))
    walk_at "go"
    refine iteB (fun hb => ?_) (fun hb => ?_)
    · walk_at "go"
      rw [decide_eq_true h2]
      exact h
    · simp at hb; omega
end

abbrev sCheckRows : Stmt := top 11
abbrev sEndsOf : Stmt := top 12
abbrev sUnsoundThree : Stmt := top 13
theorem scCheckRows : FnScope ["rows", "at", "row", "end"] ["rows"] (defScope sCheckRows) := ⟨rfl, rfl, rfl, by decide +kernel, rfl, by decide +kernel, by decide +kernel⟩
theorem scEndsOf : FnScope ["rows", "one", "middle", "other", "ahead", "behind", "left", "right"] ["rows", "one", "middle", "other"] (defScope sEndsOf) := ⟨rfl, rfl, rfl, by decide +kernel, rfl, by decide +kernel, by decide +kernel⟩
theorem scUnsoundThree : FnScope ["rows", "commands", "one", "middle", "other", "ends"] ["rows"] (defScope sUnsoundThree) := ⟨rfl, rfl, rfl, by decide +kernel, rfl, by decide +kernel, by decide +kernel⟩
section
variable {P : Program} {w : World} {K : PySem.W.Frag} {mg : Str → Option Value} {base : Heap} {f : Addr} {fd : FuncData}
def SCheckRows : FSpec := fun ds α R => ∃ m n, ds = [lstR m] ∧ Wf n m ∧ 1 ≤ n ∧ n ≤ 12 ∧ R (tupR m) α
theorem nas_encR (k : Nat) (r : List (Option Int)) : nas k (encR r) = true := nas_of fun x hx => by
  obtain ⟨y, _, rfl⟩ := List.mem_map.mp hx
  cases y <;> rfl
theorem fn_check_rows (F : Fun K "check_rows" "check_rows" sCheckRows f fd) (Z : Bl mg) (N : Cn mg) (c1 : Fx P w K mg base 2 "is_sequence" ["value"] SIsSequence) (c2 : Fx P w K mg base 2 "is_end" ["value", "many"] SIsEnd) : FnOk P w K mg base CX0 3 f fd ["rows"] (SpD K SCheckRows) := by
  refine fn_def F scCheckRows (fun ds α R h => by obtain ⟨i, t, rfl, _⟩ := h; rfl) (fun cdv A outer s H E hr ds α R h hna hnd => ?_)
  obtain ⟨m, n, rfl, hw, h1, h2, h⟩ := h
  have nd : (["rows", "at", "row", "end"] : List Str).Nodup := by decide +kernel
  have hl : (m.map fun r => D.lst (encR r)).length = n := by rw [List.length_map, hw.len]
  refine dss_cons (ds_if ?_)
  walk_at "go"
  refine de_call c1 hr rfl ?_
  walk_at "go"
  refine ⟨_, "list", rfl, rfl, .inl rfl, true, rfl, ?_⟩
  walk_at "go"
  refine cd_len rfl ?_
  walk_at "go"
  rw [hl]
  refine iteB (fun hb => ?_) (fun hb => by simp at hb; omega)
  walk_at "go"
  refine ifF (by simp; omega) (dss_nil ?_)
  refine dss_cons (ds_for PassesOwn.never rfl (di_enumL Z.enumerate ?_))
  walk_at "go"
  refine ⟨_, rfl, rfl, fun k ρ' α' => α' = α ∧ ∃ x y, ρ' = [some (lstR m), x, y, none], ⟨rfl, _, _, rfl⟩, ?_, ?_, ?_⟩
  · rintro k ρ' α' ⟨rfl, x, y, rfl⟩; rfl
  · rintro k y ρ' α' hy ⟨rfl, x1, x2, rfl⟩
    obtain ⟨d, hd, rfl⟩ := enD_get hy
    rw [List.getElem?_map] at hd
    cases hr1 : m[k]? with
    | none => rw [hr1] at hd; cases hd
    | some r =>
      rw [hr1] at hd; cases hd
      have hrm : r ∈ m := List.mem_of_getElem? hr1
      refine dg_tup rfl rfl (dgs_cons (dg_name 1 nd (dgs_cons (dg_name 2 nd (dgs_nil ?_)))))
      refine dss_cons (ds_if ?_)
      walk_at "go"
      refine de_call c1 hr rfl ?_
      walk_at "go"
      refine ⟨_, "list", rfl, rfl, .inl rfl, true, rfl, ?_⟩
      walk_at "go"
      refine cd_len (ds := encR r) rfl ?_
      walk_at "go"
      refine cd_len rfl ?_
      rw [hl, show (encR r).length = n by unfold encR; rw [List.length_map, hw.row r hrm]]
      walk_at "go"
      refine ifF (by simp) ?_
      walk_at "go"
      refine de_callB (cr_all rfl) rfl Z.all boot_all (da_cons ?_)
      refine de_lcG (own := [("end", 3)]) 3 rfl nd (blkOk_by (N := ["rows", "at", "row", "end"]) (sc := defScope sCheckRows) (by decide +kernel)) (by decide) (fun _ _ _ _ _ => pg_name (i := 3) nd rfl (Or.inl rfl)) (fun hna => LcG.pure ?_)
      refine di_list ?_
      walk_at "go"
      refine ⟨encR r, rfl, rfl, rfl, fun acc => rfl, ?_, (r.map fun _ => true).map D.bl, by simp [encR], ?_, Nat.le_refl _, hna, nas_of (fun x hx => by simp at hx; obtain ⟨_, _, rfl⟩ := hx; rfl), ?_⟩
      · show (encR r).length < _
        unfold encR; rw [List.length_map, hw.row r hrm]; omega
      · intro k y z acc hy hz s H C cl fp
        unfold encR at hy
        rw [List.getElem?_map] at hy
        cases hr2 : r[k]? with
        | none => rw [hr2] at hy; cases hy
        | some e =>
          rw [hr2] at hy; cases hy
          simp [hr2] at hz
          subst hz
          refine de_call c2 hr rfl ?_
          walk_at "go"
          refine cd_len rfl ?_
          walk_at "go"
          rw [hl]
          refine ⟨e, n, rfl, fun i hi => hw.ends r hrm e (List.mem_of_getElem? hr2) i hi, rfl, rfl⟩
      · walk_at "go"
        refine cd_all rfl rfl ⟨_, rfl, ?_⟩
        have : ((r.map fun _ => true).all id) = true := by simp
        rw [this]
        exact ifF rfl (dss_nil (dss_nil ⟨rfl, _, _, rfl⟩))
  · rintro ρ' α' ⟨rfl, x1, x2, rfl⟩
    refine dss_cons (ds_ret ?_)
    refine de_callTy call_tuple_of rfl Z.tuple boot_tuple (da_cons ?_)
    refine de_lcG (own := [("row", 2)]) 2 rfl nd (blkOk_by (N := ["rows", "at", "row", "end"]) (sc := defScope sCheckRows) (by decide +kernel)) (by decide) (fun _ _ _ _ _ => pg_name (i := 2) nd rfl (Or.inl rfl)) (fun hna => LcG.pure ?_)
    refine di_list ?_
    walk_at "go"
    refine ⟨_, rfl, rfl, rfl, fun acc => rfl, ?_, m.map fun r => D.tup (encR r), by simp, ?_, Nat.le_refl _, hna, nas_of (fun x hx => by simp at hx; obtain ⟨r, _, rfl⟩ := hx; simp only [D.na]; exact nas_encR _ _), ?_⟩
    · rw [hl]; omega
    · intro k y z acc hy hz s H C cl fp
      rw [List.getElem?_map] at hy hz
      cases hr2 : m[k]? with
      | none => rw [hr2] at hy; cases hy
      | some r =>
        rw [hr2] at hy hz; cases hy; cases hz
        refine de_callTy call_tuple_of rfl Z.tuple boot_tuple (da_cons ?_)
        walk_at "go"
        exact cd_tuple rfl ⟨rfl, rfl⟩
    · walk_at "go"
      exact cd_tuple rfl h
def endsD (m : Rows) (a b c : Nat) : D := match look m a b, look m b c with
  | some x, some y => .tup [encE (meetL m x c), encE (meetR m a y)]
  | _, _ => .non
def SEndsOf : FSpec := fun ds α R => ∃ m n, ∃ a b c : Nat, ds = [tupR m, .int a, .int b, .int c] ∧ Wf n m ∧ a < n ∧ b < n ∧ c < n ∧ R (endsD m a b c) α
theorem fn_ends_of (F : Fun K "ends_of" "ends_of" sEndsOf f fd) (Z : Bl mg) (N : Cn mg) : FnOk P w K mg base CX0 1 f fd ["rows", "one", "middle", "other"] (SpD K SEndsOf) := by
  refine fn_def F scEndsOf (fun ds α R h => by obtain ⟨m, n, a, b, c, rfl, _⟩ := h; rfl) (fun cdv A outer s H E hr ds α R h hna hnd => ?_)
  obtain ⟨m, n, a, b, c, rfl, hw, ha, hb, hc, h⟩ := h
  have nd : (["rows", "one", "middle", "other", "ahead", "behind", "left", "right"] : List Str).Nodup := by decide +kernel
  refine dss_cons (ds_par 4 5 rfl nd ?_)
  walk_at "go"
  refine ⟨_, _, rfl, ?_⟩
  refine dss_cons (ds_if ?_)
  unfold endsD at h
  cases e1 : look m a b with
  | none =>
    rw [e1] at h
    walk_at "go"
    exact dss_cons (ds_ret (de_non h))
  | some x =>
    cases e2 : look m b c with
    | none =>
      rw [e1, e2] at h
      walk_at "go"
      exact dss_cons (ds_ret (de_non h))
    | some y =>
      rw [e1, e2] at h
      walk_at "go"
      refine dss_nil ?_
      obtain ⟨x1, x2⟩ := hw.look ha hb e1
      obtain ⟨y1, y2⟩ := hw.look hb hc e2
      refine dss_cons (ds_set 6 nd (de_ite ?_))
      walk_at "go"
      have hL : ∀ d1, d1 = encE (meetL m x c) → DSs (bodyX P w K mg base ["rows", "one", "middle", "other", "ahead", "behind", "left", "right"] "ends_of" sEndsOf f cdv A outer s H E) α.length ((defBody sEndsOf).drop 3)
          [some (tupR m), some (.int a), some (.int b), some (.int c), some (.int x), some (.int y), some d1, none] α ⟨fun _ α' => R .non α', R, fun _ _ => False, fun _ _ => False⟩ := by
        rintro d1 rfl
        refine dss_cons (ds_set 7 nd (de_ite ?_))
        walk_at "go"
        have hR : ∀ d2, d2 = encE (meetR m a y) → DSs (bodyX P w K mg base ["rows", "one", "middle", "other", "ahead", "behind", "left", "right"] "ends_of" sEndsOf f cdv A outer s H E) α.length ((defBody sEndsOf).drop 4)
            [some (tupR m), some (.int a), some (.int b), some (.int c), some (.int x), some (.int y), some (encE (meetL m x c)), some d2] α ⟨fun _ α' => R .non α', R, fun _ _ => False, fun _ _ => False⟩ := by
          rintro d2 rfl
          refine dss_cons (ds_ret ?_)
          walk_at "go"
          exact h
        refine iteB (fun hy => ?_) (fun hy => ?_)
        · simp at hy; subst hy
          walk_at "go"
          exact hR _ rfl
        · simp at hy
          obtain ⟨k, rfl⟩ := nat_of y1 hy
          walk_at "go"
          refine hR _ ?_
          unfold meetR; rw [if_neg hy]; rfl
      refine iteB (fun hx => ?_) (fun hx => ?_)
      · simp at hx; subst hx
        walk_at "go"
        exact hL _ rfl
      · simp at hx
        obtain ⟨k, rfl⟩ := nat_of x1 hx
        walk_at "go"
        refine hL _ ?_
        unfold meetL; rw [if_neg hx]; rfl
def SUnsoundThree : FSpec := fun ds α R => ∃ m n, ds = [tupR m] ∧ Wf n m ∧ n ≤ 12 ∧ Sound n m ∧ R .non α
theorem ends_sound {n : Nat} {m : Rows} (hs : Sound n m) {a b c : Nat} (ha : a < n) (hb : b < n) (hc : c < n) : endsD m a b c = .non ∨ ∃ z, endsD m a b c = .tup [encE z, encE z] := by
  unfold endsD
  cases e1 : look m a b with
  | none => exact .inl rfl
  | some x =>
    cases e2 : look m b c with
    | none => exact .inl rfl
    | some y => exact .inr ⟨meetR m a y, by have := hs a b c ha hb hc x y e1 e2; simp [this]⟩
theorem rgD_ix {n k : Nat} {y : D} (h : (rgD 0 n)[k]? = some y) : k < n ∧ y = .int (k : Nat) := by
  have := rgD_get h
  exact ⟨this.1, by rw [this.2, Int.zero_add]⟩
theorem fn_unsound_three (F : Fun K "unsound_three" "unsound_three" sUnsoundThree f fd) (Z : Bl mg) (c1 : Fx P w K mg base 1 "ends_of" ["rows", "one", "middle", "other"] SEndsOf) : FnOk P w K mg base CX0 2 f fd ["rows"] (SpD K SUnsoundThree) := by
  refine fn_def F scUnsoundThree (fun ds α R h => by obtain ⟨m, n, rfl, _⟩ := h; rfl) (fun cdv A outer s H E hr ds α R h hna hnd => ?_)
  obtain ⟨m, n, rfl, hw, hn, hs, h⟩ := h
  have nd : (["rows", "commands", "one", "middle", "other", "ends"] : List Str).Nodup := by decide +kernel
  refine dss_cons (ds_set 1 nd (de_listRg rfl Z.list Z.range ?_))
  walk_at "go"
  refine cd_len rfl ⟨n, by rw [List.length_map, hw.len], by omega, ?_⟩
  let V : Nat → Rho → Sto → Prop := fun k ρ' α' => α' = α ∧ ∃ x1 x2 x3 x4, ρ' = [some (tupR m), some (.lst (rgD 0 n)), x1, x2, x3, x4]
  refine dss_cons (ds_for PassesOwn.never rfl (di_list ?_))
  walk_at "go"
  refine ⟨_, rfl, rfl, V, ⟨rfl, _, _, _, _, rfl⟩, fun _ _ _ _ => rfl, ?_, ?_⟩
  · rintro k y ρ' α' hy ⟨rfl, x1, x2, x3, x4, rfl⟩
    obtain ⟨ha, rfl⟩ := rgD_ix hy
    refine dg_name 2 nd ?_
    let V1 : Nat → Rho → Sto → Prop := fun _ ρ' α1 => α1 = α' ∧ ∃ x2 x3 x4, ρ' = [some (tupR m), some (.lst (rgD 0 n)), some (.int (k : Nat)), x2, x3, x4]
    refine dss_cons (ds_for PassesOwn.never rfl (di_list ?_))
    walk_at "go"
    refine ⟨_, rfl, rfl, V1, ⟨rfl, _, _, _, rfl⟩, fun _ _ _ _ => rfl, ?_, ?_⟩
    · rintro k2 y2 ρ2 α2 hy2 ⟨rfl, x2, x3, x4, rfl⟩
      obtain ⟨hb, rfl⟩ := rgD_ix hy2
      refine dg_name 3 nd ?_
      let V2 : Nat → Rho → Sto → Prop := fun _ ρ' α1 => α1 = α2 ∧ ∃ x3 x4, ρ' = [some (tupR m), some (.lst (rgD 0 n)), some (.int (k : Nat)), some (.int (k2 : Nat)), x3, x4]
      refine dss_cons (ds_for PassesOwn.never rfl (di_list ?_))
      walk_at "go"
      refine ⟨_, rfl, rfl, V2, ⟨rfl, _, _, rfl⟩, fun _ _ _ _ => rfl, ?_, ?_⟩
      · rintro k3 y3 ρ3 α3 hy3 ⟨rfl, x3, x4, rfl⟩
        obtain ⟨hc, rfl⟩ := rgD_ix hy3
        refine dg_name 4 nd ?_
        refine dss_cons (ds_set 5 nd (de_call c1 (hr.mono (by decide)) rfl ?_))
        walk_at "go"
        refine ⟨m, n, k, k2, k3, rfl, hw, ha, hb, hc, ?_⟩
        refine dss_cons (ds_if ?_)
        rcases ends_sound hs ha hb hc with e | ⟨z, e⟩
        · rw [e]
          walk_at "go"
          exact dss_nil (dss_nil ⟨rfl, _, _, rfl⟩)
        · rw [e]
          walk_at "go"
          refine od_neE ?_
          walk_at "go"
          refine ifF (by simp) ?_
          exact dss_nil (dss_nil ⟨rfl, _, _, rfl⟩)
      · rintro ρ3 α3 ⟨rfl, x3, x4, rfl⟩
        exact dss_nil ⟨rfl, _, _, _, rfl⟩
    · rintro ρ2 α2 ⟨rfl, x2, x3, x4, rfl⟩
      exact dss_nil ⟨rfl, _, _, _, _, rfl⟩
  · rintro ρ' α' ⟨rfl, x1, x2, x3, x4, rfl⟩
    exact dss_cons (ds_ret (de_non h))
end

def clsBody : Stmt → List Stmt
  | .ClassDef (body := b) .. => b
  | _ => []
abbrev sInit : Stmt := (clsBody (top 14)).getD 0 (.Pass ⟨0, 0, 0, 0⟩)
theorem scInit : FnScope ["self", "rows", "told", "three"] ["self", "rows"] (defScope sInit) := ⟨rfl, rfl, rfl, by decide +kernel, rfl, by decide +kernel, by decide +kernel⟩
section
variable {P : Program} {w : World} {K : PySem.W.Frag} {mg : Str → Option Value} {base : Heap} {f : Addr} {fd : FuncData} {C : Addr}
def SInit (C : Addr) : FSpec := fun ds α R => ∃ k m n, ds = [.acc k, lstR m] ∧ α[k]? = some (.o C [] []) ∧ Wf n m ∧ 1 ≤ n ∧ n ≤ 12 ∧ Sound n m ∧ R .non (α.set k (.o C ["commands", "rows"] [.int (n : Nat), tupR m]))
theorem fn_init (F : Fun K "__init__" "Merger.__init__" sInit f fd) (Z : Bl mg) (M : MC K C) (c1 : Fx P w K mg base 3 "check_rows" ["rows"] SCheckRows) (c2 : Fx P w K mg base 3 "unsound_three" ["rows"] SUnsoundThree) : FnOk P w K mg base CX0 4 f fd ["self", "rows"] (SpD K (SInit C)) := by
  refine fn_def F scInit (fun ds α R h => by obtain ⟨k, m, n, rfl, _⟩ := h; rfl) (fun cdv A outer s H E hr ds α R h hna hnd => ?_)
  obtain ⟨k, m, n, rfl, hk, hw, h1, h2, hs, h⟩ := h
  have nd : (["self", "rows", "told", "three"] : List Str).Nodup := by decide +kernel
  have hkl : k < α.length := (List.getElem?_eq_some_iff.mp hk).1
  refine dss_cons (ds_set 2 nd (de_call c1 hr rfl ?_))
  walk_at "go"
  refine ⟨m, n, rfl, hw, h1, h2, ?_⟩
  refine dss_cons (ds_set 3 nd (de_call c2 hr rfl ?_))
  walk_at "go"
  refine ⟨m, n, rfl, hw, h2, hs, ?_⟩
  refine dss_cons (ds_if ?_)
  walk_at "go"
  refine dss_nil ?_
  refine dss_cons (ds_fld ?_)
  walk_at "go"
  refine cd_len (ds := m.map fun r => .tup (encR r)) rfl ?_
  rw [List.length_map, hw.len]
  walk_at "go"
  refine ⟨k, C, [], [], rfl, hk, M.cls, M.com, by decide, ?_⟩
  refine dss_cons (ds_fld ?_)
  walk_at "go"
  refine ⟨k, C, ["commands"], [.int (n : Nat)], rfl, ?_, M.cls, M.rows, by decide, ?_⟩
  · simp [hkl]; exact ⟨rfl, rfl⟩
  · refine dss_nil ?_
    rw [List.set_set]
    exact h
def SCheckQueue (C : Addr) : FSpec := fun ds α R => ∃ m n q d, ds = [mgD C n m, d] ∧ (d = .lst (intsD q) ∨ d = .tup (intsD q)) ∧ q.length ≤ 10000 ∧ (∀ x ∈ q, x < n) ∧ R (.tup (intsD q)) α
end

section
variable {P : Program} {w : World} {K : PySem.W.Frag} {mg : Str → Option Value} {base : Heap} {f : Addr} {fd : FuncData} {C fI : Addr} {fdI : FuncData}
open FM
/-- a merger made -/
theorem de_merger {X : Cx} {ρ : Rho} {α : Sto} {R : RE} {e : Expr} {p pos : Pos} (M : Mk X.K C fI) (F : FnOk X.prog X.w X.K X.mg X.base CX0 4 fI fdI ["self", "rows"] (SpD X.K (SInit C))) (hr : Room 5 X.A) (hm : X.mg "Merger" = some (.ref C)) (hb : Binds X.K fdI ["self", "rows"] [])
    (h : DE X e ρ α fun d α1 => ∃ m n, d = lstR m ∧ Wf n m ∧ 1 ≤ n ∧ n ≤ 12 ∧ Sound n m ∧ α1 = α ∧ R (mgD C n m) α) (hg : Gl X "Merger" := by rfl) (he : starEach (e :: []) X.env = (false, eval e X.env) :: starEach [] X.env := by rfl) :
    DE X (.Call (.Name "Merger" p) [e] [] pos) ρ α R := by
  refine de_na fun hna _ => de_seal (de_make M F hr hm hb (da_cons (h.imp fun d α1 h1 => ?_) he) hg (by decide) he rfl)
  obtain ⟨m, n, rfl, hw, h1, h2, hs, rfl, hR⟩ := h1
  refine da_nil ⟨α1.length, m, n, rfl, by simp, hw, h1, h2, hs, ?_, rfl⟩
  have e1 : (α1 ++ [Cl.o C [] []]).set α1.length (.o C ["commands", "rows"] [.int (n : Nat), tupR m]) = α1 ++ [.o C ["commands", "rows"] [.int (n : Nat), tupR m]] := by simp
  rw [e1]
  exact ⟨α1, _, mgD C n m, rfl, Nat.le_refl _, hna, .highO (Nat.le_refl _) (by simp) (Seals.of (by simp [nas, D.na, na_tupR])), hR⟩
end

abbrev sHandTriples : Stmt := top 19
abbrev sIsHand : Stmt := top 20
abbrev sKindOfFour : Stmt := top 21
theorem scHandTriples : FnScope ["merger", "rows", "found", "one", "two", "first", "three", "second"] ["merger"] (defScope sHandTriples) := ⟨rfl, rfl, rfl, by decide +kernel, rfl, by decide +kernel, by decide +kernel⟩
theorem scIsHand : FnScope ["rows", "one", "two", "three", "first", "second"] ["rows", "one", "two", "three"] (defScope sIsHand) := ⟨rfl, rfl, rfl, by decide +kernel, rfl, by decide +kernel, by decide +kernel⟩
theorem scKindOfFour : FnScope ["rows", "four", "one", "two", "three", "last"] ["rows", "four"] (defScope sKindOfFour) := ⟨rfl, rfl, rfl, by decide +kernel, rfl, by decide +kernel, by decide +kernel⟩
structure Cs (mg : Str → Option Value) : Prop where
  mid : ∃ t, mg "MIDDLE" = some (.str "middle" t)
  lef : ∃ t, mg "LEFT" = some (.str "left" t)
  rig : ∃ t, mg "RIGHT" = some (.str "right" t)
section
variable {P : Program} {w : World} {K : PySem.W.Frag} {mg : Str → Option Value} {base : Heap} {f : Addr} {fd : FuncData} {C : Addr}
def SIsHand : FSpec := fun ds α R => ∃ m n, ∃ a b c : Nat, ds = [tupR m, .int a, .int b, .int c] ∧ Wf n m ∧ a < n ∧ b < n ∧ c < n ∧ R (.bl (handB m a b c)) α
theorem fn_is_hand (F : Fun K "is_hand" "is_hand" sIsHand f fd) (Z : Bl mg) : FnOk P w K mg base CX0 1 f fd ["rows", "one", "two", "three"] (SpD K SIsHand) := by
  refine fn_def F scIsHand (fun ds α R h => by obtain ⟨m, n, a, b, c, rfl, _⟩ := h; rfl) (fun cdv A outer sh H E hr ds α R h hna hnd => ?_)
  obtain ⟨m, n, a, b, c, rfl, hw, ha, hb, hc, h⟩ := h
  have nd : (["rows", "one", "two", "three", "first", "second"] : List Str).Nodup := by decide +kernel
  refine dss_cons (ds_par 4 5 rfl nd ?_)
  walk_at "go"
  refine ⟨_, _, rfl, ?_⟩
  refine dss_cons (ds_if ?_)
  unfold handB at h
  cases e1 : look m a b with
  | none =>
    rw [e1] at h
    walk_at "go"
    exact dss_cons (ds_ret (de_bl h))
  | some x =>
    cases e2 : look m b c with
    | none =>
      rw [e1, e2] at h
      walk_at "go"
      exact dss_cons (ds_ret (de_bl h))
    | some y =>
      rw [e1, e2] at h
      replace h : R (.bl (decide (0 ≤ x) && decide (0 ≤ y) && (look m x.toNat c).isNone)) α := h
      obtain ⟨x1, x2⟩ := hw.look ha hb e1
      obtain ⟨y1, y2⟩ := hw.look hb hc e2
      walk_at "go"
      by_cases hx : x < 0
      · refine ifT (by simp [hx]) ?_
        rw [show decide (0 ≤ x) = false by simp; omega] at h
        walk_at "go"
        exact dss_cons (ds_ret (de_bl h))
      · obtain ⟨i, rfl⟩ := nat_of x1 (by omega)
        refine ifF (by simp) ?_
        walk_at "go"
        by_cases hy : y < 0
        · refine ifT (by simp [hy]) ?_
          rw [show decide (0 ≤ y) = false by simp; omega] at h
          refine dss_cons (ds_ret (de_bl ?_))
          simpa using h
        · refine ifF (by simp; omega) (dss_nil ?_)
          refine dss_cons (ds_ret ?_)
          walk_at "go"
          have hy' : 0 ≤ y := by omega
          simp [hy'] at h
          rw [isNon_enc]
          exact h
def kindD : Option Str → D
  | none => .non
  | some x => .str x
def SKindOfFour : FSpec := fun ds α R => ∃ m n, ∃ a b c d : Nat, ds = [tupR m, .tup [.int a, .int b, .int c, .int d]] ∧ Wf n m ∧ a < n ∧ b < n ∧ c < n ∧ d < n ∧ R (kindD (DH.kindOf m a b c d)) α
theorem fn_kind_of_four (F : Fun K "kind_of_four" "kind_of_four" sKindOfFour f fd) (Z : Bl mg) (S : Cs mg) (c1 : Fx P w K mg base 1 "is_hand" ["rows", "one", "two", "three"] SIsHand) : FnOk P w K mg base CX0 2 f fd ["rows", "four"] (SpD K SKindOfFour) := by
  refine fn_def F scKindOfFour (fun ds α R h => by obtain ⟨m, n, a, b, c, d, rfl, _⟩ := h; rfl) (fun cdv A outer sh H E hr ds α R h hna hnd => ?_)
  obtain ⟨m, n, a, b, c, d, rfl, hw, ha, hb, hc, hd, h⟩ := h
  have nd : (["rows", "four", "one", "two", "three", "last"] : List Str).Nodup := by decide +kernel
  refine dss_cons (ds_asg ?_)
  walk_at "go"
  refine dg_tup rfl rfl (dgs_cons (dg_name 2 nd (dgs_cons (dg_name 3 nd (dgs_cons (dg_name 4 nd (dgs_cons (dg_name 5 nd (dgs_nil ?_)))))))))
  let ρ0 : Rho := [some (tupR m), some (.tup [.int a, .int b, .int c, .int d]), some (.int a), some (.int b), some (.int c), some (.int d)]
  have hand1 : ∀ (R : RE) {p q p1 p2 p3 p4}, R (.bl (handB m a b c)) α → DE (bodyX P w K mg base ["rows", "four", "one", "two", "three", "last"] "kind_of_four" sKindOfFour f cdv A outer sh H E) (.Call (.Name "is_hand" p) [.Name "rows" p1, .Name "one" p2, .Name "two" p3, .Name "three" p4] [] q) ρ0 α R := by
    intro R p q p1 p2 p3 p4 hR
    refine de_call c1 hr rfl ?_
    walk_at "go"
    exact ⟨m, n, a, b, c, rfl, hw, ha, hb, hc, hR⟩
  have hand2 : ∀ (R : RE) {p q p1 p2 p3 p4}, R (.bl (handB m b c d)) α → DE (bodyX P w K mg base ["rows", "four", "one", "two", "three", "last"] "kind_of_four" sKindOfFour f cdv A outer sh H E) (.Call (.Name "is_hand" p) [.Name "rows" p1, .Name "two" p2, .Name "three" p3, .Name "last" p4] [] q) ρ0 α R := by
    intro R p q p1 p2 p3 p4 hR
    refine de_call c1 hr rfl ?_
    walk_at "go"
    exact ⟨m, n, b, c, d, rfl, hw, hb, hc, hd, hR⟩
  refine dss_cons (ds_if ?_)
  refine dt_w (dw_and (dt_val (hand1 _ ⟨_, rfl, ?_⟩)))
  unfold DH.kindOf at h
  -- behind the first if
  have L : (handB m a b c && handB m b c d) = false → DSs (bodyX P w K mg base ["rows", "four", "one", "two", "three", "last"] "kind_of_four" sKindOfFour f cdv A outer sh H E) α.length ((defBody sKindOfFour).drop 2) ρ0 α ⟨fun _ α' => R .non α', R, fun _ _ => False, fun _ _ => False⟩ := by
    intro hM
    rw [hM, if_neg Bool.false_ne_true] at h
    have Rr : (handB m b c d && (look m a b).isNone && !(look m a (mk m b c)).isNone) = false → DSs (bodyX P w K mg base ["rows", "four", "one", "two", "three", "last"] "kind_of_four" sKindOfFour f cdv A outer sh H E) α.length ((defBody sKindOfFour).drop 3) ρ0 α ⟨fun _ α' => R .non α', R, fun _ _ => False, fun _ _ => False⟩ := by
      intro hL
      rw [hL, if_neg Bool.false_ne_true] at h
      have fin : (handB m a b c && (look m c d).isNone && !(look m (mk m b c) d).isNone) = false → DSs (bodyX P w K mg base ["rows", "four", "one", "two", "three", "last"] "kind_of_four" sKindOfFour f cdv A outer sh H E) α.length ((defBody sKindOfFour).drop 4) ρ0 α ⟨fun _ α' => R .non α', R, fun _ _ => False, fun _ _ => False⟩ := by
        intro hR
        rw [hR, if_neg Bool.false_ne_true] at h
        exact dss_cons (ds_ret (de_non h))
      refine dss_cons (ds_if ?_)
      refine dt_w (dw_and (dt_val (hand1 _ ⟨_, rfl, ?_⟩)))
      refine iteB (fun h1 => ?_) (fun h1 => dss_nil (fin (by rw [h1]; rfl)))
      obtain ⟨x, y, e1, e2, e3⟩ := handB_two h1
      have hy : y < n := by have := (hw.look hb hc e2).2; omega
      have ey : mk m b c = y := by unfold mk; rw [e2]; simp
      walk_at "go"
      rw [isNon_enc]
      refine iteB (fun h2 => ?_) (fun h2 => dss_nil (fin (by rw [h2, Bool.and_false, Bool.false_and])))
      walk_at "go"
      rw [e2]
      walk_at "go"
      rw [isNon_enc]
      refine iteB (fun h3 => ?_) (fun h3 => dss_nil (fin (by rw [ey, h3, Bool.and_false])))
      rw [h1, h2, ey, h3] at h
      exact dss_cons (ds_ret (de_gS rfl S.rig h))
    refine dss_cons (ds_if ?_)
    refine dt_w (dw_and (dt_val (hand2 _ ⟨_, rfl, ?_⟩)))
    refine iteB (fun h1 => ?_) (fun h1 => dss_nil (Rr (by rw [h1]; rfl)))
    obtain ⟨x, y, e1, e2, e3⟩ := handB_two h1
    have hx : x < n := by have := (hw.look hb hc e1).2; omega
    have ex : mk m b c = x := by unfold mk; rw [e1]; simp
    walk_at "go"
    rw [isNon_enc]
    refine iteB (fun h2 => ?_) (fun h2 => dss_nil (Rr (by rw [h2, Bool.and_false, Bool.false_and])))
    walk_at "go"
    rw [e1]
    walk_at "go"
    rw [isNon_enc]
    refine iteB (fun h3 => ?_) (fun h3 => dss_nil (Rr (by rw [ex, h3, Bool.and_false])))
    rw [h1, h2, ex, h3] at h
    exact dss_cons (ds_ret (de_gS rfl S.lef h))
  refine iteB (fun h1 => ?_) (fun h1 => dss_nil (L (by rw [h1]; rfl)))
  refine dw_and1 (dt_val (hand2 _ ⟨_, rfl, ?_⟩))
  refine iteB (fun h2 => ?_) (fun h2 => dss_nil (L (by rw [h2, Bool.and_false])))
  rw [h1, h2] at h
  exact dss_cons (ds_ret (de_gS rfl S.mid h))
def L3 (m : Rows) (a b k : Nat) : List (Nat × Nat × Nat) := (List.range k).filterMap fun c => if handB m a b c then some (a, b, c) else none
def L2' (m : Rows) (n a k : Nat) : List (Nat × Nat × Nat) := (List.range k).flatMap fun b => L3 m a b n
def L1 (m : Rows) (n k : Nat) : List (Nat × Nat × Nat) := (List.range k).flatMap fun a => L2' m n a n
def triD (x : Nat × Nat × Nat) : D := .tup [.int (x.1 : Nat), .int (x.2.1 : Nat), .int (x.2.2 : Nat)]
theorem L3_succ {m : Rows} {a b k : Nat} : L3 m a b (k + 1) = L3 m a b k ++ (if handB m a b k then [(a, b, k)] else []) := by
  unfold L3
  rw [List.range_succ, List.filterMap_append]
  cases h : handB m a b k <;> simp [h]
theorem L2_succ {m : Rows} {n a k : Nat} : L2' m n a (k + 1) = L2' m n a k ++ L3 m a k n := by
  unfold L2'
  rw [List.range_succ, List.flatMap_append]
  simp
theorem L1_succ {m : Rows} {n k : Nat} : L1 m n (k + 1) = L1 m n k ++ L2' m n k n := by
  unfold L1
  rw [List.range_succ, List.flatMap_append]
  simp
theorem L3_none {m : Rows} {a b : Nat} (h : ∀ c, handB m a b c = false) : ∀ k, L3 m a b k = []
  | 0 => rfl
  | k + 1 => by rw [L3_succ, L3_none h k, h k]; rfl
theorem L3_len {m : Rows} {a b : Nat} : ∀ k, (L3 m a b k).length ≤ k
  | 0 => Nat.le_refl _
  | k + 1 => by
    rw [L3_succ, List.length_append]
    have := L3_len (m := m) (a := a) (b := b) k
    cases handB m a b k <;> simp <;> omega
theorem L2_len {m : Rows} {n a : Nat} : ∀ k, (L2' m n a k).length ≤ k * n
  | 0 => by simp [L2']
  | k + 1 => by
    rw [L2_succ, List.length_append, Nat.succ_mul]
    have := L2_len (m := m) (n := n) (a := a) k
    have := L3_len (m := m) (a := a) (b := k) n
    omega
theorem L1_len {m : Rows} {n : Nat} : ∀ k, (L1 m n k).length ≤ k * (n * n)
  | 0 => by simp [L1]
  | k + 1 => by
    rw [L1_succ, List.length_append, Nat.succ_mul]
    have := L1_len (m := m) (n := n) k
    have := L2_len (m := m) (n := n) (a := k) n
    omega
theorem mem_L1 {m : Rows} {n a b c : Nat} : (a, b, c) ∈ L1 m n n ↔ a < n ∧ b < n ∧ c < n ∧ handB m a b c = true := by
  unfold L1 L2' L3
  simp only [List.mem_flatMap, List.mem_range, List.mem_filterMap]
  constructor
  · rintro ⟨x, hx, y, hy, z, hz, h⟩
    cases hh : handB m x y z with
    | false => rw [hh] at h; simp at h
    | true =>
      rw [hh] at h; simp at h
      obtain ⟨rfl, rfl, rfl⟩ := h
      exact ⟨hx, hy, hz, hh⟩
  · rintro ⟨ha, hb, hc, h⟩
    exact ⟨a, ha, b, hb, c, hc, by rw [h]; rfl⟩
theorem nas_tri (k : Nat) (L : List (Nat × Nat × Nat)) : nas k (L.map triD) = true := nas_of fun x hx => by
  obtain ⟨y, _, rfl⟩ := List.mem_map.mp hx
  rfl
def SHandTriples (C : Addr) : FSpec := fun ds α R => ∃ m n, ds = [mgD C n m] ∧ Wf n m ∧ n ≤ 12 ∧ R (.tup ((L1 m n n).map triD)) α
theorem fn_hand_triples (F : Fun K "hand_triples" "hand_triples" sHandTriples f fd) (Z : Bl mg) (M : MC K C) : FnOk P w K mg base CX0 1 f fd ["merger"] (SpD K (SHandTriples C)) := by
  refine fn_def F scHandTriples (fun ds α R h => by obtain ⟨m, n, rfl, _⟩ := h; rfl) (fun cdv A outer sh H E hr ds α R h hna hnd => ?_)
  obtain ⟨m, n, rfl, hw, hn, h⟩ := h
  have nd : (["merger", "rows", "found", "one", "two", "first", "three", "second"] : List Str).Nodup := by decide +kernel
  have hb1 : ∀ k k2 k3, k ≤ n → k2 ≤ n → k3 ≤ n → (L1 m n k ++ L2' m n k k2 ++ L3 m k k2 k3).length < 1000000 := fun k k2 k3 h1 h2 h3 => by
    have a1 := L1_len (m := m) (n := n) k
    have a2 := L2_len (m := m) (n := n) (a := k) k2
    have a3 := L3_len (m := m) (a := k) (b := k2) k3
    have b0 : n * n ≤ 12 * 12 := Nat.mul_le_mul hn hn
    have b1 : k * (n * n) ≤ 12 * (12 * 12) := Nat.mul_le_mul (by omega) b0
    have b2 : k2 * n ≤ 12 * 12 := Nat.mul_le_mul (by omega) hn
    simp only [List.length_append]
    omega
  refine dss_cons (ds_set 1 nd ?_)
  walk_at "go"
  refine dss_cons (ds_set 2 nd (de_cell ?_))
  walk_at "go"
  refine dss_cons (ds_for PassesOwn.never rfl (di_range1 Z.range ?_))
  walk_at "go"
  refine ⟨by omega, by omega, fun k ρ' α' => ∃ x1 x2 x3 x4 x5, α' = α ++ [.l ((L1 m n k).map triD)] ∧ ρ' = [some (mgD C n m), some (tupR m), some (.acc α.length), x1, x2, x3, x4, x5], ⟨_, _, _, _, _, rfl, rfl⟩, fun _ _ _ _ => trivial, ?_, ?_⟩
  · rintro k y ρ' α' hy ⟨x1, x2, x3, x4, x5, rfl, rfl⟩
    obtain ⟨hk, rfl⟩ := rgD_ix hy
    have hk' : k < n := by simpa using hk
    refine dg_name 3 nd ?_
    refine dss_cons (ds_for PassesOwn.never rfl (di_range1 Z.range ?_))
    walk_at "go"
    refine ⟨by omega, by omega, fun k2 ρ' α' => ∃ x2 x3 x4 x5, α' = α ++ [.l ((L1 m n k ++ L2' m n k k2).map triD)] ∧ ρ' = [some (mgD C n m), some (tupR m), some (.acc α.length), some (.int (k : Nat)), x2, x3, x4, x5], ⟨_, _, _, _, by simp [L2'], rfl⟩, fun _ _ _ _ => trivial, ?_, ?_⟩
    · rintro k2 y2 ρ' α' hy2 ⟨x2, x3, x4, x5, rfl, rfl⟩
      obtain ⟨hk2, rfl⟩ := rgD_ix hy2
      have hk2' : k2 < n := by simpa using hk2
      refine dg_name 4 nd ?_
      refine dss_cons (ds_set 5 nd ?_)
      walk_at "go"
      refine dss_cons (ds_if ?_)
      have none_ : (∀ c, handB m k k2 c = false) → L2' m n k (k2 + 1) = L2' m n k k2 := fun hh => by rw [L2_succ, L3_none hh, List.append_nil]
      cases e1 : look m k k2 with
      | none =>
        walk_at "go"
        refine dss_cons (ds_continue ⟨_, _, _, _, ?_, rfl⟩)
        rw [none_ fun c => by unfold handB; rw [e1]]
      | some x =>
        obtain ⟨u1, u2⟩ := hw.look hk' hk2' e1
        walk_at "go"
        by_cases hx : x < 0
        · refine ifT (by simp [hx]) (dss_cons (ds_continue ⟨_, _, _, _, ?_, rfl⟩))
          rw [none_ fun c => by unfold handB; rw [e1]; cases look m k2 c <;> simp; omega]
        · obtain ⟨i, rfl⟩ := nat_of u1 (by omega)
          have hi : i < n := by omega
          refine ifF (by simp) (dss_nil ?_)
          refine dss_cons (ds_for PassesOwn.never rfl (di_range1 Z.range ?_))
          walk_at "go"
          refine ⟨by omega, by omega, fun k3 ρ' α' => ∃ x4 x5, α' = α ++ [.l ((L1 m n k ++ L2' m n k k2 ++ L3 m k k2 k3).map triD)] ∧ ρ' = [some (mgD C n m), some (tupR m), some (.acc α.length), some (.int (k : Nat)), some (.int (k2 : Nat)), some (.int (i : Nat)), x4, x5], ⟨_, _, by simp [L3], rfl⟩, fun _ _ _ _ => trivial, ?_, ?_⟩
          · rintro k3 y3 ρ' α' hy3 ⟨x4, x5, rfl, rfl⟩
            obtain ⟨hk3, rfl⟩ := rgD_ix hy3
            have hk3' : k3 < n := by simpa using hk3
            refine dg_name 6 nd ?_
            refine dss_cons (ds_set 7 nd ?_)
            walk_at "go"
            refine dss_cons (ds_if ?_)
            have skip : ∀ d : D, handB m k k2 k3 = false → ∃ x4 x5, (α ++ [Cl.l ((L1 m n k ++ L2' m n k k2 ++ L3 m k k2 k3).map triD)]) = α ++ [.l ((L1 m n k ++ L2' m n k k2 ++ L3 m k k2 (k3 + 1)).map triD)] ∧ [some (mgD C n m), some (tupR m), some (.acc α.length), some (.int (k : Nat)), some (.int (k2 : Nat)), some (.int (i : Nat)), some (.int (k3 : Nat)), some d] = [some (mgD C n m), some (tupR m), some (.acc α.length), some (.int (k : Nat)), some (.int (k2 : Nat)), some (.int (i : Nat)), x4, x5] := fun d hh => ⟨_, _, by rw [L3_succ, hh]; simp, rfl⟩
            cases e2 : look m k2 k3 with
            | none =>
              have hh : handB m k k2 k3 = false := by unfold handB; rw [e1, e2]
              walk_at "go"
              exact dss_nil (dss_nil (skip _ hh))
            | some y =>
              obtain ⟨v1, v2⟩ := hw.look hk2' hk3' e2
              walk_at "go"
              by_cases hy : y < 0
              · have hh : handB m k k2 k3 = false := by unfold handB; rw [e1, e2]; simp; omega
                refine ifF (by simp; omega) (dss_nil (dss_nil (skip _ hh)))
              · obtain ⟨j, rfl⟩ := nat_of v1 (by omega)
                refine ifT (by simp) ?_
                walk_at "go"
                rw [isNon_enc]
                refine iteB (fun h3 => ?_) (fun h3 => dss_nil (dss_nil (skip _ ?_)))
                · have hh : handB m k k2 k3 = true := handB_of e1 e2 (Option.isNone_iff_eq_none.mp h3)
                  refine dss_cons (ds_append ?_)
                  walk_at "go"
                  refine ⟨(L1 m n k ++ L2' m n k k2 ++ L3 m k k2 k3).map triD, by simp, ?_⟩
                  walk_at "go"
                  refine ⟨(L1 m n k ++ L2' m n k k2 ++ L3 m k k2 k3).map triD, by simp, ?_, ?_⟩
                  · rw [List.length_map]; exact hb1 _ _ _ (by omega) (by omega) (by omega)
                  · refine dss_nil (dss_nil ⟨_, _, ?_, rfl⟩)
                    rw [L3_succ, hh]
                    simp [triD]
                · unfold handB; rw [e1, e2]
                  simp [h3]
          · rintro ρ' α' ⟨x4, x5, rfl, rfl⟩
            refine dss_nil ⟨_, _, _, _, ?_, rfl⟩
            rw [rgD_len, L2_succ, ← List.append_assoc]
            simp
    · rintro ρ' α' ⟨x2, x3, x4, x5, rfl, rfl⟩
      refine dss_nil ⟨_, _, _, _, _, ?_, rfl⟩
      rw [rgD_len, L1_succ]
      simp
  · rintro ρ' α' ⟨x1, x2, x3, x4, x5, rfl, rfl⟩
    rw [rgD_len]
    refine dss_seal (α := α) (β := [_]) (ρ' := [none, none, some (.lst ((L1 m n n).map triD)), none, none, none, none, none]) (Nat.le_refl _) hna
      (.any (.any (.keep (.high (Nat.le_refl _) (by simp) (Seals.of (nas_tri _ _))) (.any (.any (.any (.any (.any .nil)))))))) ?_
    refine dss_cons (ds_ret (de_callTy call_tuple_of rfl Z.tuple boot_tuple ?_))
    walk_at "go"
    exact cd_tuple rfl h
end

abbrev sUnevenFours : Stmt := top 22
abbrev sUnevenFour : Stmt := top 23
abbrev sIsEven : Stmt := top 24
abbrev nUF : List Str := ["merger", "found", "everyone", "one", "two", "three", "fours", "four", "kind", "other"]
theorem scUnevenFours : FnScope nUF ["merger"] (defScope sUnevenFours) := ⟨rfl, rfl, rfl, by decide +kernel, rfl, by decide +kernel, by decide +kernel⟩
theorem scUnevenFour : FnScope ["merger", "fours"] ["merger"] (defScope sUnevenFour) := ⟨rfl, rfl, rfl, by decide +kernel, rfl, by decide +kernel, by decide +kernel⟩
theorem scIsEven : FnScope ["merger"] ["merger"] (defScope sIsEven) := ⟨rfl, rfl, rfl, by decide +kernel, rfl, by decide +kernel, by decide +kernel⟩
section
variable {P : Program} {w : World} {K : PySem.W.Frag} {mg : Str → Option Value} {base : Heap} {f : Addr} {fd : FuncData} {C : Addr}
theorem units1 {k : Nat} {A : Around} (r : Room k A) : A.units + 1 < cLine := by have := r.un; omega
abbrev Q4 := Nat × Nat × Nat × Nat
def q4I (q : Q4) : List Int := [(q.1 : Int), (q.2.1 : Int), (q.2.2.1 : Int), (q.2.2.2 : Int)]
def q4D (q : Q4) : D := .tup ((q4I q).map D.int)
def q4K (m : Rows) (q : Q4) : Option Str := DH.kindOf m q.1 q.2.1 q.2.2.1 q.2.2.2
def q4L (n : Nat) (q : Q4) : Prop := q.1 < n ∧ q.2.1 < n ∧ q.2.2.1 < n ∧ q.2.2.2 < n
def GoodE (m : Rows) (n : Nat) (es : List (List Int × Str)) : Prop := ∀ p ∈ es, ∃ q : Q4, q4L n q ∧ p.1 = q4I q ∧ q4K m q = some p.2
theorem q4I_inj {p q : Q4} (h : q4I p = q4I q) : p = q := by
  obtain ⟨a, b, c, d⟩ := p
  obtain ⟨a', b', c', d'⟩ := q
  simp only [q4I, List.cons.injEq, Int.natCast_inj, and_true] at h
  obtain ⟨rfl, rfl, rfl, rfl⟩ := h
  rfl
def foursOf (n : Nat) (t : Nat × Nat × Nat) : List Q4 := (List.range n).map (fun x => (t.1, t.2.1, t.2.2, x)) ++ (List.range n).map (fun x => (x, t.1, t.2.1, t.2.2))
def SUnevenFours (C : Addr) : FSpec := fun ds α R => ∃ (m : Rows) (n : Nat), ds = [mgD C n m] ∧ Wf n m ∧ n ≤ 12 ∧ ((foursL m n).length ≤ 20736 → R (.tup (((foursL m n).map itN).map itD)) α)
def fourD : Option (List Nat × Str) → D
  | none => .non
  | some e => .tup [.str e.2, tabD e.1]
def SUnevenFour (C : Addr) : FSpec := fun ds α R => ∃ (m : Rows) (n : Nat), ds = [mgD C n m] ∧ Wf n m ∧ n ≤ 12 ∧ R (fourD (foursL m n).head?) α
theorem nas_q4 (k : Nat) (l : List Q4) : nas k (l.map q4D) = true := nas_of fun x hx => by
  obtain ⟨q, _, rfl⟩ := List.mem_map.mp hx
  rfl
theorem nas_it (k : Nat) (l : List (List Int × Str)) : nas k (l.map itD) = true := nas_of fun x hx => by
  obtain ⟨q, _, rfl⟩ := List.mem_map.mp hx
  unfold itD
  simp only [D.na, nas, nas_ints, Bool.and_self]
theorem fn_uneven_fours (F : Fun K "uneven_fours" "uneven_fours" sUnevenFours f fd) (Z : Bl mg) (M : MC K C) (c1 : Fx P w K mg base 3 "hand_triples" ["merger"] (SHandTriples C)) (c2 : Fx P w K mg base 3 "kind_of_four" ["rows", "four"] SKindOfFour) : FnOk P w K mg base CX0 4 f fd ["merger"] (SpD K (SUnevenFours C)) := by
  refine fn_def F scUnevenFours (fun ds α R h => by obtain ⟨m, n, rfl, _⟩ := h; rfl) (fun cdv A outer sh H E hr ds α R h hna hnd => ?_)
  obtain ⟨m, n, rfl, hw, hn, h⟩ := h
  have nd : nUF.Nodup := by decide +kernel
  refine dss_sealR ?_
  refine dss_cons (ds_set 1 nd (de_dict ?_))
  refine dss_cons (ds_set 2 nd (de_listRg rfl Z.list Z.range ?_))
  walk_at "go"
  refine ⟨by omega, ?_⟩
  let L := L1 m n n
  have hL : L.length ≤ 1728 := by
    have a1 := L1_len (m := m) (n := n) n
    have b0 : n * n ≤ 12 * 12 := Nat.mul_le_mul hn hn
    have b1 : n * (n * n) ≤ 12 * (12 * 12) := Nat.mul_le_mul hn b0
    simp only [L]; omega
  let V : Nat → Rho → Sto → Prop := fun k ρ' α' => ∃ es x3 x4 x5 x6 x7 x8, α' = α ++ [.d es] ∧ es.length ≤ k * 24 ∧ (GoodE m n es ∧ (es.map (·.1)).Nodup) ∧ (∀ t ∈ L.take k, ∀ q ∈ foursOf n t, ∀ s, q4K m q = some s → (q4I q, s) ∈ es) ∧ ρ' = [some (mgD C n m), some (.acc α.length), some (.lst (rgD 0 n)), x3, x4, x5, x6, x7, x8, none]
  refine dss_cons (ds_for PassesOwn.never rfl (di_tup (de_call c1 hr rfl ?_)))
  walk_at "go"
  refine ⟨m, n, rfl, hw, hn, L.map triD, rfl, V, ⟨[], none, none, none, none, none, none, rfl, Nat.zero_le _, ⟨fun p hp => by simp at hp, by simp⟩, fun t ht => by simp at ht, rfl⟩, fun _ _ _ _ => trivial, ?_, ?_⟩
  · rintro k y ρ' α' hy ⟨es, x3, x4, x5, x6, x7, x8, rfl, hl, hg, hz, rfl⟩
    rw [List.getElem?_map] at hy
    cases ht : L[k]? with
    | none => rw [ht] at hy; cases hy
    | some t =>
      rw [ht] at hy; cases hy
      have hk : k < L.length := (List.getElem?_eq_some_iff.mp ht).1
      obtain ⟨a, b, c⟩ := t
      obtain ⟨ha, hb, hc, hh⟩ := mem_L1.mp (List.mem_of_getElem? ht)
      refine dg_tup rfl rfl (dgs_cons (dg_name 3 nd (dgs_cons (dg_name 4 nd (dgs_cons (dg_name 5 nd (dgs_nil ?_)))))))
      refine dss_cons (ds_set 6 nd (de_op op_cat ?_))
      refine de_lcG (own := [("other", 9)]) 9 rfl nd (blkOk_by (N := nUF) (sc := defScope sUnevenFours) (by decide +kernel)) (by decide) (fun _ _ _ _ _ => pg_name (i := 9) nd rfl (Or.inl rfl)) (fun hna2 => LcG.pure ?_)
      refine di_list ?_
      walk_at "go"
      refine ⟨rgD 0 n, rfl, rfl, rfl, fun _ => rfl, by rw [rgD_len]; omega, ((List.range n).map (fun x => ((a, b, c, x) : Q4))).map q4D, by rw [rgD_len]; simp, ?_, Nat.le_refl _, hna2, nas_q4 _ _, ?_⟩
      · intro j y z acc hy hz2 s' H C' cl fp
        obtain ⟨hj, rfl⟩ := rgD_ix hy
        rw [List.map_map, List.getElem?_map, List.getElem?_range hj] at hz2
        cases hz2
        walk_at "go"
        exact ⟨rfl, rfl⟩
      refine de_lcG (own := [("other", 9)]) 9 rfl nd (blkOk_by (N := nUF) (sc := defScope sUnevenFours) (by decide +kernel)) (by decide) (fun _ _ _ _ _ => pg_name (i := 9) nd rfl (Or.inl rfl)) (fun hna2 => LcG.pure ?_)
      refine di_list ?_
      walk_at "go"
      refine ⟨rgD 0 n, rfl, rfl, rfl, fun _ => rfl, by rw [rgD_len]; omega, ((List.range n).map (fun x => ((x, a, b, c) : Q4))).map q4D, by rw [rgD_len]; simp, ?_, Nat.le_refl _, hna2, nas_q4 _ _, ?_⟩
      · intro j y z acc hy hz2 s' H C' cl fp
        obtain ⟨hj, rfl⟩ := rgD_ix hy
        rw [List.map_map, List.getElem?_map, List.getElem?_range hj] at hz2
        cases hz2
        walk_at "go"
        exact ⟨rfl, rfl⟩
      refine od_cat (ds := ((List.range n).map (fun x => ((a, b, c, x) : Q4))).map q4D) (es := ((List.range n).map (fun x => ((x, a, b, c) : Q4))).map q4D) rfl rfl (by simp; omega) ?_
      rw [← List.map_append]
      have eF : (List.range n).map (fun x => ((a, b, c, x) : Q4)) ++ (List.range n).map (fun x => ((x, a, b, c) : Q4)) = foursOf n (a, b, c) := rfl
      rw [eF]
      have lF : (foursOf n (a, b, c)).length = n + n := by simp [foursOf]
      have inF : ∀ q ∈ foursOf n (a, b, c), q4L n q := by
        intro q hq
        unfold foursOf at hq
        rcases List.mem_append.mp hq with hq | hq
        · obtain ⟨x, hx, rfl⟩ := List.mem_map.mp hq
          exact ⟨ha, hb, hc, by simpa using hx⟩
        · obtain ⟨x, hx, rfl⟩ := List.mem_map.mp hq
          exact ⟨by simpa using hx, ha, hb, hc⟩
      refine dss_cons (ds_for PassesOwn.never rfl (di_list ?_))
      walk_at "go"
      refine ⟨(foursOf n (a, b, c)).map q4D, rfl, rfl, fun j ρ' α' => ∃ es x7 x8, α' = α ++ [.d es] ∧ es.length ≤ k * 24 + j ∧ (GoodE m n es ∧ (es.map (·.1)).Nodup) ∧ ((∀ t ∈ L.take k, ∀ q ∈ foursOf n t, ∀ s, q4K m q = some s → (q4I q, s) ∈ es) ∧ ∀ q ∈ (foursOf n (a, b, c)).take j, ∀ s, q4K m q = some s → (q4I q, s) ∈ es) ∧
        ρ' = [some (mgD C n m), some (.acc α.length), some (.lst (rgD 0 n)), some (.int (a : Nat)), some (.int (b : Nat)), some (.int (c : Nat)), some (.lst ((foursOf n (a, b, c)).map q4D)), x7, x8, none], ⟨es, _, _, rfl, hl, hg, ⟨hz, by simp⟩, rfl⟩, fun _ _ _ _ => rfl, ?_, ?_⟩
      · rintro j y ρ' α' hy ⟨es, x7, x8, rfl, hl, hg, hz, rfl⟩
        rw [List.getElem?_map] at hy
        cases hq : (foursOf n (a, b, c))[j]? with
        | none => rw [hq] at hy; cases hy
        | some q =>
          rw [hq] at hy; cases hy
          have hj : j < (foursOf n (a, b, c)).length := (List.getElem?_eq_some_iff.mp hq).1
          obtain ⟨q1, q2, q3, q4⟩ := inF q (List.mem_of_getElem? hq)
          refine dg_name 7 nd ?_
          refine dss_cons (ds_set 8 nd (de_call c2 hr rfl ?_))
          walk_at "go"
          refine ⟨m, n, q.1, q.2.1, q.2.2.1, q.2.2.2, rfl, hw, q1, q2, q3, q4, ?_⟩
          refine dss_cons (ds_if ?_)
          cases hk2 : DH.kindOf m q.1 q.2.1 q.2.2.1 q.2.2.2 with
          | none =>
            walk_at "go"
            refine dss_nil (dss_nil ⟨es, _, _, rfl, by omega, hg, ⟨hz.1, fun q' hq' s hs => ?_⟩, rfl⟩)
            rw [List.take_add_one, hq] at hq'
            rcases List.mem_append.mp hq' with hq' | hq'
            · exact hz.2 q' hq' s hs
            · simp at hq'; subst hq'
              have := hk2.symm.trans hs
              cases this
          | some s =>
            walk_at "go"
            refine dss_cons (ds_putKey (units1 hr) ?_)
            walk_at "go"
            refine ⟨α.length, es, q4I q, s, rfl, rfl, rfl, by simp, by omega, ?_⟩
            have es' : (α ++ [Cl.d es]).set α.length (.d (putE es (q4I q) s)) = α ++ [.d (putE es (q4I q) s)] := by simp
            rw [es']
            have old : ∀ q' s', (q4I q', s') ∈ es → q4K m q' = some s' → (q4I q', s') ∈ putE es (q4I q) s := fun q' s' hm hs' => putE_old hm fun e => by
              have eq : q' = q := q4I_inj e
              subst eq
              have := hs'.symm.trans (show q4K m q' = some s from hk2)
              injection this
            refine dss_nil (dss_nil ⟨_, _, _, rfl, ?_, ⟨fun p hp => ?_, putE_keys hg.2⟩, ⟨fun t ht' q' hq' s' hs' => old q' s' (hz.1 t ht' q' hq' s' hs') hs', fun q' hq' s' hs' => ?_⟩, rfl⟩)
            · have := putE_len (es := es) (k := q4I q) (s := s); omega
            · rcases putE_mem hp with rfl | hp
              · exact ⟨q, ⟨q1, q2, q3, q4⟩, rfl, hk2⟩
              · exact hg.1 p hp
            · rw [List.take_add_one, hq] at hq'
              rcases List.mem_append.mp hq' with hq' | hq'
              · exact old q' s' (hz.2 q' hq' s' hs') hs'
              · simp at hq'; subst hq'
                have e : s = s' := by
                  have := (show q4K m q' = some s from hk2).symm.trans hs'
                  injection this
                rw [← e]
                exact putE_has
      · rintro ρ' α' ⟨es, x7, x8, rfl, hl, hg, hz, rfl⟩
        rw [List.length_map] at hl hz
        rw [List.take_length] at hz
        refine dss_nil ⟨es, _, _, _, _, _, _, rfl, by omega, hg, fun t ht' q hq s hs => ?_, rfl⟩
        rw [List.take_add_one, ht] at ht'
        rcases List.mem_append.mp ht' with ht' | ht'
        · exact hz.1 t ht' q hq s hs
        · simp at ht'; subst ht'; exact hz.2 q hq s hs
  · rintro ρ' α' ⟨es, x3, x4, x5, x6, x7, x8, rfl, hl, hg, hz, rfl⟩
    rw [List.length_map, List.take_length] at hz
    have hall : ∀ a b c d : Nat, a < n → b < n → c < n → d < n → ∀ s, DH.kindOf m a b c d = some s → (q4I (a, b, c, d), s) ∈ es := fun a b c d ha hb hc hd s hk => by
      by_cases h1 : handB m a b c = true
      · exact hz (a, b, c) (mem_L1.mpr ⟨ha, hb, hc, h1⟩) (a, b, c, d) (by unfold foursOf; simp; exact .inl hd) s hk
      · by_cases h2 : handB m b c d = true
        · exact hz (b, c, d) (mem_L1.mpr ⟨hb, hc, hd, h2⟩) (a, b, c, d) (by unfold foursOf; simp; exact .inr ha) s hk
        · unfold DH.kindOf at hk
          simp [h1, h2] at hk
    have hq4 : (foursL m n).length ≤ 20736 := Nat.le_trans (List.length_filterMap_le _ _) (qsL_small hn (by decide))
    refine dss_cons (ds_ret (de_callTy call_tuple_of rfl Z.tuple boot_tuple (da_consF ?_)))
    refine de_callB (cr_sortIO (Room.units hr)) rfl Z.sorted boot_sorted (da_consF ?_)
    refine de_items rfl Z.list ?_
    walk_at "go"
    refine ⟨α.length, es, rfl, by simp, ?_⟩
    walk_at "go"
    refine cd_sortIO fun es' hp hw' => ?_
    have e : es' = (foursL m n).map itN := by
      refine one_sorted (lt := fun p q : List Int × Str => p.1 < q.1) (fun a => List.lt_irrefl _) (fun a b c h g => List.lt_trans h g) (keys_lt hw' ((hp.map (·.1)).nodup_iff.mpr hg.2)) ?_ fun x => ?_
      · rw [List.pairwise_map]
        exact (fours_sorted m n).imp fun {a b} z => cst_nodup_lt.mpr z
      · rw [hp.mem_iff, List.mem_map]
        constructor
        · intro hx
          obtain ⟨q, ⟨q1, q2, q3, q4⟩, e1, e2⟩ := hg.1 x hx
          refine ⟨([q.1, q.2.1, q.2.2.1, q.2.2.2], x.2), mem_fours.mpr ⟨_, _, _, _, rfl, q1, q2, q3, q4, e2⟩, ?_⟩
          obtain ⟨x1, x2⟩ := x
          simp only at e1
          rw [e1]
          rfl
        · rintro ⟨e, he, rfl⟩
          obtain ⟨a, b, c, d, e1, ha, hb, hc, hd, hk⟩ := mem_fours.mp he
          have := hall a b c d ha hb hc hd _ hk
          obtain ⟨e11, e2⟩ := e
          simp only at e1
          subst e1
          exact this
    subst e
    walk_at "go"
    refine cd_tuple rfl ⟨α, _, .tup (((foursL m n).map itN).map itD), rfl, Nat.le_refl _, hna, Seal.of (by simp only [D.na]; exact nas_it _ _), h hq4⟩
theorem fn_uneven_four (F : Fun K "uneven_four" "uneven_four" sUnevenFour f fd) (Z : Bl mg) (c1 : Fx P w K mg base 4 "uneven_fours" ["merger"] (SUnevenFours C)) : FnOk P w K mg base CX0 5 f fd ["merger"] (SpD K (SUnevenFour C)) := by
  refine fn_def F scUnevenFour (fun ds α R h => by obtain ⟨m, n, rfl, _⟩ := h; rfl) (fun cdv A outer sh H E hr ds α R h hna hnd => ?_)
  obtain ⟨m, n, rfl, hw, hn, h1⟩ := h
  have nd : (["merger", "fours"] : List Str).Nodup := by decide +kernel
  refine dss_cons (ds_set 1 nd (de_call c1 hr rfl ?_))
  walk_at "go"
  refine ⟨m, n, rfl, hw, hn, fun hlen => ?_⟩
  refine dss_cons (ds_ret ?_)
  walk_at "go"
  refine cd_len rfl ?_
  rw [List.length_map, List.length_map]
  walk_at "go"
  cases hF : foursL m n with
  | nil =>
    rw [hF] at h1
    refine ifT (by simp) ?_
    exact de_non h1
  | cons e es =>
    rw [hF] at h1
    refine ifF (by simp; omega) ?_
    walk_at "go"
    have ei : itD (itN e) = .tup [tabD e.1, .str e.2] := by unfold itD itN; rw [tabD_eq]
    refine od_ix (ds := ((e :: es).map itN).map itD) (d := itD (itN e)) rfl (atI_nn (i := 0) rfl) ?_
    rw [ei]
    walk_at "go"
    refine od_ix (ds := ((e :: es).map itN).map itD) (d := itD (itN e)) rfl (atI_nn (i := 0) rfl) ?_
    rw [ei]
    walk_at "go"
    exact h1
def SIsEven (C : Addr) : FSpec := fun ds α R => ∃ (m : Rows) (n : Nat), ds = [mgD C n m] ∧ Wf n m ∧ n ≤ 12 ∧ (NoBad n m → R (.bl true) α) ∧ (¬NoBad n m → R (.bl false) α)
theorem fn_is_even (F : Fun K "is_even" "is_even" sIsEven f fd) (Z : Bl mg) (c1 : Fx P w K mg base 5 "uneven_four" ["merger"] (SUnevenFour C)) : FnOk P w K mg base CX0 6 f fd ["merger"] (SpD K (SIsEven C)) := by
  refine fn_def F scIsEven (fun ds α R h => by obtain ⟨m, n, rfl, _⟩ := h; rfl) (fun cdv A outer sh H E hr ds α R h hna hnd => ?_)
  obtain ⟨m, n, rfl, hw, hn, h1, h2⟩ := h
  refine dss_cons (ds_ret ?_)
  walk_at "go"
  refine de_call c1 hr rfl ?_
  walk_at "go"
  refine ⟨m, n, rfl, hw, hn, ?_⟩
  cases hF : foursL m n with
  | nil =>
    walk_at "go"
    exact h1 (fours_nil.mp hF)
  | cons e es =>
    walk_at "go"
    exact h2 fun z => by rw [fours_nil.mpr z] at hF; cases hF
end

abbrev sSingleThree : Stmt := top 25
abbrev sIsSingle : Stmt := top 26
abbrev sBagQueue : Stmt := top 27
abbrev sMergerWord : Stmt := top 28
abbrev nSingleThree : List Str := ["merger", "rows", "one", "two", "three"]
abbrev nBagQueue : List Str := ["merger", "rows", "one", "two", "three", "told"]
theorem scSingleThree : FnScope nSingleThree ["merger"] (defScope sSingleThree) := ⟨rfl, rfl, rfl, by decide +kernel, rfl, by decide +kernel, by decide +kernel⟩
theorem scIsSingle : FnScope ["merger"] ["merger"] (defScope sIsSingle) := ⟨rfl, rfl, rfl, by decide +kernel, rfl, by decide +kernel, by decide +kernel⟩
theorem scBagQueue : FnScope nBagQueue ["merger"] (defScope sBagQueue) := ⟨rfl, rfl, rfl, by decide +kernel, rfl, by decide +kernel, by decide +kernel⟩
theorem scMergerWord : FnScope ["merger"] ["merger"] (defScope sMergerWord) := ⟨rfl, rfl, rfl, by decide +kernel, rfl, by decide +kernel, by decide +kernel⟩
section
variable {P : Program} {w : World} {K : PySem.W.Frag} {mg : Str → Option Value} {base : Heap} {f : Addr} {fd : FuncData} {C : Addr}
/-- a triple whose two ends are not the same -/
def unl (m : Rows) (t : Nat × Nat × Nat) : Bool := !(decide (look m t.1 t.2.1 = some (t.1 : Int)) && decide (look m t.2.1 t.2.2 = some (t.2.2 : Int)))
/-- .. have unlike bags -/
def unb (m : Rows) (t : Nat × Nat × Nat) : Bool := !decide ([(mk m t.1 t.2.1 : Int), (t.2.2 : Int)].Perm [(t.1 : Int), (mk m t.2.1 t.2.2 : Int)])
def triO : Option (Nat × Nat × Nat) → D
  | none => .non
  | some t => triD t
theorem find_take {β : Type} {p : β → Bool} {l : List β} {k : Nat} {x : β} (h0 : (l.take k).find? p = none) (hx : l[k]? = some x) : (p x = true → l.find? p = some x) ∧ (p x = false → (l.take (k + 1)).find? p = none) := by
  have e : l.take (k + 1) = l.take k ++ [x] := by rw [List.take_add_one, hx]; rfl
  constructor
  · intro h
    have : l = l.take (k + 1) ++ l.drop (k + 1) := (List.take_append_drop _ _).symm
    rw [this, e, List.append_assoc, List.find?_append, h0]
    simp [h]
  · intro h
    rw [e, List.find?_append, h0]
    simp [h]
def SSingleThree (C : Addr) : FSpec := fun ds α R => ∃ (m : Rows) (n : Nat), ds = [mgD C n m] ∧ Wf n m ∧ n ≤ 12 ∧ R (triO ((L1 m n n).find? (unl m))) α
theorem fn_single_three (F : Fun K "single_three" "single_three" sSingleThree f fd) (Z : Bl mg) (M : MC K C) (c1 : Fx P w K mg base 1 "hand_triples" ["merger"] (SHandTriples C)) : FnOk P w K mg base CX0 2 f fd ["merger"] (SpD K (SSingleThree C)) := by
  refine fn_def F scSingleThree (fun ds α R h => by obtain ⟨m, n, rfl, _⟩ := h; rfl) (fun cdv A outer sh H E hr ds α R h hna hnd => ?_)
  obtain ⟨m, n, rfl, hw, hn, h⟩ := h
  have nd : nSingleThree.Nodup := by decide +kernel
  refine dss_cons (ds_set 1 nd ?_)
  walk_at "go"
  refine dss_cons (ds_for PassesOwn.never rfl (di_tup (de_call c1 hr rfl ?_)))
  walk_at "go"
  refine ⟨m, n, rfl, hw, hn, (L1 m n n).map triD, rfl, fun k ρ' α' => α' = α ∧ ((L1 m n n).take k).find? (unl m) = none ∧ ∃ x2 x3 x4, ρ' = [some (mgD C n m), some (tupR m), x2, x3, x4], ⟨rfl, rfl, _, _, _, rfl⟩, fun _ _ _ _ => trivial, ?_, ?_⟩
  · rintro k y ρ' α' hy ⟨rfl, hf, x2, x3, x4, rfl⟩
    rw [List.getElem?_map] at hy
    cases ht : (L1 m n n)[k]? with
    | none => rw [ht] at hy; cases hy
    | some t =>
      rw [ht] at hy; cases hy
      obtain ⟨a, b, c⟩ := t
      obtain ⟨ha, hb, hc, hh⟩ := mem_L1.mp (List.mem_of_getElem? ht)
      obtain ⟨f1, f2⟩ := find_take hf ht
      refine dg_tup rfl rfl (dgs_cons (dg_name 2 nd (dgs_cons (dg_name 3 nd (dgs_cons (dg_name 4 nd (dgs_nil ?_)))))))
      refine dss_cons (ds_if (DT.imp (R := fun b2 α2 => b2 = unl m (a, b, c) ∧ α2 = α') ?_ ?_))
      · refine dt_w (dw_or (dt_cmp (op_neD hr.units) (nomark _) ?_))
        walk_at "go"
        refine od_neE (x := look m a b) (y := some (a : Int)) ⟨_, rfl, ?_⟩
        refine iteB (fun h1 => ?_) (fun h1 => ?_)
        · refine ⟨?_, rfl⟩
          unfold unl
          simp at h1
          simp [h1]
        · refine dw_or1 (dt_cmp (op_neD hr.units) (nomark _) ?_)
          walk_at "go"
          refine od_neE (x := look m b c) (y := some (c : Int)) ⟨_, rfl, ?_, rfl⟩
          unfold unl
          simp at h1
          simp [h1]
      rintro _ _ ⟨rfl, rfl⟩
      refine iteB (fun h1 => ?_) (fun h1 => dss_nil (dss_nil ⟨rfl, f2 h1, _, _, _, rfl⟩))
      rw [f1 h1] at h
      refine dss_cons (ds_ret ?_)
      walk_at "go"
      exact h
  · rintro ρ' α' ⟨rfl, hf, x2, x3, x4, rfl⟩
    rw [List.length_map, List.take_length] at hf
    rw [hf] at h
    exact dss_cons (ds_ret (de_non h))
def SIsSingle (C : Addr) : FSpec := fun ds α R => ∃ (m : Rows) (n : Nat), ds = [mgD C n m] ∧ Wf n m ∧ n ≤ 12 ∧ R (.bl ((L1 m n n).find? (unl m)).isNone) α
theorem fn_is_single (F : Fun K "is_single" "is_single" sIsSingle f fd) (Z : Bl mg) (c1 : Fx P w K mg base 2 "single_three" ["merger"] (SSingleThree C)) : FnOk P w K mg base CX0 3 f fd ["merger"] (SpD K (SIsSingle C)) := by
  refine fn_def F scIsSingle (fun ds α R h => by obtain ⟨m, n, rfl, _⟩ := h; rfl) (fun cdv A outer sh H E hr ds α R h hna hnd => ?_)
  obtain ⟨m, n, rfl, hw, hn, h⟩ := h
  refine dss_cons (ds_ret ?_)
  walk_at "go"
  refine de_call c1 hr rfl ?_
  walk_at "go"
  refine ⟨m, n, rfl, hw, hn, ?_⟩
  walk_at "go"
  cases e : (L1 m n n).find? (unl m) with
  | none => rw [e] at h; exact h
  | some t => rw [e] at h; exact h
end

section
variable {P : Program} {w : World} {K : PySem.W.Frag} {mg : Str → Option Value} {base : Heap} {f : Addr} {fd : FuncData} {C : Addr}
theorem sorted_perm {a b : List Int} (ha : a.Pairwise (· ≤ ·)) (hb : b.Pairwise (· ≤ ·)) (h : a.Perm b) : a = b :=
  h.eq_of_pairwise (fun x y _ _ h1 h2 => Int.le_antisymm h1 h2) ha hb
/-- what bag_queue tells -/
def bagD (m : Rows) (n : Nat) : D := match (L1 m n n).find? (unb m) with
  | some t => triD t
  | none => match (foursL m n).head? with
    | none => .non
    | some e => tabD e.1
def SBagQueue (C : Addr) : FSpec := fun ds α R => ∃ (m : Rows) (n : Nat), ds = [mgD C n m] ∧ Wf n m ∧ n ≤ 12 ∧ R (bagD m n) α
theorem fn_bag_queue (F : Fun K "bag_queue" "bag_queue" sBagQueue f fd) (Z : Bl mg) (M : MC K C) (c1 : Fx P w K mg base 5 "hand_triples" ["merger"] (SHandTriples C)) (c2 : Fx P w K mg base 5 "uneven_four" ["merger"] (SUnevenFour C)) : FnOk P w K mg base CX0 6 f fd ["merger"] (SpD K (SBagQueue C)) := by
  refine fn_def F scBagQueue (fun ds α R h => by obtain ⟨m, n, rfl, _⟩ := h; rfl) (fun cdv A outer sh H E hr ds α R h hna hnd => ?_)
  obtain ⟨m, n, rfl, hw, hn, h⟩ := h
  have nd : nBagQueue.Nodup := by decide +kernel
  refine dss_cons (ds_set 1 nd ?_)
  walk_at "go"
  refine dss_cons (ds_for PassesOwn.never rfl (di_tup (de_call c1 hr rfl ?_)))
  walk_at "go"
  refine ⟨m, n, rfl, hw, hn, (L1 m n n).map triD, rfl, fun k ρ' α' => α' = α ∧ ((L1 m n n).take k).find? (unb m) = none ∧ ∃ x2 x3 x4, ρ' = [some (mgD C n m), some (tupR m), x2, x3, x4, none], ⟨rfl, rfl, _, _, _, rfl⟩, fun _ _ _ _ => trivial, ?_, ?_⟩
  · rintro k y ρ' α' hy ⟨rfl, hf, x2, x3, x4, rfl⟩
    rw [List.getElem?_map] at hy
    cases ht : (L1 m n n)[k]? with
    | none => rw [ht] at hy; cases hy
    | some t =>
      rw [ht] at hy; cases hy
      obtain ⟨a, b, c⟩ := t
      obtain ⟨ha, hb, hc, hh⟩ := mem_L1.mp (List.mem_of_getElem? ht)
      obtain ⟨x, y, e1, e2, e3⟩ := handB_two hh
      obtain ⟨f1, f2⟩ := find_take hf ht
      have m1 : mk m a b = x := by unfold mk; rw [e1]; simp
      have m2 : mk m b c = y := by unfold mk; rw [e2]; simp
      refine dg_tup rfl rfl (dgs_cons (dg_name 2 nd (dgs_cons (dg_name 3 nd (dgs_cons (dg_name 4 nd (dgs_nil ?_)))))))
      refine dss_cons (ds_if (dt_cmp (op_neD hr.units) (nomark _) ?_))
      refine de_callB cr_sorted rfl Z.sorted boot_sorted (da_consL ?_)
      refine de_lst ?_
      walk_at "go"
      rw [e1]
      walk_at "go"
      refine cd_sortI (ns := [(x : Int), (c : Int)]) (by simp) fun s1 p1 w1 => ?_
      refine de_callB cr_sorted rfl Z.sorted boot_sorted (da_consL ?_)
      refine de_lst ?_
      walk_at "go"
      rw [e2]
      walk_at "go"
      refine cd_sortI (ns := [(a : Int), (y : Int)]) (by simp) fun s2 p2 w2 => ?_
      refine od_neLI ⟨_, rfl, ?_⟩
      have eb : (!decide (s1 = s2)) = unb m (a, b, c) := by
        unfold unb
        simp only [m1, m2]
        congr 1
        apply decide_eq_decide.mpr
        constructor
        · intro z; subst z; exact p1.symm.trans p2
        · intro z; exact sorted_perm w1 w2 (p1.trans (z.trans p2.symm))
      rw [eb]
      refine iteB (fun h1 => ?_) (fun h1 => dss_nil (dss_nil ⟨rfl, f2 h1, _, _, _, rfl⟩))
      unfold bagD at h
      rw [f1 h1] at h
      refine dss_cons (ds_ret ?_)
      walk_at "go"
      exact h
  · rintro ρ' α' ⟨rfl, hf, x2, x3, x4, rfl⟩
    rw [List.length_map, List.take_length] at hf
    unfold bagD at h
    rw [hf] at h
    refine dss_cons (ds_set 5 nd (de_call c2 hr rfl ?_))
    walk_at "go"
    refine ⟨m, n, rfl, hw, hn, ?_⟩
    refine dss_cons (ds_ret (de_ite ?_))
    walk_at "go"
    cases e : (foursL m n).head? with
    | none =>
      rw [e] at h
      refine ifT rfl (de_non h)
    | some x =>
      rw [e] at h
      refine ifF rfl ?_
      walk_at "go"
      exact h
def wordOf (m : Rows) (n : Nat) : Str :=
  if foursL m n = [] then (if L1 m n n = [] then "clear" else if (L1 m n n).find? (unl m) = none then "single" else if (L1 m n n).find? (unb m) = none then "bag" else "even") else "uneven"
def SMergerWord (C : Addr) : FSpec := fun ds α R => ∃ (m : Rows) (n : Nat), ds = [mgD C n m] ∧ Wf n m ∧ n ≤ 12 ∧ R (.str (wordOf m n)) α
theorem fn_merger_word (F : Fun K "merger_word" "merger_word" sMergerWord f fd) (Z : Bl mg) (c1 : Fx P w K mg base 6 "is_even" ["merger"] (SIsEven C)) (c2 : Fx P w K mg base 6 "hand_triples" ["merger"] (SHandTriples C)) (c3 : Fx P w K mg base 6 "is_single" ["merger"] (SIsSingle C)) (c4 : Fx P w K mg base 6 "bag_queue" ["merger"] (SBagQueue C)) : FnOk P w K mg base CX0 7 f fd ["merger"] (SpD K (SMergerWord C)) := by
  refine fn_def F scMergerWord (fun ds α R h => by obtain ⟨m, n, rfl, _⟩ := h; rfl) (fun cdv A outer sh H E hr ds α R h hna hnd => ?_)
  obtain ⟨m, n, rfl, hw, hn, h⟩ := h
  unfold wordOf at h
  refine dss_cons (ds_if ?_)
  refine dt_not (dt_val (de_call c1 hr rfl ?_))
  walk_at "go"
  refine ⟨m, n, rfl, hw, hn, fun hb => ⟨_, rfl, ?_⟩, fun hb => ⟨_, rfl, ?_⟩⟩
  · have h1 := fours_nil.mpr hb
    rw [if_pos h1] at h
    refine ifF rfl (dss_nil ?_)
    refine dss_cons (ds_if ?_)
    walk_at "go"
    refine de_call c2 hr rfl ?_
    walk_at "go"
    refine ⟨m, n, rfl, hw, hn, ?_⟩
    walk_at "go"
    refine cd_len rfl ?_
    walk_at "go"
    by_cases h2 : L1 m n n = []
    · rw [if_pos h2] at h
      refine ifT (by simp [h2]) (dss_cons (ds_ret (de_str h)))
    · rw [if_neg h2] at h
      refine ifF (by simp [h2]) (dss_nil ?_)
      refine dss_cons (ds_if ?_)
      refine dt_val (de_call c3 hr rfl ?_)
      walk_at "go"
      refine ⟨m, n, rfl, hw, hn, _, rfl, ?_⟩
      by_cases h3 : (L1 m n n).find? (unl m) = none
      · rw [if_pos h3] at h
        refine ifT (by rw [h3]; rfl) (dss_cons (ds_ret (de_str h)))
      · rw [if_neg h3] at h
        refine ifF (by cases e : (L1 m n n).find? (unl m) with | none => exact absurd e h3 | some _ => rfl) (dss_nil ?_)
        refine dss_cons (ds_ret (de_ite ?_))
        walk_at "go"
        refine de_call c4 hr rfl ?_
        walk_at "go"
        refine ⟨m, n, rfl, hw, hn, ?_⟩
        walk_at "go"
        unfold bagD
        cases e : (L1 m n n).find? (unb m) with
        | none =>
          rw [if_pos e] at h
          rw [h1]
          refine ifT rfl (de_str h)
        | some t =>
          rw [if_neg (by rw [e]; simp)] at h
          refine ifF rfl (de_str h)
  · rw [if_neg fun z => hb (fours_nil.mp z)] at h
    refine ifT rfl (dss_cons (ds_ret (de_str h)))
end

abbrev nFourNumbers : List Str := ["merger", "kinds", "four", "kind"]
section
variable {P : Program} {w : World} {K : PySem.W.Frag} {mg : Str → Option Value} {base : Heap} {f : Addr} {fd : FuncData} {C : Addr}
def kindsOf (m : Rows) (n : Nat) : List Str := (foursL m n).map (·.2)
def numsD (l : List Str) : D := .tup [.int (l.count ("middle" : Str) : Nat), .int (l.count ("left" : Str) : Nat), .int (l.count ("right" : Str) : Nat)]
def SFourNumbers (C : Addr) : FSpec := fun ds α R => ∃ (m : Rows) (n : Nat), ds = [mgD C n m] ∧ Wf n m ∧ n ≤ 12 ∧ R (numsD (kindsOf m n)) α
end

section
open FM
theorem L1_nil {m : Rows} {n : Nat} : L1 m n n = [] ↔ ∀ a b c, a < n → b < n → c < n → handB m a b c = false := by
  rw [List.eq_nil_iff_forall_not_mem]
  constructor
  · intro h a b c ha hb hc
    cases e : handB m a b c with
    | false => rfl
    | true => exact absurd (mem_L1.mpr ⟨ha, hb, hc, e⟩) (h (a, b, c))
  · rintro h ⟨a, b, c⟩ hm
    obtain ⟨ha, hb, hc, e⟩ := mem_L1.mp hm
    rw [h a b c ha hb hc] at e
    cases e
theorem L1_find {m : Rows} {n : Nat} {p : Nat × Nat × Nat → Bool} : (L1 m n n).find? p = none ↔ ∀ a b c, a < n → b < n → c < n → handB m a b c = true → p (a, b, c) = false := by
  rw [List.find?_eq_none]
  constructor
  · intro h a b c ha hb hc e
    simpa using h (a, b, c) (mem_L1.mpr ⟨ha, hb, hc, e⟩)
  · rintro h ⟨a, b, c⟩ hm
    obtain ⟨ha, hb, hc, e⟩ := mem_L1.mp hm
    rw [h a b c ha hb hc e]
    simp
theorem word_eq {m m' : Rows} {n n' : Nat} (h1 : foursL m' n' = [] ↔ foursL m n = []) (h2 : L1 m' n' n' = [] ↔ L1 m n n = []) (h3 : (L1 m' n' n').find? (unl m') = none ↔ (L1 m n n).find? (unl m) = none) (h4 : (L1 m' n' n').find? (unb m') = none ↔ (L1 m n n).find? (unb m) = none) : wordOf m' n' = wordOf m n := by
  unfold wordOf
  simp only [h1, h2, h3, h4]
theorem perm2 {p q r s : Int} : [p, q].Perm [r, s] ↔ (p = r ∧ q = s) ∨ (p = s ∧ q = r) := by
  constructor
  · intro h
    have hp : p ∈ [r, s] := (h.mem_iff (a := p)).mp (by simp)
    rcases List.mem_cons.mp hp with rfl | hp
    · have := h.cons_inv
      exact .inl ⟨rfl, by simpa using (this.mem_iff (a := q)).mp (by simp)⟩
    · obtain rfl : p = s := by simpa using hp
      have := (h.trans (List.Perm.swap p r [])).cons_inv
      exact .inr ⟨rfl, by simpa using (this.mem_iff (a := q)).mp (by simp)⟩
  · rintro (⟨rfl, rfl⟩ | ⟨rfl, rfl⟩)
    · exact .refl _
    · exact .swap _ _ []
theorem nil_of_mem {β : Type} {l l' : List β} {f g : β → β} (h : ∀ e, e ∈ l' ↔ ∃ e' ∈ l, e = f e') : l' = [] ↔ l = [] := by
  constructor
  · intro z
    cases l with
    | nil => rfl
    | cons x l =>
      have := (h (f x)).mpr ⟨x, by simp, rfl⟩
      rw [z] at this
      cases this
  · intro z
    cases l' with
    | nil => rfl
    | cons x l' =>
      obtain ⟨e', he, _⟩ := (h x).mp (by simp)
      rw [z] at he
      cases he
theorem word_mir {m : Rows} {n : Nat} (hw : Wf n m) (hs : Sound n m) : wordOf (mirR m n) n = wordOf m n := by
  have flip : ∀ (p q : Nat × Nat × Nat → Bool), (∀ a b c, a < n → b < n → c < n → p (a, b, c) = q (c, b, a)) → ((L1 (mirR m n) n n).find? p = none ↔ (L1 m n n).find? q = none) := by
    intro p q hpq
    rw [L1_find, L1_find]
    constructor
    · intro h a b c ha hb hc e
      have := h c b a hc hb ha (by rw [hand_mir hw hs hc hb ha]; exact e)
      rw [hpq c b a hc hb ha] at this
      exact this
    · intro h a b c ha hb hc e
      rw [hpq a b c ha hb hc]
      exact h c b a hc hb ha (by rw [← hand_mir hw hs ha hb hc]; exact e)
  refine word_eq (nil_of_mem (f := fun e => (e.1.reverse, turnK e.2)) (g := id) fun e => mem_mir hw hs) ?_ (flip _ _ fun a b c ha hb hc => ?_) (flip _ _ fun a b c ha hb hc => ?_)
  · rw [L1_nil, L1_nil]
    constructor
    · intro h a b c ha hb hc
      rw [← hand_mir hw hs hc hb ha]; exact h c b a hc hb ha
    · intro h a b c ha hb hc
      rw [hand_mir hw hs ha hb hc]; exact h c b a hc hb ha
  · unfold unl
    simp only
    rw [look_mir ha hb, look_mir hb hc, Bool.and_comm]
  · unfold unb
    simp only
    rw [mk_mir ha hb, mk_mir hb hc]
    congr 1
    apply decide_eq_decide.mpr
    rw [perm2, perm2]
    constructor
    · rintro (⟨h1, h2⟩ | ⟨h1, h2⟩)
      · exact .inl ⟨h2.symm, h1.symm⟩
      · exact .inr ⟨h1.symm, h2.symm⟩
    · rintro (⟨h1, h2⟩ | ⟨h1, h2⟩)
      · exact .inl ⟨h2.symm, h1.symm⟩
      · exact .inr ⟨h1.symm, h2.symm⟩
theorem word_nam {m : Rows} {n : Nat} {names : List Nat} (hw : Wf n m) (N : Nm n names) : wordOf (namR m n names) n = wordOf m n := by
  have E := emb_nam hw N
  have flip : ∀ (p q : Nat × Nat × Nat → Bool), (∀ a b c, a < n → b < n → c < n → handB m a b c = true → p (sg names a, sg names b, sg names c) = q (a, b, c)) → ((L1 (namR m n names) n n).find? p = none ↔ (L1 m n n).find? q = none) := by
    intro p q hpq
    rw [L1_find, L1_find]
    constructor
    · intro h a b c ha hb hc e
      have := h _ _ _ (N.lt ha) (N.lt hb) (N.lt hc) (by rw [E.hand ha hb hc]; exact e)
      rw [hpq a b c ha hb hc e] at this
      exact this
    · intro h a b c ha hb hc e
      have e1 := E.hand (N.inv_lt ha) (N.inv_lt hb) (N.inv_lt hc)
      rw [N.sg_inv ha, N.sg_inv hb, N.sg_inv hc, e] at e1
      have := hpq _ _ _ (N.inv_lt ha) (N.inv_lt hb) (N.inv_lt hc) e1.symm
      rw [N.sg_inv ha, N.sg_inv hb, N.sg_inv hc] at this
      rw [this]
      exact h _ _ _ (N.inv_lt ha) (N.inv_lt hb) (N.inv_lt hc) e1.symm
  refine word_eq (nil_of_mem (f := fun e => (e.1.map (sg names), e.2)) (g := id) fun e => mem_nam hw N) ?_ (flip _ _ fun a b c ha hb hc hh => ?_) (flip _ _ fun a b c ha hb hc hh => ?_)
  · rw [L1_nil, L1_nil]
    constructor
    · intro h a b c ha hb hc
      rw [← E.hand ha hb hc]; exact h _ _ _ (N.lt ha) (N.lt hb) (N.lt hc)
    · intro h a b c ha hb hc
      have e1 := E.hand (N.inv_lt ha) (N.inv_lt hb) (N.inv_lt hc)
      rw [N.sg_inv ha, N.sg_inv hb, N.sg_inv hc] at e1
      rw [e1]
      exact h _ _ _ (N.inv_lt ha) (N.inv_lt hb) (N.inv_lt hc)
  · unfold unl
    simp only
    congr 1
    rw [decide_eq_decide.mpr (E.unl N.inj ha hb ha), decide_eq_decide.mpr (E.unl N.inj hb hc hc)]
  · obtain ⟨x, y, e1, e2, _⟩ := handB_two hh
    obtain ⟨g1, g2⟩ := E.made ha hb e1
    obtain ⟨g3, g4⟩ := E.made hb hc e2
    have hx := (hw.look ha hb e1).2
    have hy := (hw.look hb hc e2).2
    unfold unb
    simp only
    rw [g1, g2, g3, g4]
    congr 1
    apply decide_eq_decide.mpr
    rw [perm2, perm2]
    have inj : ∀ a b : Nat, a < n → b < n → (((sg names a : Nat) : Int) = ((sg names b : Nat) : Int) ↔ (a : Int) = (b : Int)) := fun a b ha hb => by
      rw [Int.natCast_inj, Int.natCast_inj]
      exact ⟨N.inj a b ha hb, fun z => by rw [z]⟩
    rw [inj x a (by omega) ha, inj c y hc (by omega), inj x y (by omega) (by omega), inj c a hc ha]
/-- items sorted, their keys told once -/
theorem items_one {F : List (List Nat × Str)} {m : Rows} {n : Nat} (hk : (F.map (·.1)).Nodup) (hm : ∀ e, e ∈ foursL m n ↔ e ∈ F) {es' : List (List Int × Str)} (hp : es'.Perm (F.map itN)) (hw : es'.Pairwise itemLe) : es' = (foursL m n).map itN := by
  refine one_sorted (lt := fun p q : List Int × Str => p.1 < q.1) (fun a => List.lt_irrefl _) (fun a b c h g => List.lt_trans h g) (keys_lt hw ((hp.map (·.1)).nodup_iff.mpr ?_)) ?_ fun x => ?_
  · rw [List.map_map]
    have : (F.map ((fun x : List Int × Str => x.1) ∘ itN)) = (F.map (·.1)).map cst := by rw [List.map_map]; rfl
    rw [this, List.Nodup, List.pairwise_map]
    exact hk.imp fun {a b} z e => z (cst_inj e)
  · rw [List.pairwise_map]
    exact (fours_sorted m n).imp fun {a b} z => cst_nodup_lt.mpr z
  · rw [hp.mem_iff, List.mem_map, List.mem_map]
    exact ⟨fun ⟨e, he, z⟩ => ⟨e, (hm e).mpr he, z⟩, fun ⟨e, he, z⟩ => ⟨e, (hm e).mp he, z⟩⟩
theorem fours_keys (m : Rows) (n : Nat) : ((foursL m n).map (·.1)).Nodup := by
  rw [List.Nodup, List.pairwise_map]
  exact (fours_sorted m n).imp fun {a b} z (e : a.1 = b.1) => by rw [e] at z; exact lt_irr _ z
theorem mir_items {m : Rows} {n : Nat} (hw : Wf n m) (hs : Sound n m) {es' : List (List Int × Str)} (hp : es'.Perm ((foursL m n).map fun e => (cst e.1.reverse, turnK e.2))) (ho : es'.Pairwise itemLe) : es' = (foursL (mirR m n) n).map itN := by
  refine items_one (F := (foursL m n).map fun e => (e.1.reverse, turnK e.2)) ?_ (fun e => ?_) ?_ ho
  · rw [List.map_map, List.Nodup, List.pairwise_map]
    have := fours_keys m n
    rw [List.Nodup, List.pairwise_map] at this
    exact this.imp fun {a b} z e => z (List.reverse_inj.mp e)
  · rw [mem_mir hw hs, List.mem_map]
    exact ⟨fun ⟨e', h, z⟩ => ⟨e', h, z.symm⟩, fun ⟨e', h, z⟩ => ⟨e', h, z.symm⟩⟩
  · rw [List.map_map]
    exact hp
theorem nam_items {m : Rows} {n : Nat} {names : List Nat} (hw : Wf n m) (N : Nm n names) {es' : List (List Int × Str)} (hp : es'.Perm ((foursL m n).map fun e => (cst (e.1.map (sg names)), e.2))) (ho : es'.Pairwise itemLe) : es' = (foursL (namR m n names) n).map itN := by
  refine items_one (F := (foursL m n).map fun e => (e.1.map (sg names), e.2)) ?_ (fun e => ?_) ?_ ho
  · rw [List.map_map, List.Nodup, List.pairwise_map]
    have := fours_keys m n
    rw [List.Nodup, List.pairwise_map] at this
    refine this.imp_of_mem fun {a b} ha hb z e => z ?_
    obtain ⟨a1, a2, a3, a4, e1, l1, l2, l3, l4, _⟩ := mem_fours.mp ha
    obtain ⟨b1, b2, b3, b4, e2, k1, k2, k3, k4, _⟩ := mem_fours.mp hb
    simp only [Function.comp, e1, e2, List.map_cons, List.map_nil, List.cons.injEq, and_true] at e ⊢
    exact ⟨N.inj _ _ l1 k1 e.1, N.inj _ _ l2 k2 e.2.1, N.inj _ _ l3 k3 e.2.2.1, N.inj _ _ l4 k4 e.2.2.2⟩
  · rw [mem_nam hw N, List.mem_map]
    exact ⟨fun ⟨e', h, z⟩ => ⟨e', h, z.symm⟩, fun ⟨e', h, z⟩ => ⟨e', h, z.symm⟩⟩
  · rw [List.map_map]
    exact hp
/-! triples as lists -/
def triL (t : Nat × Nat × Nat) : List Nat := [t.1, t.2.1, t.2.2]
def trisL (m : Rows) (n : Nat) : List (List Nat) := (L1 m n n).map triL
theorem mem_tris {m : Rows} {n : Nat} {q : List Nat} : q ∈ trisL m n ↔ ∃ a b c, q = [a, b, c] ∧ a < n ∧ b < n ∧ c < n ∧ handB m a b c = true := by
  unfold trisL
  rw [List.mem_map]
  constructor
  · rintro ⟨⟨a, b, c⟩, h, rfl⟩
    obtain ⟨ha, hb, hc, e⟩ := mem_L1.mp h
    exact ⟨a, b, c, rfl, ha, hb, hc, e⟩
  · rintro ⟨a, b, c, rfl, ha, hb, hc, e⟩
    exact ⟨(a, b, c), mem_L1.mpr ⟨ha, hb, hc, e⟩, rfl⟩
theorem L1_sorted (m : Rows) (n : Nat) : (L1 m n n).Pairwise fun s t => triL s < triL t := by
  unfold L1
  rw [List.pairwise_flatMap]
  refine ⟨fun a _ => ?_, List.pairwise_lt_range.imp fun {a a'} haa s hs t ht => ?_⟩
  · unfold L2'
    rw [List.pairwise_flatMap]
    refine ⟨fun b _ => ?_, List.pairwise_lt_range.imp fun {b b'} hbb s hs t ht => ?_⟩
    · unfold L3
      rw [List.pairwise_filterMap]
      refine List.pairwise_lt_range.imp fun {c c'} hcc s hs t ht => ?_
      split at hs
      · split at ht
        · cases hs; cases ht
          simp [triL, List.cons_lt_cons_iff, hcc]
        · cases ht
      · cases hs
    · unfold L3 at hs ht
      obtain ⟨c, _, hs⟩ := List.mem_filterMap.mp hs
      obtain ⟨c', _, ht⟩ := List.mem_filterMap.mp ht
      split at hs
      · split at ht
        · cases hs; cases ht
          simp [triL, List.cons_lt_cons_iff, hbb]
        · cases ht
      · cases hs
  · unfold L2' L3 at hs ht
    obtain ⟨b, _, hs⟩ := List.mem_flatMap.mp hs
    obtain ⟨b', _, ht⟩ := List.mem_flatMap.mp ht
    obtain ⟨c, _, hs⟩ := List.mem_filterMap.mp hs
    obtain ⟨c', _, ht⟩ := List.mem_filterMap.mp ht
    split at hs
    · split at ht
      · cases hs; cases ht
        simp [triL, List.cons_lt_cons_iff, haa]
      · cases ht
    · cases hs
theorem tris_sorted (m : Rows) (n : Nat) : (trisL m n).Pairwise (· < ·) := by
  unfold trisL
  rw [List.pairwise_map]
  exact L1_sorted m n
theorem nam_tris {m : Rows} {n : Nat} {names : List Nat} (hw : Wf n m) (N : Nm n names) {T' : List (List Nat)} (hp : T'.Perm ((trisL m n).map fun q => q.map (sg names))) (ho : T'.Pairwise (· ≤ ·)) : T' = trisL (namR m n names) n := by
  have E := emb_nam hw N
  have nd : T'.Nodup := by
    refine hp.nodup_iff.mpr ?_
    rw [List.Nodup, List.pairwise_map]
    refine (tris_sorted m n).imp_of_mem fun {a b} ha hb z e => ?_
    obtain ⟨a1, a2, a3, rfl, l1, l2, l3, _⟩ := mem_tris.mp ha
    obtain ⟨b1, b2, b3, rfl, k1, k2, k3, _⟩ := mem_tris.mp hb
    simp only [List.map_cons, List.map_nil, List.cons.injEq, and_true] at e
    have h1 := N.inj _ _ l1 k1 e.1
    have h2 := N.inj _ _ l2 k2 e.2.1
    have h3 := N.inj _ _ l3 k3 e.2.2
    subst h1 h2 h3
    exact lt_irr _ z
  refine one_sorted (lt := fun p q : List Nat => p < q) lt_irr (fun a b c h g => lt_tr h g) ?_ (tris_sorted _ _) fun q => ?_
  · refine List.Pairwise.imp (R := fun p q => p ≤ q ∧ p ≠ q) (fun {p q} z => ?_) (List.Pairwise.and ho nd)
    by_cases h : p < q
    · exact h
    · exact absurd (List.le_antisymm z.1 (List.not_lt.mp h)) z.2
  · rw [hp.mem_iff, List.mem_map, mem_tris]
    constructor
    · rintro ⟨q', hq', rfl⟩
      obtain ⟨a, b, c, rfl, ha, hb, hc, e⟩ := mem_tris.mp hq'
      exact ⟨_, _, _, rfl, N.lt ha, N.lt hb, N.lt hc, by rw [E.hand ha hb hc]; exact e⟩
    · rintro ⟨a, b, c, rfl, ha, hb, hc, e⟩
      have e1 := E.hand (N.inv_lt ha) (N.inv_lt hb) (N.inv_lt hc)
      rw [N.sg_inv ha, N.sg_inv hb, N.sg_inv hc, e] at e1
      exact ⟨[inv names a, inv names b, inv names c], mem_tris.mpr ⟨_, _, _, rfl, N.inv_lt ha, N.inv_lt hb, N.inv_lt hc, e1.symm⟩, by simp [N.sg_inv ha, N.sg_inv hb, N.sg_inv hc]⟩
/-! numbers of the mirror -/
theorem count_turn {l : List Str} (h : ∀ s ∈ l, IsKind s) {s : Str} (hs : IsKind s) : (l.map turnK).count s = l.count (turnK s) := by
  induction l with
  | nil => rfl
  | cons x l ih =>
    rw [List.map_cons, List.count_cons, List.count_cons, ih fun y hy => h y (by simp [hy])]
    congr 1
    have hx := h x (by simp)
    have : (turnK x = s) ↔ (x = turnK s) := ⟨fun z => by rw [← z, turn_turn hx], fun z => by rw [z, turn_turn hs]⟩
    by_cases e : x = turnK s
    · rw [if_pos (by simpa using this.mpr e), if_pos (by simpa using e)]
    · rw [if_neg (by simpa using fun z => e (this.mp z)), if_neg (by simpa using e)]
theorem kinds_mir {m : Rows} {n : Nat} (hw : Wf n m) (hs : Sound n m) : (kindsOf (mirR m n) n).Perm ((kindsOf m n).map turnK) := by
  have nd1 : (foursL (mirR m n) n).Nodup := by
    exact (fours_sorted (mirR m n) n).imp fun {a b} z (e : a = b) => by rw [e] at z; exact lt_irr _ z
  have nd2 : ((foursL m n).map fun e => (e.1.reverse, turnK e.2)).Nodup := by
    rw [List.Nodup, List.pairwise_map]
    refine (fours_sorted m n).imp fun {a b} z e => ?_
    injection e with e1 _
    rw [List.reverse_inj.mp e1] at z
    exact lt_irr _ z
  have : (foursL (mirR m n) n).Perm ((foursL m n).map fun e => (e.1.reverse, turnK e.2)) := by
    rw [List.perm_ext_iff_of_nodup nd1 nd2]
    intro e
    rw [mem_mir hw hs, List.mem_map]
    exact ⟨fun ⟨e', h, z⟩ => ⟨e', h, z.symm⟩, fun ⟨e', h, z⟩ => ⟨e', h, z.symm⟩⟩
  have := this.map (·.2)
  rw [List.map_map] at this
  unfold kindsOf
  rw [List.map_map]
  exact this
theorem count_mir {m : Rows} {n : Nat} (hw : Wf n m) (hs : Sound n m) {s : Str} (h : IsKind s) : (kindsOf (mirR m n) n).count s = (kindsOf m n).count (turnK s) := by
  rw [(kinds_mir hw hs).count_eq, count_turn (fun x hx => ?_) h]
  obtain ⟨e, he, rfl⟩ := List.mem_map.mp hx
  exact four_kind he
end

abbrev s_ends : Stmt := top 42
abbrev s_queues : Stmt := top 43
abbrev s_kept : Stmt := top 45
abbrev s_few : Stmt := top 44
abbrev nEnds : List Str := ["_law_rows_here", "_law_queue", "_law_known", "_law_found", "_law_at", "_law_made", "_law_less", "_law_end"]
abbrev nQueues : List Str := ["_law_many", "_law_length", "_law_found", "_law_turn", "_law_more", "_law_queue", "_law_command"]
abbrev nFew : List Str := ["_law_rows_here", "_law_box_here", "_law_lot", "_law_turn", "_law_a", "_law_b"]
theorem sc_ends : FnScope nEnds ["_law_rows_here", "_law_queue", "_law_known"] (defScope s_ends) := ⟨rfl, rfl, rfl, by decide +kernel, rfl, by decide +kernel, by decide +kernel⟩
theorem sc_queues : FnScope nQueues ["_law_many", "_law_length"] (defScope s_queues) := ⟨rfl, rfl, rfl, by decide +kernel, rfl, by decide +kernel, by decide +kernel⟩
theorem sc_kept : FnScope ["_law_made", "_law_lot"] ["_law_made", "_law_lot"] (defScope s_kept) := ⟨rfl, rfl, rfl, by decide +kernel, rfl, by decide +kernel, by decide +kernel⟩
theorem sc_few : FnScope nFew ["_law_rows_here", "_law_box_here"] (defScope s_few) := ⟨rfl, rfl, rfl, by decide +kernel, rfl, by decide +kernel, by decide +kernel⟩
section
variable {P : Program} {w : World} {K : PySem.W.Frag} {mg : Str → Option Value} {base : Heap} {f : Addr} {fd : FuncData} {C : Addr}
open FM
def qsD (L : List (List Nat)) : List D := tabsD L
def SQueues : FSpec := fun ds α R => ∃ n k : Nat, ds = [.int n, .int k] ∧ n ≤ 12 ∧ k ≤ 4 ∧ R (.lst (tabsD (qsL n k))) α
theorem fn_queues (F : Fun K "_law_queues" "_law_queues" s_queues f fd) (Z : Bl mg) : FnOk P w K mg base CX0 1 f fd ["_law_many", "_law_length"] (SpD K SQueues) := by
  refine fn_def F sc_queues (fun ds α R h => by obtain ⟨m, n, rfl, _⟩ := h; rfl) (fun cdv A outer sh H E hr ds α R h hna hnd => ?_)
  obtain ⟨n, k, rfl, hn, hk, h⟩ := h
  have nd : nQueues.Nodup := by decide +kernel
  refine dss_cons ?_
  refine ds_set 2 nd ?_
  refine de_lst ?_
  refine da_consT ?_
  refine de_tup (da_nil ⟨by decide, ?_⟩)
  refine da_nil ⟨by decide, ?_⟩
  refine dss_cons ?_
  refine ds_for PassesOwn.never rfl (di_range1 Z.range ?_)
  walk_at "go"
  refine ⟨by omega, by omega, fun j ρ' α' => j ≤ k ∧ α' = α ∧ ∃ x1 x2 x3, ρ' = [some (.int (n : Nat)), some (.int (k : Nat)), some (.lst (tabsD (qsL n j))), x1, x2, x3, none], ⟨Nat.zero_le _, rfl, _, _, _, rfl⟩, fun _ _ _ _ => trivial, ?_, ?_⟩
  · rintro j y ρ' α' hy ⟨hj, rfl, x1, x2, x3, rfl⟩
    obtain ⟨hj1, rfl⟩ := rgD_ix hy
    have hj' : j < k := by omega
    have hsm := qsL_small hn (show j ≤ 4 by omega)
    have hsm1 := qsL_small hn (show j + 1 ≤ 4 by omega)
    refine dg_name 3 nd ?_
    refine dss_cons ?_
    refine ds_set 4 nd ?_
    refine de_lst (da_nil ⟨by decide, ?_⟩)
    refine dss_cons ?_
    refine ds_for PassesOwn.never rfl (di_list ?_)
    walk_at "go"
    refine ⟨_, rfl, rfl, fun i ρ2 α2 => i ≤ (qsL n j).length ∧ α2 = α' ∧ ∃ x3, ρ2 = [some (.int (n : Nat)), some (.int (k : Nat)), some (.lst (tabsD (qsL n j))), some (.int (j : Nat)), some (.lst (tabsD (((qsL n j).take i).flatMap fun q => (List.range n).map fun c => q ++ [c]))), x3, none], ⟨Nat.zero_le _, rfl, _, rfl⟩, fun _ _ _ _ => rfl, ?_, ?_⟩
    · rintro i y ρ2 α2 hy2 ⟨hi, rfl, x3, rfl⟩
      obtain ⟨q, hq, rfl⟩ := tabsD_get hy2
      have hi' := (List.getElem?_eq_some_iff.mp hq).1
      refine dg_name 5 nd ?_
      refine dss_cons ?_
      refine ds_set 4 nd ?_
      refine de_op op_cat ?_
      walk_at "go"
      refine de_lcT (own := [("_law_command", 6)]) (.nm 6) rfl nd (blkOk_by (N := nQueues) (sc := defScope s_queues) (by decide +kernel)) (by decide) (fun _ _ _ _ _ => pg_name (i := 6) nd rfl (Or.inl rfl)) (fun hna2 => LcGT.pure ?_)
      refine di_range1 Z.range ?_
      walk_at "go"
      refine ⟨by omega, by omega, rfl, fun _ => trivial, by rw [rgD_len]; omega, tabsD ((List.range n).map fun c => q ++ [c]), by rw [rgD_len, tabsD_len]; simp, ?_, Nat.le_refl _, hna2, na_tabs _ _, ?_⟩
      · intro c y z acc hy hz
        obtain ⟨hc, rfl⟩ := rgD_ix hy
        have hc' : c < n := by omega
        obtain ⟨t, ht, rfl⟩ := tabsD_get hz
        rw [List.getElem?_map, List.getElem?_range hc'] at ht
        cases ht
        refine ⟨_, rfl, fun s H C cl fp => ?_⟩
        refine de_op op_catA ?_
        walk_at "go"
        refine od_catT (ds := intsD q) (es := [.int (c : Nat)]) (by
          have hl := (mem_qsL.mp (List.mem_of_getElem? hq)).1
          rw [intsD_len]; simp; omega) ?_
        refine ⟨?_, rfl⟩
        unfold tabD
        rw [intsD_app]; rfl
      · refine od_cat rfl rfl ?_ ?_
        · rw [tabsD_len, tabsD_len]
          have hle : (((qsL n j).take i).flatMap fun q => (List.range n).map fun c => q ++ [c]).length = i * n := by
            rw [flatMap_len (c := n) fun q => by simp, List.length_take, Nat.min_eq_left (Nat.le_of_lt hi')]
          rw [hle]
          have : i * n ≤ 20736 * 12 := Nat.mul_le_mul (by omega) hn
          simp
          omega
        · rw [tabsD_app]
          refine dss_nil ⟨hi', rfl, some (tabD q), ?_⟩
          rw [List.take_add_one, hq, List.flatMap_append]
          simp
    · rintro ρ2 α2 ⟨hi, rfl, x3, rfl⟩
      rw [tabsD_len, List.take_length]
      refine dss_cons ?_
      refine ds_set 2 nd ?_
      walk_at "go"
      exact dss_nil ⟨hj', rfl, _, _, _, rfl⟩
  · rintro ρ' α' ⟨hj, rfl, x1, x2, x3, rfl⟩
    rw [rgD_len]
    refine dss_cons (ds_ret ?_)
    walk_at "go"
    exact h
end

section
variable {P : Program} {w : World} {K : PySem.W.Frag} {mg : Str → Option Value} {base : Heap} {f : Addr} {fd : FuncData} {C : Addr}
open FM
structure Memo (m : Rows) (es : List (List Key × D)) : Prop where
  look : ∀ q d, lookP es (qK q) = some d → d = .lst (tabsD (ends (tab m) q))
  all : ∀ p ∈ es, ∃ q, p.2 = .lst (tabsD (ends (tab m) q))
theorem Memo.nil {m : Rows} : Memo m [] := ⟨fun q d h => by simp [lookP] at h, fun p hp => by simp at hp⟩
theorem Memo.put {m : Rows} {es : List (List Key × D)} (h : Memo m es) (q : List Nat) : Memo m (putP es (qK q) (.lst (tabsD (ends (tab m) q)))) := by
  refine ⟨fun q' d h' => ?_, fun p hp => ?_⟩
  · rw [lookP_put] at h'
    by_cases e : qK q = qK q'
    · rw [if_pos e] at h'
      have := qK_inj e
      subst this
      injection h' with h'
      exact h'.symm
    · rw [if_neg e] at h'
      exact h.look q' d h'
  · unfold putP at hp
    split at hp
    · obtain ⟨p', hp', rfl⟩ := List.mem_map.mp hp
      split
      · exact ⟨q, rfl⟩
      · exact h.all p' hp'
    · rcases List.mem_append.mp hp with hp | hp
      · exact h.all p hp
      · simp at hp; subst hp; exact ⟨q, rfl⟩
theorem Memo.na {m : Rows} {es : List (List Key × D)} (h : Memo m es) (k : Nat) : (Cl.td es).na k = true := by
  refine nas_of fun x hx => ?_
  obtain ⟨p, hp, rfl⟩ := List.mem_map.mp hx
  obtain ⟨q, e⟩ := h.all p hp
  rw [e]
  exact na_tabs _ _
/-- how many there are at most -/
def bud : Nat → Nat
  | 0 => 1
  | L + 1 => 1 + L * bud L
def eMax : Nat → Nat
  | 0 => 1
  | 1 => 1
  | L + 2 => (L + 1) * eMax (L + 1)
theorem eMax_pos : ∀ L, 1 ≤ eMax L
  | 0 => Nat.le_refl _
  | 1 => Nat.le_refl _
  | L + 2 => by
    unfold eMax
    exact Nat.mul_pos (by omega) (eMax_pos (L + 1))
theorem eMax_small {L : Nat} (h : L ≤ 7) : eMax L ≤ 720 := by
  have : ∀ L, L < 8 → eMax L ≤ 720 := by decide
  exact this L (by omega)
theorem bud_small {L : Nat} (h : L ≤ 7) : bud L ≤ 1957 := by
  have : ∀ L, L < 8 → bud L ≤ 1957 := by decide
  exact this L (by omega)
theorem endsUp_len {t : Tab} {q : List Nat} {B : Nat} (h : ∀ r, r.length < q.length → (ends t r).length ≤ B) : ∀ k, (endsUp t q k).length ≤ k * B
  | 0 => by simp [endsUp]
  | k + 1 => by
    have ih := endsUp_len h k
    rw [endsUp_succ, Nat.succ_mul]
    cases hs : stepAt t q k with
    | none => exact Nat.le_trans ih (by omega)
    | some r =>
      show (addNew _ _).length ≤ _
      unfold addNew
      rw [List.length_append]
      have h1 := h r (stepAt_len hs).1
      have h2 := List.length_filter_le (fun e => decide (e ∉ endsUp t q k)) (ends t r)
      omega
theorem ends_len {t : Tab} : ∀ (L : Nat) (q : List Nat), q.length ≤ L → (ends t q).length ≤ eMax L
  | 0, q, h => by
    have : q = [] := List.length_eq_zero_iff.mp (by omega)
    subst this
    exact Nat.le_refl _
  | 1, q, h => by
    rw [ends_eq, show q.length - 1 = 0 by omega]
    exact Nat.le_refl _
  | L + 2, q, h => by
    rw [ends_eq]
    by_cases hu : endsUp t q (q.length - 1) = []
    · rw [if_pos hu]; exact eMax_pos _
    · rw [if_neg hu]
      refine Nat.le_trans (endsUp_len (fun r hr => ends_len (L + 1) r (by omega)) _) ?_
      show (q.length - 1) * eMax (L + 1) ≤ (L + 1) * eMax (L + 1)
      exact Nat.mul_le_mul_right _ (by omega)
theorem de_two {X : Cx} {ρ : Rho} {α : Sto} {R : RE} {b : Bool} {x y : Expr} (d : D) (h : R d α) (h1 : b = true → R d α → DE X x ρ α R) (h2 : b = false → R d α → DE X y ρ α R) : if b = true then DE X x ρ α R else DE X y ρ α R := by
  cases b with
  | true => rw [if_pos rfl]; exact h1 rfl h
  | false => rw [if_neg Bool.false_ne_true]; exact h2 rfl h
def SEnds (L : Nat) : FSpec := fun ds α R => ∃ (m : Rows) (n : Nat) (q : List Nat) (c : Nat) (es : List (List Key × D)), ds = [lstR m, tabD q, .acc c] ∧ Wf n m ∧ (∀ y ∈ q, y < n) ∧ q.length ≤ L ∧ α[c]? = some (.td es) ∧ Memo m es ∧ es.length + bud L ≤ 900000 ∧
  ∀ es', Memo m es' → es'.length ≤ es.length + bud L → R (.lst (tabsD (ends (tab m) q))) (α.set c (.td es'))
theorem fn_ends (F : Fun K "_law_ends" "_law_ends" s_ends f fd) (Z : Bl mg) (L : Nat) (hL : L ≤ 7) (c1 : ∀ j, L = j + 1 → Fx P w K mg base L "_law_ends" ["_law_rows_here", "_law_queue", "_law_known"] (SEnds j)) : FnOk P w K mg base CX0 (L + 1) f fd ["_law_rows_here", "_law_queue", "_law_known"] (SpD K (SEnds L)) := by
  refine fn_def F sc_ends (fun ds α R h => by obtain ⟨m, n, q, c, es, rfl, _⟩ := h; rfl) (fun cdv A outer sh H E hr ds α R h hna hnd => ?_)
  obtain ⟨m, n, q, c, es, rfl, hw, hq, hl, hc, hm, hz, h⟩ := h
  have nd : nEnds.Nodup := by decide +kernel
  have hcl : c < α.length := (List.getElem?_eq_some_iff.mp hc).1
  have gc : ∀ es' : List (List Key × D), (α.set c (.td es'))[c]? = some (.td es') := fun es' => by simp [hcl]
  have sc : ∀ es' es'' : List (List Key × D), (α.set c (.td es')).set c (.td es'') = α.set c (.td es'') := fun es' es'' => List.set_set ..
  have s0 : α.set c (.td es) = α := by
    apply List.ext_getElem?
    intro i
    rw [List.getElem?_set]
    by_cases hi : c = i
    · subst hi; rw [if_pos rfl, if_pos hcl, hc]
    · simp [hi]
  refine dss_cons (ds_if (dt_din (roomP1 hr) rfl ?_))
  walk_at "go"
  refine ⟨c, lookP es (qK q), rfl, .inr ⟨es, qK q, hc, qK_D q, rfl⟩, ?_⟩
  cases hk : lookP es (qK q) with
  | some d =>
    refine ifT rfl (dss_cons (ds_ret (de_dget (roomP1 hr) ?_)))
    walk_at "go"
    refine ⟨c, d, rfl, .inr ⟨es, qK q, hc, qK_D q, hk.symm⟩, ?_⟩
    rw [hm.look q d hk]
    have := h es hm (by omega)
    rw [s0] at this
    exact this
  | none =>
    refine ifF rfl (dss_nil ?_)
    refine dss_cons ?_
    refine ds_set 3 nd ?_
    refine de_lst (da_nil ⟨by decide, ?_⟩)
    refine dss_cons ?_
    refine ds_for PassesOwn.never rfl (di_range1 Z.range ?_)
    walk_at "go"
    refine cd_len rfl ?_
    walk_at "go"
    rw [intsD_len]
    refine ⟨by omega, by omega, fun k ρ' α' => ∃ es' x4 x5 x6 x7, α' = α.set c (.td es') ∧ Memo m es' ∧ es'.length ≤ es.length + k * bud (L - 1) ∧ ρ' = [some (lstR m), some (tabD q), some (.acc c), some (.lst (tabsD (endsUp (tab m) q k))), x4, x5, x6, x7], ⟨es, none, none, none, none, s0.symm, hm, by omega, rfl⟩, fun _ _ _ _ => trivial, ?_, ?_⟩
    · rintro k y ρ' α' hy ⟨es', x4, x5, x6, x7, rfl, hm', hl', rfl⟩
      obtain ⟨hk1, rfl⟩ := rgD_ix hy
      have hk' : k + 1 < q.length := by omega
      obtain ⟨j, rfl⟩ : ∃ j, L = j + 1 := ⟨L - 1, by omega⟩
      rw [Nat.add_sub_cancel] at hl' 
      have hb7 := bud_small hL
      have hmul : k * bud j + bud j ≤ j * bud j := by
        rw [← Nat.succ_mul]
        exact Nat.mul_le_mul_right _ (by omega)
      have hbud : bud (j + 1) = 1 + j * bud j := rfl
      have e0 : q[k]? = some q[k] := by simp
      have e1 : q[k + 1]? = some q[k + 1] := by simp [hk']
      have hx : q[k] < n := hq _ (List.getElem_mem _)
      have hy : q[k + 1] < n := hq _ (List.getElem_mem _)
      generalize q[k] = x at e0 hx
      generalize q[k + 1] = y at e1 hy
      refine dg_name 4 nd ?_
      refine dss_cons (ds_set 5 nd ?_)
      walk_at "goI"
      refine od_ix rfl (intsD_at e0) ?_
      walk_at "goI"
      have e3 : ((k : Nat) : Int) + 1 = ((k + 1 : Nat) : Int) := by omega
      rw [e3]
      refine od_ix rfl (intsD_at e1) ?_
      walk_at "goI"
      have hEu : (tabsD (endsUp (tab m) q k)).length ≤ 7 * 720 := by
        rw [tabsD_len]
        refine Nat.le_trans (endsUp_len (fun r hr => ends_len 7 r (by omega)) k) ?_
        exact Nat.mul_le_mul (by omega) (eMax_small (Nat.le_refl _))
      cases ez : look m x y with
      | none =>
        refine dss_cons (ds_if ?_)
        walk_at "goI"
        have : stepAt (tab m) q k = none := by
          unfold stepAt
          rw [e0, e1]
          simp only [tab_none.mpr ez, Option.map_none]
        have eN : endsUp (tab m) q (k + 1) = endsUp (tab m) q k := by rw [endsUp_succ, this]
        refine dss_nil (dss_nil ⟨es', some (.int (k : Nat)), some (encE none), x6, x7, rfl, hm', by rw [Nat.succ_mul]; simp only [Nat.add_sub_cancel]; omega, ?_⟩)
        rw [eN]; rfl
      | some z =>
        have hz0 := hw.look hx hy ez
        obtain ⟨zs, hzs, hst⟩ : ∃ zs : List Nat, (z = -1 ∧ zs = [] ∨ ∃ d : Nat, z = d ∧ zs = [d]) ∧ stepAt (tab m) q k = some (q.take k ++ zs ++ q.drop (k + 2)) := by
          unfold stepAt
          rw [e0, e1]
          by_cases hg : z = -1
          · subst hg
            exact ⟨[], .inl ⟨rfl, rfl⟩, by simp only [tab_gone ez, Option.map_some]; rfl⟩
          · obtain ⟨d, rfl⟩ := nat_of hz0.1 hg
            exact ⟨[d], .inr ⟨d, rfl, rfl⟩, by simp only [tab_some ez, Option.map_some]; rfl⟩
        have hl1 : zs.length ≤ 1 := by rcases hzs with ⟨_, rfl⟩ | ⟨d, _, rfl⟩ <;> simp
        have hta : (q.take k).length ≤ 7 := by simp; omega
        have htd : (q.drop (k + 2)).length ≤ 7 := by simp; omega
        refine dss_cons (ds_if ?_)
        walk_at "goI"
        refine dss_cons (ds_set 6 nd (de_op op_catA (de_op op_catA (de_slice sl_tupA ?_))))
        walk_at "goI"
        refine do_none (do_some ?_)
        walk_at "goI"
        refine sd_tup ?_
        rw [cut_take]
        walk_at "goI"
        refine de_two (.tup (intsD zs)) ?_ (fun hb hR => ?_) (fun hb hR => ?_)
        · refine od_catT (ds := intsD (q.take k)) (es := intsD zs) (by rw [intsD_len, intsD_len]; omega) ?_
          refine de_slice sl_tupA ?_
          walk_at "goI"
          refine do_some ?_
          walk_at "goI"
          refine do_none ?_
          have e2 : ((k : Nat) : Int) + 2 = ((k + 2 : Nat) : Int) := by omega
          rw [e2]
          refine sd_tup ?_
          rw [cut_drop, ← intsD_app]
          refine od_catT (ds := intsD (q.take k ++ zs)) (es := intsD (q.drop (k + 2))) (by rw [intsD_len, intsD_len, List.length_append]; omega) ?_
          rw [← intsD_app]
          have hlt := (stepAt_len hst).1
          generalize hless : q.take k ++ zs ++ q.drop (k + 2) = less at hst hlt
          refine dss_cons (ds_set 3 nd (de_op op_cat ?_))
          walk_at "go"
          refine de_lcT (own := [("_law_end", 7)]) (.nm 7) rfl nd (blkOk_by (N := nEnds) (sc := defScope s_ends) (by decide +kernel)) (by decide) (fun _ _ _ _ _ => pg_name (i := 7) nd rfl (Or.inl rfl)) (fun hna2 => LcGT.filter' ?_)
          refine di_list (de_naR (de_call (c1 j rfl) hr rfl ?_))
          walk_at "go"
          refine ⟨m, n, less, c, es', rfl, hw, ?_, by omega, gc es', hm', by omega, fun es'' hm'' hl'' hna3 => ?_⟩
          · intro y hy
            rw [← hless] at hy
            simp only [List.mem_append] at hy
            rcases hy with (hy | hy) | hy
            · exact hq y (List.mem_of_mem_take hy)
            · rcases hzs with ⟨_, rfl⟩ | ⟨d, rfl, rfl⟩
              · simp at hy
              · simp at hy; subst hy; omega
            · exact hq y (List.mem_of_mem_drop hy)
          rw [sc] at hna3 ⊢
          have hE := Nat.le_trans (ends_len (t := tab m) 7 less (by omega)) (eMax_small (Nat.le_refl _))
          refine ⟨tabsD (ends (tab m) less), rfl, rfl, fun _ => rfl, by rw [tabsD_len]; omega, zfOf (fun e => decide (e ∉ endsUp (tab m) q k)), fun y acc hy => ?_, ?_⟩
          · obtain ⟨e, he, rfl⟩ := tabsD_mem hy
            refine ⟨_, rfl, fun s H C cl fp => dts_one ?_⟩
            refine dt_cmp (op_notInD (units65 hr)) rfl ?_
            walk_at "go"
            refine od_ninT ⟨_, rfl, rfl, iteB (fun h1 => ?_) (fun h1 => ?_)⟩
            · intro s H C cl fp
              walk_at "go"
              exact ⟨zf_t (by simpa using h1), rfl⟩
            · exact zf_f (by simpa using h1)
          · rw [zf_tabs]
            refine ⟨by simp, hna3, na_tabs _ _, ?_⟩
            have hF := List.length_filter_le (fun e => decide (e ∉ endsUp (tab m) q k)) (ends (tab m) less)
            rw [tabsD_len] at hEu
            refine od_cat rfl rfl (by rw [tabsD_len, tabsD_len]; omega) ?_
            rw [tabsD_app]
            have eN : endsUp (tab m) q (k + 1) = endsUp (tab m) q k ++ (ends (tab m) less).filter (fun e => decide (e ∉ endsUp (tab m) q k)) := by
              rw [endsUp_succ, hst]
              rfl
            rw [← eN]
            exact dss_nil (dss_nil ⟨es'', _, _, _, _, rfl, hm'', by rw [Nat.succ_mul]; simp only [Nat.add_sub_cancel]; omega, rfl⟩)
        · rcases hzs with ⟨_, rfl⟩ | ⟨d, rfl, rfl⟩
          · walk_at "goI"
            exact hR
          · simp at hb
        · rcases hzs with ⟨rfl, _⟩ | ⟨d, rfl, rfl⟩
          · simp at hb
          · walk_at "goI"
            exact hR
    · rintro ρ' α' ⟨es', x4, x5, x6, x7, rfl, hm', hl', rfl⟩
      rw [rgD_len] at hl' ⊢
      have et : ((q.length : Int) - 1).toNat = q.length - 1 := by omega
      rw [et] at hl' ⊢
      have hlim : es'.length + 1 ≤ es.length + bud L := by
        cases L with
        | zero =>
          have : q.length - 1 = 0 := by omega
          rw [this] at hl'
          show _ ≤ es.length + 1
          omega
        | succ j =>
          have : (q.length - 1) * bud j ≤ j * bud j := Nat.mul_le_mul_right _ (by omega)
          show _ ≤ es.length + (1 + j * bud j)
          simp only [Nat.add_sub_cancel] at hl'
          omega
      have put : ∀ (R' : RE), R' (.lst (tabsD (ends (tab m) q))) (α.set c (.td es')) → True := fun _ _ => trivial
      refine dss_cons (ds_dput (roomP1 hr) (de_ite ?_))
      walk_at "go"
      refine de_lst (da_nil ⟨by decide, ?_⟩)
      refine od_neNil ?_
      refine ⟨_, rfl, ?_⟩
      refine de_two (.lst (tabsD (ends (tab m) q))) ?_ (fun hb hR => ?_) (fun hb hR => ?_)
      · walk_at "go"
        refine ⟨c, .td (putP es' (qK q) (.lst (tabsD (ends (tab m) q)))), rfl, .inr ⟨es', qK q, gc es', qK_D q, by omega, rfl⟩, ?_⟩
        rw [sc]
        refine dss_cons (ds_ret (de_dget (roomP1 hr) ?_))
        walk_at "go"
        refine ⟨c, .lst (tabsD (ends (tab m) q)), rfl, .inr ⟨_, qK q, gc _, qK_D q, by rw [lookP_put, if_pos rfl]⟩, ?_⟩
        have hp := putP_len (es := es') (k := qK q) (d := .lst (tabsD (ends (tab m) q)))
        exact h _ (hm'.put q) (by omega)
      · have : ends (tab m) q = endsUp (tab m) q (q.length - 1) := by
          rw [ends_eq, if_neg (by simpa using hb)]
        exact de_nm (d := .lst (tabsD (ends (tab m) q))) (by rw [this]; rfl) hR
      · refine de_lst (da_consN (de_nm rfl (da_nil ⟨Nat.le_of_ble_eq_true rfl, ?_⟩)))
        have : ends (tab m) q = [q] := by
          rw [ends_eq, if_pos (by simpa using hb)]
        rw [this] at hR
        exact hR
end

section
open FM
theorem find_congr {β : Type} {p q : β → Bool} : ∀ {l : List β}, (∀ x ∈ l, p x = q x) → l.find? p = l.find? q
  | [], _ => rfl
  | x :: l, h => by
    rw [List.find?_cons, List.find?_cons, h x (by simp), find_congr fun y hy => h y (by simp [hy])]
/-- queues of three that are hand-overs' -/
def handQ (m : Rows) : List Nat → Bool
  | [a, b, c] => handB m a b c
  | _ => false
def toT : List Nat → Nat × Nat × Nat
  | [a, b, c] => (a, b, c)
  | _ => (0, 0, 0)
theorem filt_map (m : Rows) (a b : Nat) : ∀ l : List Nat, (l.map fun c => [a, b, c]).filter (handQ m) = (l.filterMap fun c => if handB m a b c then some (a, b, c) else none).map triL
  | [] => rfl
  | c :: l => by
    rw [List.map_cons, List.filter_cons, filt_map m a b l]
    show (if handB m a b c = true then _ else _) = _
    cases h : handB m a b c with
    | true => rw [List.filterMap_cons, h]; rfl
    | false => rw [List.filterMap_cons, h]; rfl
theorem flat_filter {β γ : Type} (p : γ → Bool) (g : β → List γ) : ∀ l : List β, (l.flatMap g).filter p = l.flatMap fun x => (g x).filter p
  | [] => rfl
  | x :: l => by rw [List.flatMap_cons, List.filter_append, flat_filter p g l, List.flatMap_cons]
theorem qs1 (n : Nat) : qsL n 1 = (List.range n).map fun a => [a] := by
  show [[]].flatMap (fun q : List Nat => (List.range n).map fun c => q ++ [c]) = _
  rw [List.flatMap_cons, List.flatMap_nil, List.append_nil]
  rfl
theorem qs3 (n : Nat) : qsL n 3 = (List.range n).flatMap fun a => (List.range n).flatMap fun b => (List.range n).map fun c => [a, b, c] := by
  have e2 : qsL n 2 = (List.range n).flatMap fun a => (List.range n).map fun b => [a, b] := by
    show (qsL n 1).flatMap (fun q : List Nat => (List.range n).map fun c => q ++ [c]) = _
    rw [qs1, List.flatMap_map]
    rfl
  show (qsL n 2).flatMap (fun q : List Nat => (List.range n).map fun c => q ++ [c]) = _
  rw [e2, List.flatMap_assoc]
  congr 1
  funext a
  rw [List.flatMap_map]
  rfl
/-- all hand-overs' triples, in order -/
theorem tris_eq (m : Rows) (n : Nat) : (qsL n 3).filter (handQ m) = trisL m n := by
  rw [qs3, flat_filter]
  unfold trisL L1 L2' L3
  rw [List.map_flatMap]
  congr 1
  funext a
  rw [flat_filter, List.map_flatMap]
  congr 1
  funext b
  exact filt_map m a b _
theorem find_tris {m : Rows} {n : Nat} (p : Nat × Nat × Nat → Bool) : (qsL n 3).find? (fun q => handQ m q && p (toT q)) = ((L1 m n n).find? p).map triL := by
  have h1 : ((qsL n 3).filter (handQ m)).find? (fun q => p (toT q)) = (qsL n 3).find? (fun q => handQ m q && p (toT q)) := by
    rw [List.find?_filter]
    refine find_congr fun q _ => ?_
    simp
  rw [← h1, tris_eq]
  unfold trisL
  rw [List.find?_map]
  rfl
theorem find_fours {m : Rows} : ∀ l : List (List Nat), (l.filterMap fun q => (kindQ m q).map fun s => (q, s)).head?.map (·.1) = l.find? fun q => (kindQ m q).isSome
  | [] => rfl
  | q :: l => by
    rw [List.filterMap_cons, List.find?_cons]
    cases h : kindQ m q with
    | none => simpa using find_fours l
    | some s => rfl
/-- more than one end -/
def q1 (m : Rows) (q : List Nat) : Bool := decide (1 < (ends (tab m) q).length)
/-- unlike bags among the ends -/
def qb (m : Rows) (q : List Nat) : Bool := !((ends (tab m) q).all fun e => (ends (tab m) q).all fun e' => decide (e.Perm e'))
theorem q1_iff {m : Rows} {q : List Nat} : q1 m q = false ↔ One (tab m) (fun q r => q = r) q := by
  rw [← len_one]
  have : 1 ≤ (ends (tab m) q).length := List.length_pos_iff.mpr ends_ne
  unfold q1
  rw [decide_eq_false_iff_not]
  omega
theorem qb_iff {m : Rows} {q : List Nat} : qb m q = false ↔ One (tab m) (fun q r => q.Perm r) q := by
  unfold qb FM.One
  simp
theorem tab_look {m : Rows} {n a b x : Nat} (hw : Wf n m) (ha : a < n) (hb : b < n) (h : tab m a b = some (some x)) : look m a b = some (x : Int) := by
  unfold tab at h
  cases e : look m a b with
  | none => rw [e] at h; cases h
  | some i =>
    rw [e] at h
    have h' : (if i = -1 then some none else some (some i.toNat)) = some (some x) := h
    obtain ⟨h1, _⟩ := hw.look ha hb e
    by_cases hi : i = -1
    · rw [if_pos hi] at h'; cases h'
    · rw [if_neg hi] at h'
      injection h' with h'
      injection h' with h'
      congr 1
      omega
theorem hand_parts {m : Rows} {n a b c : Nat} (hw : Wf n m) (ha : a < n) (hb : b < n) (hc : c < n) : handB m a b c = true ↔ ∃ x y, tab m a b = some (some x) ∧ tab m b c = some (some y) ∧ tab m x c = none := by
  rw [← hand_tab hw ha hb hc]
  exact ⟨fun ⟨e, d, h1, h2, h3⟩ => ⟨e, d, h1, h2, h3⟩, fun ⟨e, d, h1, h2, h3⟩ => ⟨e, d, h1, h2, h3⟩⟩
theorem unl_iff {m : Rows} {n a b c x y : Nat} (hw : Wf n m) (ha : a < n) (hb : b < n) (hc : c < n) (h1 : tab m a b = some (some x)) (h2 : tab m b c = some (some y)) : unl m (a, b, c) = false ↔ [x, c] = [a, y] := by
  have e1 := tab_look hw ha hb h1
  have e2 := tab_look hw hb hc h2
  unfold unl
  simp only [e1, e2, Bool.not_eq_false', Bool.and_eq_true, decide_eq_true_eq, Option.some.injEq, List.cons.injEq, and_true]
  constructor
  · rintro ⟨h, h'⟩; omega
  · rintro ⟨h, h'⟩; omega
theorem unb_iff {m : Rows} {n a b c x y : Nat} (hw : Wf n m) (ha : a < n) (hb : b < n) (hc : c < n) (h1 : tab m a b = some (some x)) (h2 : tab m b c = some (some y)) : unb m (a, b, c) = false ↔ [x, c].Perm [a, y] := by
  have e1 := mk_tab hw ha hb h1
  have e2 := mk_tab hw hb hc h2
  unfold unb
  simp only [e1, e2, Bool.not_eq_false', decide_eq_true_eq]
  rw [perm2]
  have p2 : [x, c].Perm [a, y] ↔ (x = a ∧ c = y) ∨ (x = y ∧ c = a) := by
    constructor
    · intro h
      have : ([x, c].map Int.ofNat).Perm ([a, y].map Int.ofNat) := h.map _
      have := perm2.mp this
      rcases this with ⟨z1, z2⟩ | ⟨z1, z2⟩
      · exact .inl ⟨Int.ofNat.inj z1, Int.ofNat.inj z2⟩
      · exact .inr ⟨Int.ofNat.inj z1, Int.ofNat.inj z2⟩
    · rintro (⟨rfl, rfl⟩ | ⟨rfl, rfl⟩)
      · exact .refl _
      · exact .swap _ _ _
  rw [p2]
  constructor
  · rintro (⟨z1, z2⟩ | ⟨z1, z2⟩)
    · exact .inl ⟨by omega, by omega⟩
    · exact .inr ⟨by omega, by omega⟩
  · rintro (⟨z1, z2⟩ | ⟨z1, z2⟩)
    · exact .inl ⟨by omega, by omega⟩
    · exact .inr ⟨by omega, by omega⟩
/-- queues of three, by their ends -/
theorem three_q1 {m : Rows} {n a b c : Nat} (hw : Wf n m) (hs : Sound n m) (ha : a < n) (hb : b < n) (hc : c < n) : q1 m [a, b, c] = (handB m a b c && unl m (a, b, c)) := by
  have T := tab_sd hw hs
  cases hh : handB m a b c && unl m (a, b, c) with
  | false =>
    refine q1_iff.mpr (three_loc T rl0_eq ha hb hc fun x y h1 h2 h3 => ?_)
    have : handB m a b c = true := (hand_parts hw ha hb hc).mpr ⟨x, y, h1, h2, h3⟩
    rw [this, Bool.true_and] at hh
    exact (unl_iff hw ha hb hc h1 h2).mp hh
  | true =>
    rw [Bool.and_eq_true] at hh
    obtain ⟨x, y, h1, h2, h3⟩ := (hand_parts hw ha hb hc).mp hh.1
    refine Bool.not_eq_false _ |>.mp fun z => ?_
    have := three_back T ha hb hc h1 h2 h3 (q1_iff.mp z)
    rw [(unl_iff hw ha hb hc h1 h2).mpr this] at hh
    cases hh.2
theorem three_qb {m : Rows} {n a b c : Nat} (hw : Wf n m) (hs : Sound n m) (ha : a < n) (hb : b < n) (hc : c < n) : qb m [a, b, c] = (handB m a b c && unb m (a, b, c)) := by
  have T := tab_sd hw hs
  cases hh : handB m a b c && unb m (a, b, c) with
  | false =>
    refine qb_iff.mpr (three_loc T rl0_bag ha hb hc fun x y h1 h2 h3 => ?_)
    have : handB m a b c = true := (hand_parts hw ha hb hc).mpr ⟨x, y, h1, h2, h3⟩
    rw [this, Bool.true_and] at hh
    exact (unb_iff hw ha hb hc h1 h2).mp hh
  | true =>
    rw [Bool.and_eq_true] at hh
    obtain ⟨x, y, h1, h2, h3⟩ := (hand_parts hw ha hb hc).mp hh.1
    refine Bool.not_eq_false _ |>.mp fun z => ?_
    have := three_back T ha hb hc h1 h2 h3 (qb_iff.mp z)
    rw [(unb_iff hw ha hb hc h1 h2).mpr this] at hh
    cases hh.2
/-- the least queue of three with two ends -/
theorem find_three {m : Rows} {n : Nat} (hw : Wf n m) (hs : Sound n m) : (qsL n 3).find? (q1 m) = ((L1 m n n).find? (unl m)).map triL := by
  rw [← find_tris]
  refine find_congr fun q hq => ?_
  obtain ⟨h3, hl⟩ := mem_qsL.mp hq
  match q, h3, hl with
  | [a, b, c], _, hl => exact three_q1 hw hs (hl a (by simp)) (hl b (by simp)) (hl c (by simp))
theorem find_bag3 {m : Rows} {n : Nat} (hw : Wf n m) (hs : Sound n m) : (qsL n 3).find? (qb m) = ((L1 m n n).find? (unb m)).map triL := by
  rw [← find_tris]
  refine find_congr fun q hq => ?_
  obtain ⟨h3, hl⟩ := mem_qsL.mp hq
  match q, h3, hl with
  | [a, b, c], _, hl => exact three_qb hw hs (hl a (by simp)) (hl b (by simp)) (hl c (by simp))
theorem rl_bagM {m : Rows} {n : Nat} (hw : Wf n m) (h : (L1 m n n).find? (unb m) = none) : Rl (tab m) n fun q r => q.Perm r :=
  rl_bag fun a b c x y ha hb hc h1 h2 h3 => (unb_iff hw ha hb hc h1 h2).mp (L1_find.mp h a b c ha hb hc ((hand_parts hw ha hb hc).mpr ⟨x, y, h1, h2, h3⟩))
theorem rl_eqM {m : Rows} {n : Nat} (hw : Wf n m) (h : (L1 m n n).find? (unl m) = none) : Rl (tab m) n fun q r => q = r :=
  rl_eq fun a b c x y ha hb hc h1 h2 h3 => (unl_iff hw ha hb hc h1 h2).mp (L1_find.mp h a b c ha hb hc ((hand_parts hw ha hb hc).mpr ⟨x, y, h1, h2, h3⟩))
theorem find_bag4 {m : Rows} {n : Nat} (hw : Wf n m) (hs : Sound n m) (h : (L1 m n n).find? (unb m) = none) : (qsL n 4).find? (qb m) = (foursL m n).head?.map (·.1) := by
  unfold foursL
  rw [find_fours]
  refine find_congr fun q hq => ?_
  obtain ⟨h4, hl⟩ := mem_qsL.mp hq
  match q, h4, hl with
  | [a, b, c, d], _, hl =>
    have ha := hl a (by simp)
    have hb := hl b (by simp)
    have hc := hl c (by simp)
    have hd := hl d (by simp)
    show qb m [a, b, c, d] = (DH.kindOf m a b c d).isSome
    cases hk : DH.kindOf m a b c d with
    | none => exact qb_iff.mpr (one4 (tab_sd hw hs) (rl_bagM hw h) ha hb hc hd (kind_ok4 hw ha hb hc hd hk))
    | some s =>
      refine Bool.not_eq_false _ |>.mp fun z => ?_
      have z2 := qb_iff.mp z
      obtain ⟨⟨e, he, h3⟩, e', he', h2⟩ := bad_two hw hs ha hb hc hd (by rw [hk]; simp)
      exact absurd (z2 e he e' he').length_eq (by omega)
theorem find_bag2 {m : Rows} {n : Nat} : (qsL n 2).find? (qb m) = none := by
  rw [List.find?_eq_none]
  intro q hq
  have := (mem_qsL.mp hq).1
  rw [qb_iff.mpr (one_short rl0_bag (by omega))]
  decide
/-- a queue or none, as told -/
def optD : Option (List Nat) → D
  | none => .non
  | some q => tabD q
theorem find_bag {m : Rows} {n : Nat} (hw : Wf n m) (hs : Sound n m) : optD ((qsL n 2 ++ qsL n 3 ++ qsL n 4).find? (qb m)) = bagD m n := by
  rw [List.find?_append, List.find?_append, find_bag2, Option.none_or, find_bag3 hw hs]
  unfold bagD
  cases h : (L1 m n n).find? (unb m) with
  | some t => rfl
  | none =>
    rw [find_bag4 hw hs h]
    cases (foursL m n).head? <;> rfl
theorem bag_none {m : Rows} {n : Nat} (hw : Wf n m) (hs : Sound n m) (h : (qsL n 2 ++ qsL n 3 ++ qsL n 4).find? (qb m) = none) : NoBad n m ∧ Rl (tab m) n fun q r => q.Perm r := by
  rw [List.find?_append, List.find?_append, find_bag2, Option.none_or, find_bag3 hw hs] at h
  cases h1 : (L1 m n n).find? (unb m) with
  | some t => rw [h1] at h; cases h
  | none =>
    rw [h1] at h
    have h2 : (qsL n 4).find? (qb m) = none := by simpa using h
    rw [find_bag4 hw hs h1] at h2
    exact ⟨fours_nil.mp (List.head?_eq_none_iff.mp (by simpa using h2)), rl_bagM hw h1⟩
/-- where all ends of three are one, no four is bad -/
theorem single_nobad {m : Rows} {n : Nat} (hw : Wf n m) (h : (L1 m n n).find? (unl m) = none) : NoBad n m := by
  intro a b c d ha hb hc hd
  have key : ∀ {p q r : Nat}, p < n → q < n → r < n → handB m p q r = true → look m p q = some (p : Int) ∧ look m q r = some (r : Int) := fun {p q r} hp hq hr hh => by
    have := L1_find.mp h p q r hp hq hr hh
    unfold unl at this
    simpa using this
  unfold DH.kindOf
  cases h1 : handB m a b c with
  | true =>
    obtain ⟨k1, k2⟩ := key ha hb hc h1
    cases h2 : handB m b c d with
    | true =>
      obtain ⟨k3, k4⟩ := key hb hc hd h2
      rw [k2] at k3
      have ec : c = b := by injection k3 with k3; omega
      subst ec
      obtain ⟨x, y, e1, e2, e3⟩ := handB_two h2
      rw [k2] at e1
      have : x = c := by injection e1 with e1; omega
      subst this
      rw [k4] at e3; cases e3
    | false =>
      have em : mk m b c = c := by unfold mk; rw [k2]; simp
      simp only [Bool.and_false, Bool.false_and, Bool.false_eq_true, if_false, Bool.true_and, em]
      cases look m c d <;> simp
  | false =>
    cases h2 : handB m b c d with
    | true =>
      obtain ⟨k3, k4⟩ := key hb hc hd h2
      have em : mk m b c = b := by unfold mk; rw [k3]; simp
      simp only [Bool.false_and, Bool.false_eq_true, if_false, Bool.true_and, em]
      cases look m a b <;> simp
    | false => simp
end

abbrev sBox : Stmt := top 30
abbrev sTake : Stmt := top 31
abbrev sPick : Stmt := top 32
abbrev sMeet : Stmt := top 33
abbrev sUnsound : Stmt := top 34
theorem scBox : FnScope ["_law_script", "_law_k", "_law_cell", "_law_great"] ["_law_script", "_law_k"] (defScope sBox) := ⟨rfl, rfl, rfl, by decide +kernel, rfl, by decide +kernel, by decide +kernel⟩
theorem scTake : FnScope ["_law_box_here", "_law_many", "_law_digit", "_law_raw"] ["_law_box_here", "_law_many"] (defScope sTake) := ⟨rfl, rfl, rfl, by decide +kernel, rfl, by decide +kernel, by decide +kernel⟩
theorem scPick : FnScope ["_law_box_here", "_law_some"] ["_law_box_here", "_law_some"] (defScope sPick) := ⟨rfl, rfl, rfl, by decide +kernel, rfl, by decide +kernel, by decide +kernel⟩
theorem scMeet : FnScope ["_law_rows_here", "_law_one", "_law_other"] ["_law_rows_here", "_law_one", "_law_other"] (defScope sMeet) := ⟨rfl, rfl, rfl, by decide +kernel, rfl, by decide +kernel, by decide +kernel⟩
theorem scUnsound : FnScope ["_law_rows_here", "_law_many", "_law_a", "_law_b", "_law_c"] ["_law_rows_here"] (defScope sUnsound) := ⟨rfl, rfl, rfl, by decide +kernel, rfl, by decide +kernel, by decide +kernel⟩
section
variable {P : Program} {w : World} {K : PySem.W.Frag} {mg : Str → Option Value} {base : Heap} {f : Addr} {fd : FuncData} {C : Addr}
def STake : FSpec := fun ds α R => ∃ x y many β, ds = [.acc 0, .int many] ∧ α = bx x y :: β ∧ 0 ≤ x ∧ 0 < many ∧ many < 1000000 ∧ ∀ x' y' d, 0 ≤ x' → 0 ≤ d → d < many → R (.int d) (bx x' y' :: β)
theorem fn_take (F : Fun K "_law_take" "_law_take" sTake f fd) (Z : Bl mg) : FnOk P w K mg base CX0 1 f fd ["_law_box_here", "_law_many"] (SpD K STake) := by
  refine fn_def F scTake (fun ds α R h => by obtain ⟨x, y, many, β, rfl, _⟩ := h; rfl) (fun cdv A outer sh H E hr ds α R h hna hnd => ?_)
  obtain ⟨x, y, many, β, rfl, rfl, hx, h1, h2, h⟩ := h
  have nd : (["_law_box_here", "_law_many", "_law_digit", "_law_raw"] : List Str).Nodup := by decide +kernel
  refine dss_cons (ds_if ?_)
  walk_at "goI"
  refine iteB (fun hb => ?_) (fun hb => dss_nil ?_)
  · simp at hb
    refine dss_cons (ds_set 2 nd ?_)
    walk_at "goI"
    refine dss_cons (ds_setIx ?_)
    walk_at "goI"
    refine ⟨0, 0, _, rfl, rfl, rfl, by simp, ?_⟩
    refine dss_cons (ds_ret ?_)
    walk_at "goI"
    exact h _ _ _ (Int.ediv_nonneg hx (by omega)) (Int.emod_nonneg _ (by omega)) (Int.emod_lt_of_pos _ h1)
  · refine dss_cons (ds_set 3 nd ?_)
    walk_at "goI"
    refine dss_cons (ds_setIx ?_)
    walk_at "goI"
    refine ⟨0, 1, _, rfl, rfl, rfl, by simp, ?_⟩
    refine dss_cons (ds_ret ?_)
    walk_at "goI"
    exact h _ _ _ hx (Int.emod_nonneg _ (by omega)) (Int.emod_lt_of_pos _ h1)
def SPick : FSpec := fun ds α R => ∃ x y β d es, ds = [.acc 0, d] ∧ α = bx x y :: β ∧ 0 ≤ x ∧ (∀ c, cont (c :: β) d = some es) ∧ 0 < es.length ∧ es.length < 1000000 ∧ ∀ x' y' e, 0 ≤ x' → e ∈ es → R e (bx x' y' :: β)
theorem fn_pick (F : Fun K "_law_pick" "_law_pick" sPick f fd) (Z : Bl mg) (c1 : Fx P w K mg base 1 "_law_take" ["_law_box_here", "_law_many"] STake) : FnOk P w K mg base CX0 2 f fd ["_law_box_here", "_law_some"] (SpD K SPick) := by
  refine fn_def F scPick (fun ds α R h => by obtain ⟨x, y, β, d, es, rfl, _⟩ := h; rfl) (fun cdv A outer sh H E hr ds α R h hna hnd => ?_)
  obtain ⟨x, y, β, d, es, rfl, rfl, hx, hc, h1, h2, h⟩ := h
  refine dss_cons (ds_ret ?_)
  walk_at "go"
  refine de_call c1 hr rfl ?_
  walk_at "go"
  refine cd_len (hc _) ?_
  walk_at "go"
  refine ⟨x, y, _, β, rfl, rfl, hx, by omega, by omega, fun x' y' i hx' h3 h4 => ?_⟩
  obtain ⟨k, rfl⟩ := nat_of (x := i) (by omega) (by omega)
  have hk : k < es.length := by omega
  exact od_ix (hc _) (atI_nn (d := es[k]) (by simp [hk])) (h x' y' _ hx' (List.getElem_mem _))
def SMeet : FSpec := fun ds α R => ∃ d m n a b, ds = [d, .int a, .int b] ∧ IsRows α d m ∧ Wf n m ∧ -1 ≤ a ∧ a < (n : Nat) ∧ -1 ≤ b ∧ b < (n : Nat) ∧ R (encE (meetV m a b)) α
theorem fn_meet (F : Fun K "_law_meet" "_law_meet" sMeet f fd) (Z : Bl mg) : FnOk P w K mg base CX0 1 f fd ["_law_rows_here", "_law_one", "_law_other"] (SpD K SMeet) := by
  refine fn_def F scMeet (fun ds α R h => by obtain ⟨d, m, n, a, b, rfl, _⟩ := h; rfl) (fun cdv A outer sh H E hr ds α R h hna hnd => ?_)
  obtain ⟨d, m, n, a, b, rfl, hR, hw, a1, a2, b1, b2, h⟩ := h
  unfold meetV at h
  refine dss_cons (ds_if ?_)
  walk_at "go"
  refine iteB (fun hb => ?_) (fun hb => dss_nil ?_)
  · simp at hb
    rw [if_pos hb] at h
    refine dss_cons (ds_ret ?_)
    walk_at "go"
    exact h
  · simp at hb
    rw [if_neg hb] at h
    obtain ⟨i, rfl⟩ := nat_of a1 hb
    refine dss_cons (ds_ret ?_)
    walk_at "go"
    refine iteB (fun hb2 => ?_) (fun hb2 => ?_)
    · simp at hb2
      rw [if_pos hb2] at h
      walk_at "go"
      exact h
    · simp at hb2
      rw [if_neg hb2] at h
      obtain ⟨j, rfl⟩ := nat_of b1 hb2
      walk_at "go"
      exact h
/-- a box of a script's cell, as a new cell -/
def SBox : FSpec := fun ds α R => ∃ (ns : List Int) (k : Nat), ds = [.fix (ns.map D.int), .int (k : Nat)] ∧ ns.length ≤ 1000 ∧ k ≤ 1000 ∧ ∀ x y, 0 ≤ x → R (.acc α.length) (α ++ [bx x y])
theorem fn_box (F : Fun K "_law_box" "_law_box" sBox f fd) (Z : Bl mg) : FnOk P w K mg base CX0 1 f fd ["_law_script", "_law_k"] (SpD K SBox) := by
  refine fn_def F scBox (fun ds α R h => by obtain ⟨ns, k, rfl, _⟩ := h; rfl) (fun cdv A outer sh H E hr ds α R h hna hnd => ?_)
  obtain ⟨ns, k, rfl, hl, hk, h⟩ := h
  have nd : (["_law_script", "_law_k", "_law_cell", "_law_great"] : List Str).Nodup := by decide +kernel
  have fin : ∀ c x3, DSs (bodyX P w K mg base ["_law_script", "_law_k", "_law_cell", "_law_great"] "_law_box" sBox f cdv A outer sh H E) α.length ((defBody sBox).drop 2)
      [some (.fix (ns.map D.int)), some (.int (k : Nat)), some (.int c), x3] α ⟨fun _ α' => R .non α', R, fun _ _ => False, fun _ _ => False⟩ := by
    intro c x3
    refine dss_cons (ds_set 3 nd ?_)
    walk_at "goI"
    refine od_ic (⟨by decide, by decide, by decide⟩ : CPow 10 18) ?_
    walk_at "goI"
    have fin2 : ∀ g, 0 ≤ g → DSs (bodyX P w K mg base ["_law_script", "_law_k", "_law_cell", "_law_great"] "_law_box" sBox f cdv A outer sh H E) α.length ((defBody sBox).drop 3)
        [some (.fix (ns.map D.int)), some (.int (k : Nat)), some (.int c), some (.int g)] α ⟨fun _ α' => R .non α', R, fun _ _ => False, fun _ _ => False⟩ := by
      intro g hg
      refine dss_cons (ds_ret (de_cell ?_))
      walk_at "goI"
      exact h _ _ hg
    refine iteB (fun hb => ?_) (fun hb => ?_)
    · walk_at "goI"
      refine fin2 _ ?_
      have : (10 : Int) ^ (18 : Int).toNat ≤ c := by simpa using hb
      have h0 : (0 : Int) ≤ 10 ^ (18 : Int).toNat := by decide
      omega
    · walk_at "goI"
      exact fin2 _ (Int.le_refl _)
  refine dss_cons (ds_set 2 nd ?_)
  walk_at "goI"
  refine dss_cons (ds_if ?_)
  walk_at "goI"
  refine cd_len rfl ?_
  walk_at "goI"
  rw [List.length_map]
  refine iteB (fun hb => ?_) (fun hb => ?_)
  · simp at hb
    refine dss_cons (ds_set 2 nd ?_)
    walk_at "goI"
    refine od_ix (ds := ns.map D.int) rfl (atI_nn (d := .int ns[k]) (by simp [hb])) ?_
    walk_at "goI"
    exact dss_nil (fin _ _)
  · refine dss_cons (ds_if ?_)
    walk_at "goI"
    refine cd_len rfl ?_
    walk_at "goI"
    rw [List.length_map]
    refine iteB (fun hb2 => ?_) (fun hb2 => dss_nil (dss_nil (fin _ _)))
    simp at hb2
    refine dss_cons (ds_set 2 nd ?_)
    walk_at "goI"
    refine cd_len rfl ?_
    walk_at "goI"
    rw [List.length_map]
    refine od_mod ?_ (by omega)
    have hm : k % ns.length < ns.length := Nat.mod_lt _ hb2
    have e : ((k : Int) % (ns.length : Nat)) = ((k % ns.length : Nat) : Int) := by omega
    rw [e]
    refine od_ix (ds := ns.map D.int) rfl (atI_nn (d := .int ns[k % ns.length]) (by simp [hm])) ?_
    walk_at "goI"
    exact dss_nil (dss_nil (fin _ _))
/-- the first three that end unlike, if there are such -/
def SUnsound : FSpec := fun ds α R => ∃ d m n, ds = [d] ∧ IsRows α d m ∧ Wf n m ∧ n ≤ 1000 ∧ (Sound n m → R .non α) ∧ ∀ a b c : Nat, a < n → b < n → c < n → R (.tup [.int a, .int b, .int c]) α
def SndAt (m : Rows) (a b c : Nat) : Prop := ∀ x y, look m a b = some x → look m b c = some y → meetL m x c = meetR m a y
theorem fn_unsound (F : Fun K "_law_unsound" "_law_unsound" sUnsound f fd) (Z : Bl mg) (c1 : Fx P w K mg base 1 "_law_meet" ["_law_rows_here", "_law_one", "_law_other"] SMeet) : FnOk P w K mg base CX0 2 f fd ["_law_rows_here"] (SpD K SUnsound) := by
  refine fn_def F scUnsound (fun ds α R h => by obtain ⟨d, m, n, rfl, _⟩ := h; rfl) (fun cdv A outer sh H E hr ds α R h hna hnd => ?_)
  obtain ⟨d, m, n, rfl, hR, hw, hn, hS, hT⟩ := h
  have nd : (["_law_rows_here", "_law_many", "_law_a", "_law_b", "_law_c"] : List Str).Nodup := by decide +kernel
  obtain ⟨es, hes, hel, _⟩ := id hR
  refine dss_cons (ds_set 1 nd ?_)
  walk_at "go"
  refine cd_len hes ?_
  rw [hel, hw.len]
  refine dss_cons (ds_for PassesOwn.never rfl (di_range1 Z.range ?_))
  walk_at "go"
  refine ⟨by omega, by omega, fun k ρ' α' => ∃ x1 x2 x3, α' = α ∧ ρ' = [some d, some (.int (n : Nat)), x1, x2, x3] ∧ ∀ a b c, a < k → b < n → c < n → SndAt m a b c, ⟨_, _, _, rfl, rfl, fun _ _ _ h => absurd h (Nat.not_lt_zero _)⟩, fun _ _ _ _ => trivial, ?_, ?_⟩
  · rintro k y ρ' α' hy ⟨x1, x2, x3, rfl, rfl, I1⟩
    obtain ⟨hk, rfl⟩ := rgD_ix hy
    have hk' : k < n := by simpa using hk
    refine dg_name 2 nd ?_
    refine dss_cons (ds_for PassesOwn.never rfl (di_range1 Z.range ?_))
    walk_at "go"
    refine ⟨by omega, by omega, fun k2 ρ' α1 => ∃ x2 x3, α1 = α' ∧ ρ' = [some d, some (.int (n : Nat)), some (.int (k : Nat)), x2, x3] ∧ ∀ b c, b < k2 → c < n → SndAt m k b c, ⟨_, _, rfl, rfl, fun _ _ h => absurd h (Nat.not_lt_zero _)⟩, fun _ _ _ _ => trivial, ?_, ?_⟩
    · rintro k2 y2 ρ' α1 hy2 ⟨x2, x3, rfl, rfl, I2⟩
      obtain ⟨hk2, rfl⟩ := rgD_ix hy2
      have hk2' : k2 < n := by simpa using hk2
      refine dg_name 3 nd ?_
      refine dss_cons (ds_for PassesOwn.never rfl (di_range1 Z.range ?_))
      walk_at "go"
      refine ⟨by omega, by omega, fun k3 ρ' α2 => ∃ x3, α2 = α1 ∧ ρ' = [some d, some (.int (n : Nat)), some (.int (k : Nat)), some (.int (k2 : Nat)), x3] ∧ ∀ c, c < k3 → SndAt m k k2 c, ⟨_, rfl, rfl, fun _ h => absurd h (Nat.not_lt_zero _)⟩, fun _ _ _ _ => trivial, ?_, ?_⟩
      · rintro k3 y3 ρ' α2 hy3 ⟨x3, rfl, rfl, I3⟩
        obtain ⟨hk3, rfl⟩ := rgD_ix hy3
        have hk3' : k3 < n := by simpa using hk3
        refine dg_name 4 nd ?_
        have go_ : SndAt m k k2 k3 → ∃ x3, α2 = α2 ∧ [some d, some (.int (n : Nat)), some (.int (k : Nat)), some (.int (k2 : Nat)), some (.int (k3 : Nat))] = [some d, some (.int (n : Nat)), some (.int (k : Nat)), some (.int (k2 : Nat)), x3] ∧ ∀ c, c < k3 + 1 → SndAt m k k2 c := fun hs => ⟨_, rfl, rfl, fun c hc => by
          by_cases e : c = k3
          · subst e; exact hs
          · exact I3 c (by omega)⟩
        refine dss_cons (ds_if ?_)
        cases e1 : look m k k2 with
        | none =>
          walk_at "go"
          rw [e1]
          walk_at "go"
          exact dss_nil (dss_nil (go_ fun x y h1 => by rw [e1] at h1; cases h1))
        | some x =>
          cases e2 : look m k2 k3 with
          | none =>
            walk_at "go"
            rw [e1]
            walk_at "go"
            rw [e2]
            walk_at "go"
            exact dss_nil (dss_nil (go_ fun x y _ h2 => by rw [e2] at h2; cases h2))
          | some y =>
            obtain ⟨u1, u2⟩ := hw.look hk' hk2' e1
            obtain ⟨v1, v2⟩ := hw.look hk2' hk3' e2
            walk_at "go"
            rw [e1]
            walk_at "go"
            rw [e2]
            walk_at "go"
            refine dss_cons (ds_if ?_)
            walk_at "go"
            refine de_call c1 hr rfl ?_
            walk_at "go"
            rw [e1]
            refine ⟨d, m, n, x, k3, rfl, hR, hw, u1, u2, by omega, by omega, ?_⟩
            refine de_call c1 hr rfl ?_
            walk_at "go"
            rw [e2]
            refine ⟨d, m, n, k, y, rfl, hR, hw, by omega, by omega, v1, v2, ?_⟩
            refine od_neE ?_
            walk_at "go"
            rw [meetV_L, meetV_R]
            refine iteB (fun hb => ?_) (fun hb => dss_nil (dss_nil (dss_nil (go_ fun x' y' h1 h2 => ?_))))
            · refine dss_cons (ds_ret ?_)
              walk_at "go"
              exact hT k k2 k3 hk' hk2' hk3'
            · rw [e1] at h1; rw [e2] at h2; cases h1; cases h2
              simpa using hb
      · rintro ρ' α2 ⟨x3, rfl, rfl, I3⟩
        rw [rgD_len] at I3
        refine dss_nil ⟨_, _, rfl, rfl, fun b c hb hc => ?_⟩
        by_cases e : b = k2
        · subst e; exact I3 c (by simpa using hc)
        · exact I2 b c (by omega) hc
    · rintro ρ' α1 ⟨x2, x3, rfl, rfl, I2⟩
      rw [rgD_len] at I2
      refine dss_nil ⟨_, _, _, rfl, rfl, fun a b c ha hb hc => ?_⟩
      by_cases e : a = k
      · subst e; exact I2 b c (by simpa using hb) hc
      · exact I1 a b c (by omega) hb hc
  · rintro ρ' α1 ⟨x1, x2, x3, rfl, rfl, I1⟩
    rw [rgD_len] at I1
    refine dss_cons (ds_ret (de_non (hS fun a b c ha hb hc => I1 a b c (by simpa using ha) hb hc)))
end

abbrev sSparse : Stmt := top 35
theorem scSparse : FnScope ["_law_box_here", "_law_many", "_law_rows_here", "_law_turn", "_law_row", "_law_wrong", "_law_place", "_law_a", "_law_b"] ["_law_box_here"] (defScope sSparse) := ⟨rfl, rfl, rfl, by decide +kernel, rfl, by decide +kernel, by decide +kernel⟩
section
variable {P : Program} {w : World} {K : PySem.W.Frag} {mg : Str → Option Value} {base : Heap} {f : Addr} {fd : FuncData} {C : Addr}
/-- drawn sound rows -/
def SGen : FSpec := fun ds α R => ∃ x y β, ds = [.acc 0] ∧ α = bx x y :: β ∧ 0 ≤ x ∧ ∀ x' y' m n, 0 ≤ x' → Wf n m → 1 ≤ n → n ≤ 12 → Sound n m → R (lstR m) (bx x' y' :: β)
theorem nas_box {x y x' y' : Int} {β : Sto} {k : Nat} (h : NaS k (bx x y :: β)) : NaS k (bx x' y' :: β) := fun c hc => by
  rcases List.mem_cons.mp hc with rfl | hc
  · rfl
  · exact h c (List.mem_cons_of_mem _ hc)
theorem fn_sparse (F : Fun K "_law_sparse" "_law_sparse" sSparse f fd) (Z : Bl mg) (c1 : Fx P w K mg base 3 "_law_take" ["_law_box_here", "_law_many"] STake) (c2 : Fx P w K mg base 3 "_law_pick" ["_law_box_here", "_law_some"] SPick) (c3 : Fx P w K mg base 3 "_law_unsound" ["_law_rows_here"] SUnsound) : FnOk P w K mg base CX0 4 f fd ["_law_box_here"] (SpD K SGen) := by
  refine fn_def F scSparse (fun ds α R h => by obtain ⟨x, y, β, rfl, _⟩ := h; rfl) (fun cdv A outer sh H E hr ds α R h hna hnd => ?_)
  obtain ⟨x, y, β, rfl, rfl, hx, h⟩ := h
  have nd : (["_law_box_here", "_law_many", "_law_rows_here", "_law_turn", "_law_row", "_law_wrong", "_law_place", "_law_a", "_law_b"] : List Str).Nodup := by decide +kernel
  refine dss_sealR ?_
  refine dss_cons (ds_set 1 nd (de_call c2 hr rfl ?_))
  walk_at "go"
  refine de_lst ?_
  walk_at "go"
  refine ⟨x, y, β, _, [.int 4, .int 3, .int 4, .int 5], rfl, rfl, hx, fun _ => rfl, by decide, by decide, fun x' y' e hx' he => ?_⟩
  obtain ⟨n, hn, hn2, rfl⟩ : ∃ n : Nat, 3 ≤ n ∧ n ≤ 5 ∧ e = .int (n : Nat) := by
    simp at he
    rcases he with rfl | rfl | rfl | rfl
    · exact ⟨4, by decide, by decide, rfl⟩
    · exact ⟨3, by decide, by decide, rfl⟩
    · exact ⟨4, by decide, by decide, rfl⟩
    · exact ⟨5, by decide, by decide, rfl⟩
  replace hna := nas_box (x' := x') (y' := y') hna
  let γ : Sto := bx x' y' :: β
  have hL : (bx x y :: β).length = γ.length := rfl
  refine dss_cons (ds_setLc (own := [("_law_a", 7)]) 2 7 rfl nd (blkOk_by (N := ["_law_box_here", "_law_many", "_law_rows_here", "_law_turn", "_law_row", "_law_wrong", "_law_place", "_law_a", "_law_b"]) (sc := defScope sSparse) (by decide +kernel)) (by decide) (fun _ _ _ _ _ => pg_name (i := 7) nd rfl (Or.inl rfl)) (sw_true rfl rfl rfl (by decide +kernel)) ?_)
  refine di_range1 Z.range ?_
  walk_at "go"
  refine ⟨by omega, by omega, fun k α' => k ≤ n ∧ α' = MatK γ n k, ⟨Nat.zero_le _, rfl⟩, fun _ _ _ => trivial, ?_, ?_⟩
  · rintro k y1 α' hy ⟨hk, rfl⟩ s H C cl fp
    obtain ⟨hk2, rfl⟩ := rgD_ix hy
    refine dts_nil ?_
    refine ifT rfl ?_
    intro s H C cl fp
    refine de_lc (own := [("_law_b", 8)]) 8 rfl nd (blkOk_by rfl) (by decide) (fun _ _ _ _ _ => pg_name (i := 8) nd rfl (Or.inl rfl)) ?_
    refine di_range1 Z.range ?_
    walk_at "go"
    refine ⟨by omega, by omega, fun k2 α' => α' = MatK γ n k ++ [.l (List.replicate k2 .non)], rfl, fun _ _ _ => trivial, ?_, ?_⟩
    · rintro k2 y2 α' hy2 rfl s H C cl fp
      obtain ⟨hk3, rfl⟩ := rgD_ix hy2
      refine dts_nil ?_
      refine ifT rfl ?_
      intro s H C cl fp
      refine de_non ⟨List.replicate k2 .non, by simp, by simp at hk3 ⊢; omega, ?_⟩
      simp [List.replicate_succ']
    · rintro α' rfl
      rw [rgD_len]
      refine ⟨refs γ.length k, MatK.outer, by simp at hk2; simp [refs]; omega, by simp at hk2; omega, ?_⟩
      rw [MatK.len, ← MatK.succ]
      simp [γ]
  · rintro α' ⟨_, rfl⟩
    rw [rgD_len]
    simp only [Int.toNat_natCast]
    rw [MatK.full]
    let V : Nat → Rho → Sto → Prop := fun _ ρ' α' => ∃ x y m x3 x4 x5 x6 x7 x8, 0 ≤ x ∧ α' = Mat (bx x y :: β) m ∧ Wf n m ∧ ρ' = [some (.acc 0), some (.int (n : Nat)), some (.acc (β.length + 1)), x3, x4, x5, x6, x7, x8]
    refine dss_cons (ds_for PassesOwn.never rfl (di_range1 Z.range ?_))
    walk_at "goI"
    refine de_call c1 hr rfl ?_
    walk_at "goI"
    refine ⟨x', y', _, _, rfl, rfl, hx', by omega, by omega, fun x2 y2 i hx2 i1 i2 => ?_⟩
    walk_at "goI"
    refine ⟨by omega, by omega, V, ⟨x2, y2, noR n, none, none, none, none, none, none, hx2, rfl, wf_noR n, rfl⟩, fun _ _ _ _ => trivial, ?_, ?_⟩
    · rintro k y3 ρ' α' hy ⟨x, y, m, x3, x4, x5, x6, x7, x8, hx, rfl, hw, rfl⟩
      obtain ⟨hk, rfl⟩ := rgD_ix hy
      refine dg_name 3 nd ?_
      refine dss_cons (ds_set 4 nd ?_)
      walk_at "goI"
      refine de_call c1 hr rfl ?_
      walk_at "goI"
      refine ⟨x, y, _, _, rfl, rfl, hx, by omega, by omega, fun xa ya a hxa a1 a2 => ?_⟩
      obtain ⟨a, rfl⟩ := nat_of (x := a) (by omega) (by omega)
      obtain ⟨r, hr1, hr2, _⟩ := hw.get (i := a) (by omega)
      refine od_ix (d := .acc (β.length + 1 + 1 + a)) (cont_acc.mpr (Mat.outer (γ := bx xa ya :: β) (m := m))) (atI_nn (refs_get (by rw [hw.len]; omega))) ?_
      have fin : ∀ (x y : Int) (v : Option Int), 0 ≤ x → (∀ z, v = some z → -1 ≤ z ∧ z < (n : Nat)) → ∀ j : Nat, j < n → (Mat (bx x y :: β) m).set (β.length + 1 + 1 + a) (.l ((encR r).set j (encE v))) = Mat (bx x y :: β) (m.set a (r.set j v)) ∧ Wf n (m.set a (r.set j v)) := fun x y v _ hv j hj => ⟨by rw [encR_set]; exact Mat.set (γ := bx x y :: β), hw.set hr1 hv⟩
      refine dss_cons (ds_setIx ?_)
      walk_at "goI"
      refine de_call c1 hr rfl ?_
      walk_at "goI"
      refine ⟨xa, ya, _, _, rfl, rfl, hxa, by omega, by omega, fun xb yb b hxb b1 b2 => ?_⟩
      walk_at "goI"
      refine iteB (fun hb => ?_) (fun hb => ?_)
      · walk_at "goI"
        refine de_call c1 hr rfl ?_
        walk_at "goI"
        refine ⟨xb, yb, _, _, rfl, rfl, hxb, by omega, by omega, fun xc yc j hxc j1 j2 => ?_⟩
        obtain ⟨j, rfl⟩ := nat_of (x := j) (by omega) (by omega)
        obtain ⟨f1, f2⟩ := fin xc yc (some (0 - 1)) hxc (fun z hz => by cases hz; omega) j (by omega)
        refine ⟨β.length + 1 + 1 + a, j, encR r, rfl, rfl, Mat.inner (γ := bx xc yc :: β) hr1, by simp [encR, hr2]; omega, ?_⟩
        exact dss_nil ⟨xc, yc, m.set a (r.set j (some (0 - 1))), _, _, _, _, _, _, hxc, f1, f2, rfl⟩
      · refine de_call c1 hr rfl ?_
        walk_at "goI"
        refine ⟨xb, yb, _, _, rfl, rfl, hxb, by omega, by omega, fun xc yc v hxc v1 v2 => ?_⟩
        walk_at "goI"
        refine de_call c1 hr rfl ?_
        walk_at "goI"
        refine ⟨xc, yc, _, _, rfl, rfl, hxc, by omega, by omega, fun xd yd j hxd j1 j2 => ?_⟩
        obtain ⟨j, rfl⟩ := nat_of (x := j) (by omega) (by omega)
        obtain ⟨f1, f2⟩ := fin xd yd (some v) hxd (fun z hz => by cases hz; omega) j (by omega)
        refine ⟨β.length + 1 + 1 + a, j, encR r, rfl, rfl, Mat.inner (γ := bx xd yd :: β) hr1, by simp [encR, hr2]; omega, ?_⟩
        exact dss_nil ⟨xd, yd, m.set a (r.set j (some v)), _, _, _, _, _, _, hxd, f1, f2, rfl⟩
    · rintro ρ' α' ⟨x, y, m, x3, x4, x5, x6, x7, x8, hx, rfl, hw, rfl⟩
      refine dss_cons (ds_for PassesOwn.never rfl (di_range1 Z.range ?_))
      walk_at "goI"
      refine ⟨by decide, by decide, V, ⟨x, y, m, _, _, _, _, _, _, hx, rfl, hw, rfl⟩, fun _ _ _ _ => trivial, ?_, ?_⟩
      · rintro k y3 ρ' α' hy ⟨x, y, m, x3, x4, x5, x6, x7, x8, hx, rfl, hw, rfl⟩
        refine dg_name 3 nd ?_
        refine dss_cons (ds_set 5 nd (de_call c3 hr rfl ?_))
        walk_at "go"
        refine ⟨_, m, n, rfl, Mat.isRows (γ := bx x y :: β), hw, by omega, fun hs => ?_, fun a b c ha hb hc => ?_⟩
        · refine dss_cons (ds_if ?_)
          walk_at "go"
          refine dss_cons (ds_ret ?_)
          walk_at "go"
          refine ⟨bx x y :: β, _, lstR m, rfl, Nat.le_refl _, nas_box hna, seal_mat (γ := bx x y :: β), h x y m n hx hw (by omega) (by omega) hs⟩
        · refine dss_cons (ds_if ?_)
          walk_at "go"
          refine dss_nil ?_
          refine dss_cons (ds_set 6 nd (de_call c2 hr rfl ?_))
          walk_at "go"
          refine de_lst ?_
          walk_at "go"
          refine de_slice sl_tupA ?_
          walk_at "go"
          refine do_none (do_some (de_int ⟨2, rfl, sd_tup ?_⟩))
          walk_at "go"
          refine de_slice sl_tupA ?_
          walk_at "go"
          refine do_some (de_int ⟨1, rfl, do_none (sd_tup ?_)⟩)
          walk_at "go"
          refine ⟨x, y, _, _, [.tup [.int a, .int b], .tup [.int b, .int c]], rfl, rfl, hx, fun _ => rfl, by simp, by simp, fun xa ya e hxa he => ?_⟩
          obtain ⟨u, v, hu, hv, rfl⟩ : ∃ u v : Nat, u < n ∧ v < n ∧ e = .tup [.int u, .int v] := by
            simp at he
            rcases he with rfl | rfl
            · exact ⟨a, b, ha, hb, rfl⟩
            · exact ⟨b, c, hb, hc, rfl⟩
          obtain ⟨r, hr1, hr2, _⟩ := hw.get hu
          refine dss_cons (ds_set 4 nd ?_)
          walk_at "go"
          refine od_ix (d := .acc (β.length + 1 + 1 + u)) (cont_acc.mpr (Mat.outer (γ := bx xa ya :: β) (m := m))) (atI_nn (refs_get (by rw [hw.len]; exact hu))) ?_
          refine dss_cons (ds_setIx ?_)
          walk_at "go"
          refine ⟨β.length + 1 + 1 + u, v, encR r, rfl, rfl, Mat.inner (γ := bx xa ya :: β) hr1, by simp [encR, hr2]; exact hv, ?_⟩
          refine dss_nil ⟨xa, ya, m.set u (r.set v none), _, _, _, _, _, _, hxa, ?_, hw.set hr1 (fun z hz => by cases hz), rfl⟩
          have := encR_set (r := r) (j := v) (v := none)
          show List.set _ _ (Cl.l ((encR r).set v (encE none))) = _
          rw [this]
          exact Mat.set (γ := bx xa ya :: β)
      · rintro ρ' α' ⟨x, y, m, x3, x4, x5, x6, x7, x8, hx, rfl, hw, rfl⟩
        refine dss_cons (ds_ret ?_)
        refine de_lcG (own := [("_law_a", 7)]) 7 rfl nd (blkOk_by (N := ["_law_box_here", "_law_many", "_law_rows_here", "_law_turn", "_law_row", "_law_wrong", "_law_place", "_law_a", "_law_b"]) (sc := defScope sSparse) (by decide +kernel)) (by decide) (fun _ _ _ _ _ => pg_name (i := 7) nd rfl (Or.inl rfl)) (fun hna2 => LcG.pure ?_)
        refine di_range1 Z.range ?_
        walk_at "go"
        refine ⟨by omega, by omega, rfl, fun _ => trivial, by rw [rgD_len]; simp; omega, List.replicate n (.lst (List.replicate n .non)), by rw [rgD_len]; simp, ?_, Nat.le_refl _, hna2, nas_of fun z hz => ?_, ?_⟩
        · intro k y1 z acc hy hz s H C cl fp
          refine de_lcG (own := [("_law_b", 8)]) 8 rfl nd (blkOk_by rfl) (by decide) (fun _ _ _ _ _ => pg_name (i := 8) nd rfl (Or.inl rfl)) (fun hna3 => LcG.pure ?_)
          refine di_range1 Z.range ?_
          walk_at "go"
          refine ⟨by omega, by omega, rfl, fun _ => trivial, by rw [rgD_len]; simp; omega, List.replicate n .non, by rw [rgD_len]; simp, ?_, Nat.le_refl _, hna3, nas_of fun z hz => ?_, ?_, rfl⟩
          · intro k y1 z acc hy hz s H C cl fp
            exact de_non ⟨(List.eq_of_mem_replicate (List.mem_of_getElem? hz)).symm, rfl⟩
          · rw [List.eq_of_mem_replicate hz]; rfl
          · exact (List.eq_of_mem_replicate (List.mem_of_getElem? hz)).symm
        · rw [List.eq_of_mem_replicate hz]
          simp only [D.na]
          exact nas_of fun z hz => by rw [List.eq_of_mem_replicate hz]; rfl
        · refine ⟨bx x y :: β, _, lstR (noR n), rfl, Nat.le_refl _, nas_box hna, ?_, h x y (noR n) n hx (wf_noR n) (by omega) (by omega) (snd_noR n)⟩
          have e : lstR (noR n) = .lst (List.replicate n (.lst (List.replicate n .non))) := by
            unfold lstR noR; simp [encR, encE]
          rw [e]
          refine Seal.of ?_
          simp only [D.na]
          exact nas_of fun z hz => by
            rw [List.eq_of_mem_replicate hz]
            simp only [D.na]
            exact nas_of fun z hz => by rw [List.eq_of_mem_replicate hz]; rfl
end

abbrev sDone : Stmt := top 36
abbrev sTables : Stmt := top 37
abbrev sOfMachine : Stmt := top 38
theorem scDone : FnScope ["_law_one", "_law_other", "_law_s"] ["_law_one", "_law_other"] (defScope sDone) := ⟨rfl, rfl, rfl, by decide +kernel, rfl, by decide +kernel, by decide +kernel⟩
theorem scTables : FnScope ["_law_box_here", "_law_many", "_law_found", "_law_turn", "_law_style", "_law_by", "_law_known", "_law_table", "_law_s"] ["_law_box_here"] (defScope sTables) := ⟨rfl, rfl, rfl, by decide +kernel, rfl, by decide +kernel, by decide +kernel⟩
theorem scOfMachine : FnScope ["_law_tables_here", "_law_rows_here", "_law_one", "_law_row", "_law_other", "_law_done_here"] ["_law_tables_here"] (defScope sOfMachine) := ⟨rfl, rfl, rfl, by decide +kernel, rfl, by decide +kernel, by decide +kernel⟩
section
variable {P : Program} {w : World} {K : PySem.W.Frag} {mg : Str → Option Value} {base : Heap} {f : Addr} {fd : FuncData} {C : Addr}
def SDone : FSpec := fun ds α R => ∃ s t, ds = [tabD s, tabD t] ∧ (∀ x ∈ s, x < t.length) ∧ s.length ≤ 1000 ∧ R (tabD (comp s t)) α
theorem fn_done (F : Fun K "_law_done" "_law_done" sDone f fd) (Z : Bl mg) : FnOk P w K mg base CX0 1 f fd ["_law_one", "_law_other"] (SpD K SDone) := by
  refine fn_def F scDone (fun ds α R h => by obtain ⟨s, t, rfl, _⟩ := h; rfl) (fun cdv A outer sh H E hr ds α R h hna hnd => ?_)
  obtain ⟨s, t, rfl, hs, hl, h⟩ := h
  have nd : (["_law_one", "_law_other", "_law_s"] : List Str).Nodup := by decide +kernel
  refine dss_cons (ds_ret (de_callTy call_tuple_of rfl Z.tuple boot_tuple (da_cons ?_)))
  refine de_lcG (own := [("_law_s", 2)]) 2 rfl nd (blkOk_by (N := ["_law_one", "_law_other", "_law_s"]) (sc := defScope sDone) (by decide +kernel)) (by decide) (fun _ _ _ _ _ => pg_name (i := 2) nd rfl (Or.inl rfl)) (fun hna2 => LcG.pure ?_)
  refine di_tup ?_
  walk_at "go"
  refine ⟨rfl, fun _ => trivial, by rw [intsD_len]; omega, intsD (comp s t), by simp [intsD, comp], ?_, Nat.le_refl _, hna2, nas_intsD _ _, ?_⟩
  · intro k y z acc hy hz s' H C cl fp
    obtain ⟨x, hx, rfl⟩ := intsD_get hy
    obtain ⟨v, hv, rfl⟩ := intsD_get hz
    unfold comp at hv
    rw [List.getElem?_map, hx] at hv
    cases hv
    have hxl := hs x (List.mem_of_getElem? hx)
    walk_at "go"
    refine od_ix (ds := intsD t) rfl (atI_nn (d := .int ((t.getD x 0 : Nat))) ?_) ⟨rfl, rfl⟩
    unfold intsD
    rw [List.getElem?_map, List.getD_eq_getElem?_getD, List.getElem?_eq_getElem hxl]
    rfl
  · walk_at "go"
    exact cd_tuple rfl h
def SOfMachine : FSpec := fun ds α R => ∃ N T, ds = [.lst (tabsD T)] ∧ MOk N T ∧ T.length ≤ 12 ∧ N ≤ 12 ∧ R (lstR (machR N T)) α
theorem fn_of_machine (F : Fun K "_law_of_machine" "_law_of_machine" sOfMachine f fd) (Z : Bl mg) (c1 : Fx P w K mg base 1 "_law_done" ["_law_one", "_law_other"] SDone) : FnOk P w K mg base CX0 2 f fd ["_law_tables_here"] (SpD K SOfMachine) := by
  refine fn_def F scOfMachine (fun ds α R h => by obtain ⟨N, T, rfl, _⟩ := h; rfl) (fun cdv A outer sh H E hr ds α R h hna hnd => ?_)
  obtain ⟨N, T, rfl, hm, hl, hN, h⟩ := h
  have nd : (["_law_tables_here", "_law_rows_here", "_law_one", "_law_row", "_law_other", "_law_done_here"] : List Str).Nodup := by decide +kernel
  refine dss_cons (ds_set 1 nd (de_cell ?_))
  walk_at "go"
  let done_ : Nat → List D := fun k => ((T.take k).map fun a => D.lst (encR (T.map fun b => encT N T (comp a b))))
  refine dss_cons (ds_for PassesOwn.never rfl (di_list ?_))
  walk_at "go"
  refine ⟨_, rfl, rfl, fun k ρ' α' => ∃ x2 x3 x4 x5, α' = α ++ [.l (done_ k)] ∧ ρ' = [some (.lst (tabsD T)), some (.acc α.length), x2, x3, x4, x5], ⟨_, _, _, _, rfl, rfl⟩, fun _ _ _ _ => rfl, ?_, ?_⟩
  · rintro k y ρ' α' hy ⟨x2, x3, x4, x5, rfl, rfl⟩
    obtain ⟨a, ha, rfl⟩ := tabsD_get hy
    have oa := hm.tabs a (List.mem_of_getElem? ha)
    have hk : k < T.length := (List.getElem?_eq_some_iff.mp ha).1
    refine dg_name 2 nd ?_
    refine dss_cons (ds_set 3 nd (de_cell ?_))
    walk_at "go"
    simp only [len1]
    refine dss_cons (ds_for PassesOwn.never rfl (di_list ?_))
    walk_at "go"
    refine ⟨_, rfl, rfl, fun k2 ρ' α' => ∃ x4 x5, α' = α ++ [.l (done_ k)] ++ [.l (encR ((T.take k2).map fun b => encT N T (comp a b)))] ∧ ρ' = [some (.lst (tabsD T)), some (.acc α.length), some (tabD a), some (.acc (α.length + 1)), x4, x5], ⟨_, _, rfl, rfl⟩, fun _ _ _ _ => rfl, ?_, ?_⟩
    · rintro k2 y ρ' α' hy ⟨x4, x5, rfl, rfl⟩
      obtain ⟨b, hb, rfl⟩ := tabsD_get hy
      have ob := hm.tabs b (List.mem_of_getElem? hb)
      have hk2 : k2 < T.length := (List.getElem?_eq_some_iff.mp hb).1
      refine dg_name 4 nd ?_
      refine dss_cons (ds_set 5 nd (de_call c1 hr rfl ?_))
      walk_at "go"
      refine ⟨a, b, rfl, fun x hx => by rw [ob.1]; exact oa.2 x hx, by rw [oa.1]; omega, ?_⟩
      refine dss_cons (ds_append ?_)
      walk_at "go"
      refine ⟨_, get1, ?_⟩
      have fin : ∀ d, d = encE (encT N T (comp a b)) → ∃ ds, (α ++ [Cl.l (done_ k)] ++ [Cl.l (encR ((T.take k2).map fun b => encT N T (comp a b)))])[α.length + 1]? = some (Cl.l ds) ∧ ds.length < 1000000 ∧
          ((α ++ [Cl.l (done_ k)] ++ [Cl.l (encR ((T.take k2).map fun b => encT N T (comp a b)))]).set (α.length + 1) (Cl.l (ds ++ [d]))) = α ++ [Cl.l (done_ k)] ++ [Cl.l (encR ((T.take (k2 + 1)).map fun b => encT N T (comp a b)))] := by
        rintro d rfl
        refine ⟨_, get1, by simp [encR]; omega, ?_⟩
        rw [set1, List.take_add_one, hb]
        simp [encR]
      refine de_ite (dt_cmp (op_eqD hr.units) (nomark _) ?_)
      walk_at "go"
      refine de_tupRg rfl Z.tuple Z.range ?_
      walk_at "go"
      refine cd_len rfl ⟨N, by rw [intsD_len, oa.1], by omega, ?_⟩
      rw [rgD_tab]
      refine od_eqT ⟨_, rfl, iteB (fun h1 => ?_) (fun h1 => ?_)⟩
      · simp at h1
        walk_at "go"
        obtain ⟨ds, e1, e2, e3⟩ := fin (.int (0 - 1)) (by unfold encT; rw [if_pos h1]; rfl)
        refine ⟨ds, e1, e2, dss_nil ⟨_, _, e3, rfl⟩⟩
      · simp at h1
        refine de_ite (dt_cmp (op_inD (units65 hr)) rfl ?_)
        walk_at "go"
        refine od_inT ⟨_, rfl, iteB (fun h2 => ?_) (fun h2 => ?_)⟩
        · simp at h2
          refine de_index (units65 hr) ?_
          walk_at "go"
          have hi := List.idxOf_lt_length_of_mem h2
          refine ⟨comp a b, T.idxOf (comp a b), rfl, by simp [hi], fun i hi2 => ?_, ?_⟩
          · intro e
            have := List.getElem?_eq_some_iff.mp e
            obtain ⟨hi3, e3⟩ := this
            have := hm.nd.idxOf_getElem i hi3
            rw [e3] at this
            omega
          · obtain ⟨ds, e1, e2, e3⟩ := fin (.int (T.idxOf (comp a b) : Nat)) (by unfold encT; rw [if_neg h1, if_pos h2])
            refine ⟨ds, e1, e2, dss_nil ⟨_, _, e3, rfl⟩⟩
        · simp at h2
          refine de_non ?_
          obtain ⟨ds, e1, e2, e3⟩ := fin .non (by unfold encT; rw [if_neg h1, if_neg h2])
          exact ⟨ds, e1, e2, dss_nil ⟨_, _, e3, rfl⟩⟩
    · rintro ρ' α' ⟨x4, x5, rfl, rfl⟩
      rw [tabsD_len, List.take_length]
      have nd_ : ∀ j, nas j (done_ k) = true := fun j => nas_of fun z hz => by
        obtain ⟨a', _, rfl⟩ := List.mem_map.mp hz
        simp only [D.na]
        exact nas_encR _ _
      refine dss_seal (ρ' := [some (.lst (tabsD T)), some (.acc α.length), none, some (.lst (encR (T.map fun b => encT N T (comp a b)))), none, none]) (by simp) ((hna.mono (by simp)).app (nd_ _))
        (.keep (Seal.of (by simp only [D.na]; exact na_tabs _ _)) (.keep (.low (by simp)) (.any (.keep (.high (by simp) (by simp) (seals_encR _)) (.any (.any .nil)))))) ?_
      refine dss_cons (ds_append ?_)
      walk_at "go"
      refine ⟨done_ k, by simp, ?_⟩
      walk_at "go"
      refine ⟨done_ k, by simp, by simp [done_]; omega, ?_⟩
      refine dss_nil ⟨_, _, _, _, ?_, rfl⟩
      simp only [done_]
      rw [List.take_add_one, ha]
      simp
  · rintro ρ' α' ⟨x2, x3, x4, x5, rfl, rfl⟩
    rw [tabsD_len]
    refine dss_seal (α := α) (β := [_]) (ρ' := [none, some (.lst (done_ T.length)), none, none, none, none]) (Nat.le_refl _) hna
      (.any (.keep (.high (Nat.le_refl _) (by simp) (Seals.of (nas_of fun z hz => by
        obtain ⟨a', _, rfl⟩ := List.mem_map.mp hz
        simp only [D.na]
        exact nas_encR _ _))) (.any (.any (.any (.any .nil)))))) ?_
    refine dss_cons (ds_ret ?_)
    walk_at "go"
    have e : D.lst (done_ T.length) = lstR (machR N T) := by
      simp only [done_, List.take_length]
      unfold lstR machR
      rw [List.map_map]
      rfl
    rw [e]
    exact h
end

section
variable {P : Program} {w : World} {K : PySem.W.Frag} {mg : Str → Option Value} {base : Heap} {f : Addr} {fd : FuncData} {C : Addr}
def STables : FSpec := fun ds α R => ∃ x y β, ds = [.acc 0] ∧ α = bx x y :: β ∧ 0 ≤ x ∧ ∀ x' y' N T, 0 ≤ x' → MOk N T → 1 ≤ T.length → T.length ≤ 12 → N ≤ 12 → R (.lst (tabsD T)) (bx x' y' :: β)
theorem fn_tables (F : Fun K "_law_tables" "_law_tables" sTables f fd) (Z : Bl mg) (c1 : Fx P w K mg base 3 "_law_take" ["_law_box_here", "_law_many"] STake) (c2 : Fx P w K mg base 3 "_law_pick" ["_law_box_here", "_law_some"] SPick) (c3 : Fx P w K mg base 3 "_law_done" ["_law_one", "_law_other"] SDone) : FnOk P w K mg base CX0 4 f fd ["_law_box_here"] (SpD K STables) := by
  refine fn_def F scTables (fun ds α R h => by obtain ⟨x, y, β, rfl, _⟩ := h; rfl) (fun cdv A outer sh H E hr ds α R h hna hnd => ?_)
  obtain ⟨x, y, β, rfl, rfl, hx, h⟩ := h
  have nd : (["_law_box_here", "_law_many", "_law_found", "_law_turn", "_law_style", "_law_by", "_law_known", "_law_table", "_law_s"] : List Str).Nodup := by decide +kernel
  refine dss_sealR ?_
  refine dss_cons (ds_asg ?_)
  walk_at "goI"
  refine de_call c1 hr rfl ?_
  walk_at "goI"
  refine ⟨x, y, _, β, rfl, rfl, hx, by decide, by decide, fun x1 y1 n hx1 n1 n2 => ?_⟩
  obtain ⟨N, hN1, hN2, e0⟩ : ∃ N : Nat, 2 ≤ N ∧ N ≤ 4 ∧ (2 : Int) + n = N := ⟨(2 + n).toNat, by omega, by omega, by omega⟩
  walk_at "goI"
  rw [e0]
  refine de_cell ?_
  walk_at "goI"
  refine dg_tup rfl rfl (dgs_cons (dg_name 1 nd (dgs_cons (dg_name 2 nd (dgs_nil ?_)))))
  let Ok (T : List (List Nat)) : Prop := ∀ t ∈ T, t.length = N ∧ ∀ s ∈ t, s < N
  have okApp : ∀ {T : List (List Nat)} {t : List Nat}, Ok T → (t.length = N ∧ ∀ s ∈ t, s < N) → Ok (T ++ [t]) := fun hT ht s hs => by
    rcases List.mem_append.mp hs with hs | hs
    · exact hT s hs
    · simp at hs; subst hs; exact ht
  refine dss_cons (ds_for PassesOwn.never rfl (di_range1 Z.range (de_call c2 hr rfl ?_)))
  walk_at "goI"
  refine de_lst ?_
  walk_at "goI"
  refine ⟨x1, y1, _, _, [.int 2, .int 3, .int 2, .int 4], rfl, rfl, hx1, fun _ => rfl, by decide, by decide, fun x2 y2 e hx2 he => ?_⟩
  obtain ⟨k0, hk0, rfl⟩ : ∃ k : Nat, (1 ≤ k ∧ k ≤ 4) ∧ e = .int (k : Nat) := by
    simp at he
    rcases he with rfl | rfl | rfl | rfl
    · exact ⟨2, by decide, rfl⟩
    · exact ⟨3, by decide, rfl⟩
    · exact ⟨2, by decide, rfl⟩
    · exact ⟨4, by decide, rfl⟩
  let V : Nat → Rho → Sto → Prop := fun k ρ' α' => ∃ x y T x3 x4 x5 x6 x7 x8, 0 ≤ x ∧ α' = bx x y :: (β ++ [.l (tabsD T)]) ∧ Ok T ∧ T.length ≤ k ∧ ρ' = [some (.acc 0), some (.int (N : Nat)), some (.acc (β.length + 1)), x3, x4, x5, x6, x7, x8]
  refine ⟨_, rfl, by omega, by omega, V, ⟨x2, y2, [], _, _, _, _, _, _, hx2, rfl, fun t ht => by simp at ht, Nat.le_refl _, rfl⟩, fun _ _ _ _ => trivial, ?_, ?_⟩
  · rintro k y3 ρ' α' hy ⟨x, y, T, x3, x4, x5, x6, x7, x8, hx, rfl, hT, hTl, rfl⟩
    obtain ⟨hk, rfl⟩ := rgD_ix hy
    have hk' : k < 4 := by simp at hk; omega
    have gf : ∀ (x y : Int), (bx x y :: (β ++ [Cl.l (tabsD T)]))[β.length + 1]? = some (.l (tabsD T)) := fun x y => by simp
    have sf : ∀ (x y : Int) (ds : List D), (bx x y :: (β ++ [Cl.l (tabsD T)])).set (β.length + 1) (.l ds) = bx x y :: (β ++ [.l ds]) := fun x y ds => by simp
    have fin : ∀ (x y : Int) (t : List Nat), (t.length = N ∧ ∀ s ∈ t, s < N) → 0 ≤ x → ∀ x3 x4 x5 x6 x7 x8 : Option D, V (k + 1) [some (.acc 0), some (.int (N : Nat)), some (.acc (β.length + 1)), x3, x4, x5, x6, x7, x8] ((bx x y :: (β ++ [Cl.l (tabsD T)])).set (β.length + 1) (.l (tabsD T ++ [tabD t]))) := fun x y t ht hx x3 x4 x5 x6 x7 x8 =>
      ⟨x, y, T ++ [t], _, _, _, _, _, _, hx, by rw [sf, ← tabsD_app]; rfl, okApp hT ht, by simp; omega, rfl⟩
    refine dg_name 3 nd ?_
    refine dss_cons (ds_set 4 nd (de_call c1 hr rfl ?_))
    walk_at "goI"
    refine ⟨x, y, _, _, rfl, rfl, hx, by decide, by decide, fun xa ya st hxa s1 s2 => ?_⟩
    refine dss_cons (ds_if ?_)
    have rest : ∀ (n' : Nat) (Q : Post), (∀ ρ α, V (k + 1) ρ α → Q.nx ρ α) → DSs (bodyX P w K mg base ["_law_box_here", "_law_many", "_law_found", "_law_turn", "_law_style", "_law_by", "_law_known", "_law_table", "_law_s"] "_law_tables" sTables f cdv A outer sh H E) n'
        (ifE ((forB ((defBody sTables).getD 1 noS)).getD 1 noS)) [some (.acc 0), some (.int (N : Nat)), some (.acc (β.length + 1)), some (.int (k : Nat)), some (.int st), x5, x6, x7, x8] (bx xa ya :: (β ++ [.l (tabsD T)])) Q := by
      intro n' Q hQ
      refine dss_cons (ds_if ?_)
      walk_at "goI"
      refine iteB (fun h1 => ?_) (fun h1 => ?_)
      · refine dss_cons (ds_set 5 nd ?_)
        walk_at "goI"
        refine de_call c1 hr rfl ?_
        walk_at "goI"
        refine ⟨xa, ya, _, _, rfl, rfl, hxa, by omega, by omega, fun xb yb b hxb b1 b2 => ?_⟩
        walk_at "goI"
        obtain ⟨by_, hby⟩ : ∃ b' : Nat, (1 : Int) + b = b' := ⟨(1 + b).toNat, by omega⟩
        rw [hby]
        refine dss_cons (ds_append ?_)
        walk_at "goI"
        refine ⟨_, gf xb yb, ?_⟩
        refine de_callTy call_tuple_of rfl Z.tuple boot_tuple (da_cons ?_)
        refine de_lcG (own := [("_law_s", 8)]) 8 rfl nd (blkOk_by (N := ["_law_box_here", "_law_many", "_law_found", "_law_turn", "_law_style", "_law_by", "_law_known", "_law_table", "_law_s"]) (sc := defScope sTables) (by decide +kernel)) (by decide) (fun _ _ _ _ _ => pg_name (i := 8) nd rfl (Or.inl rfl)) (fun hna2 => LcG.pure ?_)
        refine di_range1 Z.range ?_
        walk_at "goI"
        refine ⟨by omega, by omega, rfl, fun _ => trivial, by rw [rgD_len]; simp; omega, intsD ((List.range N).map fun s => (s + by_) % N), by rw [rgD_len]; simp [intsD], ?_, Nat.le_refl _, hna2, nas_intsD _ _, ?_⟩
        · intro j y z acc hy hz s' H C cl fp
          obtain ⟨hj, rfl⟩ := rgD_ix hy
          obtain ⟨v, hv, rfl⟩ := intsD_get hz
          have hj' : j < N := by simpa using hj
          rw [List.getElem?_map, List.getElem?_range hj'] at hv
          cases hv
          walk_at "goI"
          exact ⟨by simp, rfl⟩
        · walk_at "goI"
          refine cd_tuple rfl ⟨_, gf xb yb, by rw [tabsD_len]; omega, dss_nil (dss_nil (hQ _ _ (fin xb yb _ ⟨by simp, fun s hs => ?_⟩ hxb _ _ _ _ _ _)))⟩
          obtain ⟨a, _, rfl⟩ := List.mem_map.mp hs
          exact Nat.mod_lt _ (by omega)
      · refine dss_cons (ds_if ?_)
        walk_at "goI"
        refine iteB (fun h2 => ?_) (fun h2 => ?_)
        · refine dss_cons (ds_set 5 nd ?_)
          walk_at "goI"
          refine de_call c1 hr rfl ?_
          walk_at "goI"
          refine ⟨xa, ya, _, _, rfl, rfl, hxa, by omega, by omega, fun xb yb b hxb b1 b2 => ?_⟩
          walk_at "goI"
          obtain ⟨by_, hby⟩ : ∃ b' : Nat, (1 : Int) + b = b' := ⟨(1 + b).toNat, by omega⟩
          rw [hby]
          refine dss_cons (ds_append ?_)
          walk_at "goI"
          refine ⟨_, gf xb yb, ?_⟩
          refine de_callTy call_tuple_of rfl Z.tuple boot_tuple (da_cons ?_)
          refine de_lcG (own := [("_law_s", 8)]) 8 rfl nd (blkOk_by (N := ["_law_box_here", "_law_many", "_law_found", "_law_turn", "_law_style", "_law_by", "_law_known", "_law_table", "_law_s"]) (sc := defScope sTables) (by decide +kernel)) (by decide) (fun _ _ _ _ _ => pg_name (i := 8) nd rfl (Or.inl rfl)) (fun hna2 => LcG.pure ?_)
          refine di_range1 Z.range ?_
          walk_at "goI"
          refine ⟨by omega, by omega, rfl, fun _ => trivial, by rw [rgD_len]; simp; omega, intsD ((List.range N).map fun s => min (N - 1) (s + by_)), by rw [rgD_len]; simp [intsD], ?_, Nat.le_refl _, hna2, nas_intsD _ _, ?_⟩
          · intro j y z acc hy hz s' H C cl fp
            obtain ⟨hj, rfl⟩ := rgD_ix hy
            obtain ⟨v, hv, rfl⟩ := intsD_get hz
            have hj' : j < N := by simpa using hj
            rw [List.getElem?_map, List.getElem?_range hj'] at hv
            cases hv
            refine de_callB (call_min2 rfl) rfl Z.min boot_min ?_
            walk_at "goI"
            refine cd_min2 ⟨?_, rfl⟩
            show _ = D.int ((min (N - 1) (j + by_) : Nat) : Int)
            rcases Nat.le_total (N - 1) (j + by_) with hle | hle
            · rw [Nat.min_eq_left hle, if_neg (by omega)]
              congr 1; omega
            · rw [Nat.min_eq_right hle]
              by_cases he : j + by_ = N - 1
              · rw [if_neg (by omega)]; congr 1; omega
              · rw [if_pos (by omega)]; congr 1
          · walk_at "goI"
            refine cd_tuple rfl ⟨_, gf xb yb, by rw [tabsD_len]; omega, dss_nil (dss_nil (dss_nil (hQ _ _ (fin xb yb _ ⟨by simp, fun s hs => ?_⟩ hxb _ _ _ _ _ _))))⟩
            obtain ⟨a, _, rfl⟩ := List.mem_map.mp hs
            omega
        · refine dss_cons (ds_append ?_)
          walk_at "goI"
          refine ⟨_, gf xa ya, ?_⟩
          refine de_callTy call_tuple_of rfl Z.tuple boot_tuple (da_cons ?_)
          refine de_lcG (own := [("_law_s", 8)]) 8 rfl nd (blkOk_by (N := ["_law_box_here", "_law_many", "_law_found", "_law_turn", "_law_style", "_law_by", "_law_known", "_law_table", "_law_s"]) (sc := defScope sTables) (by decide +kernel)) (by decide) (fun _ _ _ _ _ => pg_name (i := 8) nd rfl (Or.inl rfl)) (fun hna2 => ?_)
          refine di_range1 Z.range ?_
          walk_at "goI"
          refine ⟨by omega, by omega, fun k α' zs => ∃ x y t, 0 ≤ x ∧ α' = bx x y :: (β ++ [.l (tabsD T)]) ∧ zs = intsD t ∧ t.length = k ∧ ∀ s ∈ t, s < N, ⟨xa, ya, [], hxa, rfl, rfl, rfl, fun s hs => by simp at hs⟩, by rw [rgD_len]; simp; omega, ?_, ?_, ?_⟩
          · rintro k α' zs ⟨x, y, t, hx, rfl, rfl, rfl, ht⟩
            exact ⟨by simp, by simp [intsD], trivial⟩
          · rintro k y1 α' zs hy ⟨x, y, t, hx, rfl, rfl, rfl, ht⟩ s' H C cl fp
            refine dts_nil ⟨rfl, ifT rfl ?_⟩
            intro s' H C cl fp
            refine de_call c1 hr rfl ?_
            walk_at "goI"
            refine ⟨x, y, _, _, rfl, rfl, hx, by omega, by omega, fun xb yb b hxb b1 b2 => ?_⟩
            obtain ⟨b, rfl⟩ := nat_of (x := b) (by omega) (by omega)
            refine ⟨bx xb yb :: (β ++ [.l (tabsD T)]), rfl, by simp, xb, yb, t ++ [b], hxb, rfl, by rw [intsD_app]; rfl, by simp, fun s hs => ?_⟩
            rcases List.mem_append.mp hs with hs | hs
            · exact ht s hs
            · simp at hs; omega
          · rintro α' zs ⟨x, y, t, hx, rfl, rfl, ht1, ht⟩
            rw [rgD_len] at ht1
            refine ⟨by simp, fun c hc => ?_, nas_intsD _ _, ?_⟩
            · have := nas_box (x' := x) (y' := y) hna2 c (by simpa using hc)
              simpa using this
            · walk_at "goI"
              refine cd_tuple rfl ⟨_, gf x y, by rw [tabsD_len]; omega, dss_nil (dss_nil (dss_nil (hQ _ _ (fin x y _ ⟨by simpa using ht1, ht⟩ hx _ _ _ _ _ _))))⟩
    have rest' : ∀ (n' : Nat) (Q : Post), (∀ ρ α, V (k + 1) ρ α → Q.nx ρ α) → True := fun _ _ _ => trivial
    walk_at "goI"
    refine iteB (fun h1 => ?_) (fun h1 => ifF rfl (rest _ _ fun ρ α hv => dss_nil hv))
    walk_at "goI"
    refine cd_len (cont_acc.mpr (gf xa ya)) ?_
    walk_at "goI"
    rw [tabsD_len]
    refine iteB (fun h2 => ?_) (fun h2 => rest _ _ fun ρ α hv => dss_nil hv)
    have hT0 : 0 < T.length := by simpa using h2
    refine dss_cons (ds_append ?_)
    walk_at "goI"
    refine ⟨_, gf xa ya, ?_⟩
    refine de_call c3 hr rfl ?_
    walk_at "goI"
    refine de_call c2 hr rfl ?_
    walk_at "goI"
    refine ⟨xa, ya, _, _, tabsD T, rfl, rfl, hxa, fun c => cont_acc.mpr (by cases c <;> simp), by rw [tabsD_len]; exact hT0, by rw [tabsD_len]; omega, fun xb yb e1 hxb he1 => ?_⟩
    obtain ⟨t1, ht1, rfl⟩ := tabsD_mem he1
    walk_at "goI"
    refine de_call c2 hr rfl ?_
    walk_at "goI"
    refine ⟨xb, yb, _, _, tabsD T, rfl, rfl, hxb, fun c => cont_acc.mpr (by cases c <;> simp), by rw [tabsD_len]; exact hT0, by rw [tabsD_len]; omega, fun xc yc e2 hxc he2 => ?_⟩
    obtain ⟨t2, ht2, rfl⟩ := tabsD_mem he2
    walk_at "goI"
    refine ⟨t1, t2, rfl, fun s hs => by rw [(hT t2 ht2).1]; exact (hT t1 ht1).2 s hs, by rw [(hT t1 ht1).1]; omega, ?_⟩
    exact ⟨_, gf xc yc, by rw [tabsD_len]; omega, dss_nil (dss_nil (fin xc yc _ (comp_ok (hT t1 ht1) (hT t2 ht2)) hxc _ _ _ _ _ _))⟩
  · rintro ρ' α' ⟨x, y, T, x3, x4, x5, x6, x7, x8, hx, rfl, hT, hTl, rfl⟩
    rw [rgD_len] at hTl
    have hTl' : T.length ≤ 4 := by simp at hTl; omega
    have gf : (bx x y :: (β ++ [Cl.l (tabsD T)]))[β.length + 1]? = some (.l (tabsD T)) := by simp
    refine dss_cons (ds_set 6 nd (de_lst ?_))
    walk_at "go"
    refine dss_cons (ds_for PassesOwn.never rfl (di_list ?_))
    walk_at "go"
    refine ⟨tabsD T, rfl, cont_acc.mpr gf, fun k ρ' α' => ∃ K x7, α' = bx x y :: (β ++ [Cl.l (tabsD T)]) ∧ K.Nodup ∧ (∀ t ∈ K, t ∈ T) ∧ List.range N ∉ K ∧ K.length ≤ k ∧ ρ' = [some (.acc 0), some (.int (N : Nat)), some (.acc (β.length + 1)), x3, x4, x5, some (.lst (tabsD K)), x7, x8], ⟨[], _, rfl, List.nodup_nil, fun t ht => by simp at ht, by simp, Nat.le_refl _, rfl⟩, ?_, ?_, ?_⟩
    · rintro k ρ' α' ⟨K, x7, rfl, _⟩
      exact cont_acc.mpr gf
    · rintro k y1 ρ' α' hy ⟨K, x7, rfl, hK1, hK2, hK3, hKl, rfl⟩
      obtain ⟨t, ht, rfl⟩ := tabsD_get hy
      have htm := List.mem_of_getElem? ht
      have hk : k < T.length := (List.getElem?_eq_some_iff.mp ht).1
      refine dg_name 7 nd ?_
      refine dss_cons (ds_set 6 nd (de_op op_cat ?_))
      walk_at "go"
      have skip : ∃ K' x7, bx x y :: (β ++ [Cl.l (tabsD T)]) = bx x y :: (β ++ [Cl.l (tabsD T)]) ∧ K'.Nodup ∧ (∀ t ∈ K', t ∈ T) ∧ List.range N ∉ K' ∧ K'.length ≤ k + 1 ∧ [some (.acc 0), some (.int (N : Nat)), some (.acc (β.length + 1)), x3, x4, x5, some (.lst (tabsD K ++ [])), some (tabD t), x8] = [some (D.acc 0), some (.int (N : Nat)), some (.acc (β.length + 1)), x3, x4, x5, some (.lst (tabsD K')), x7, x8] := ⟨K, _, rfl, hK1, hK2, hK3, by omega, by rw [List.append_nil]⟩
      refine dt_cmp (op_notInD (units65 hr)) rfl ?_
      walk_at "go"
      refine od_ninT ⟨_, rfl, iteB (fun h1 => ?_) (fun h1 => ?_)⟩
      · walk_at "go"
        refine de_tupRg rfl Z.tuple Z.range ?_
        walk_at "go"
        refine ⟨by omega, ?_⟩
        rw [rgD_tab]
        refine od_neT ⟨_, rfl, iteB (fun h2 => ?_) (fun h2 => ?_)⟩
        · refine de_lst ?_
          walk_at "go"
          refine od_cat (ds := tabsD K) (es := [tabD t]) rfl rfl (by rw [tabsD_len]; simp; omega) ?_
          refine dss_nil ⟨K ++ [t], _, rfl, ?_, fun s hs => ?_, fun hs => ?_, by simp; omega, by rw [← tabsD_app]; rfl⟩
          · simp at h1
            rw [List.nodup_append]
            exact ⟨hK1, by simp, fun a ha b hb => by simp at hb; subst hb; exact fun e => h1 (e ▸ ha)⟩
          · rcases List.mem_append.mp hs with hs | hs
            · exact hK2 s hs
            · simp at hs; subst hs; exact htm
          · simp at h2
            rcases List.mem_append.mp hs with hs | hs
            · exact hK3 hs
            · simp at hs; exact h2 hs.symm
        · refine de_lst ?_
          walk_at "go"
          exact od_cat (ds := tabsD K) (es := []) rfl rfl (by rw [tabsD_len]; simp; omega) (dss_nil skip)
      · refine de_lst ?_
        walk_at "go"
        exact od_cat (ds := tabsD K) (es := []) rfl rfl (by rw [tabsD_len]; simp; omega) (dss_nil skip)
    · rintro ρ' α' ⟨K, x7, rfl, hK1, hK2, hK3, hKl, rfl⟩
      rw [tabsD_len] at hKl
      have fin : ∀ T', MOk N T' → 1 ≤ T'.length → T'.length ≤ 12 → ∃ α1 β_1 d', bx x y :: (β ++ [Cl.l (tabsD T)]) = α1 ++ β_1 ∧ (bx x y :: β).length ≤ α1.length ∧ NaS α1.length α1 ∧ Seal α1.length (bx x y :: (β ++ [Cl.l (tabsD T)])) (.lst (tabsD T')) d' ∧ R d' α1 :=
        fun T' h1 h2 h3 => ⟨bx x y :: β, _, .lst (tabsD T'), rfl, Nat.le_refl _, nas_box hna, Seal.of (by simp only [D.na]; exact na_tabs _ _), h x y N T' hx h1 h2 h3 (by omega)⟩
      refine dss_cons (ds_ret (de_ite ?_))
      walk_at "go"
      refine de_lst ?_
      walk_at "go"
      refine od_neNil ⟨_, rfl, iteB (fun h1 => ?_) (fun h1 => ?_)⟩
      · walk_at "go"
        refine fin K ⟨fun t ht => hT t (hK2 t ht), hK1, hK3⟩ ?_ (by omega)
        simp at h1
        exact List.length_pos_iff.mpr h1
      · refine de_lst (da_cons ?_)
        refine de_callTy call_tuple_of rfl Z.tuple boot_tuple (da_cons ?_)
        refine de_lcG (own := [("_law_s", 8)]) 8 rfl nd (blkOk_by (N := ["_law_box_here", "_law_many", "_law_found", "_law_turn", "_law_style", "_law_by", "_law_known", "_law_table", "_law_s"]) (sc := defScope sTables) (by decide +kernel)) (by decide) (fun _ _ _ _ _ => pg_name (i := 8) nd rfl (Or.inl rfl)) (fun hna2 => LcG.pure ?_)
        refine di_range1 Z.range ?_
        walk_at "go"
        refine ⟨by omega, by omega, rfl, fun _ => trivial, by rw [rgD_len]; simp; omega, intsD (List.replicate N 0), by rw [rgD_len]; simp [intsD], ?_, Nat.le_refl _, hna2, nas_intsD _ _, ?_⟩
        · intro j y z acc hy hz s' H C cl fp
          obtain ⟨v, hv, rfl⟩ := intsD_get hz
          have : v = 0 := List.eq_of_mem_replicate (List.mem_of_getElem? hv)
          subst this
          walk_at "go"
          exact ⟨rfl, rfl⟩
        · walk_at "go"
          refine cd_tuple rfl ?_
          walk_at "go"
          refine fin [List.replicate N 0] ⟨fun t ht => ?_, by simp, fun hi => ?_⟩ (by simp) (by simp)
          · simp at ht; subst ht
            exact ⟨by simp, fun s hs => by rw [List.eq_of_mem_replicate hs]; omega⟩
          · simp at hi
            have := congrArg (fun l => l[1]?) hi
            simp [show 1 < N by omega] at this
end

abbrev sSpecial : Stmt := top 39
abbrev nSpecial : List Str := ["_law_box_here", "_law_kind", "_law_most", "_law_side", "_law_some", "_law_pairs", "_law_rows_here", "_law_one", "_law_other", "_law_made", "_law_row", "_law_a", "_law_b"]
theorem scSpecial : FnScope nSpecial ["_law_box_here"] (defScope sSpecial) := ⟨rfl, rfl, rfl, by decide +kernel, rfl, by decide +kernel, by decide +kernel⟩
section
variable {P : Program} {w : World} {K : PySem.W.Frag} {mg : Str → Option Value} {base : Heap} {f : Addr} {fd : FuncData} {C : Addr}
def pairD (p : Nat × Nat × Nat) : D := .tup [.int (p.1 : Nat), .int (p.2.1 : Nat), .int (p.2.2 : Nat)]
theorem fn_special (F : Fun K "_law_special" "_law_special" sSpecial f fd) (Z : Bl mg) (c1 : Fx P w K mg base 3 "_law_take" ["_law_box_here", "_law_many"] STake) : FnOk P w K mg base CX0 4 f fd ["_law_box_here"] (SpD K SGen) := by
  refine fn_def F scSpecial (fun ds α R h => by obtain ⟨x, y, β, rfl, _⟩ := h; rfl) (fun cdv A outer sh H E hr ds α R h hna hnd => ?_)
  obtain ⟨x, y, β, rfl, rfl, hx, h⟩ := h
  have nd : nSpecial.Nodup := by decide +kernel
  refine dss_sealR ?_
  have ret : ∀ x y n m, 0 ≤ x → Wf n m → 1 ≤ n → n ≤ 12 → Sound n m → ∃ α1 β_1 d', bx x y :: β = α1 ++ β_1 ∧ (bx x y :: β).length ≤ α1.length ∧ NaS α1.length α1 ∧ Seal α1.length (bx x y :: β) (lstR m) d' ∧ R d' α1 :=
    fun x y n m hx hw h1 h2 hs => ⟨bx x y :: β, [], lstR m, (List.append_nil _).symm, Nat.le_refl _, nas_box hna, Seal.of (na_lstR _), h x y m n hx hw h1 h2 hs⟩
  refine dss_cons (ds_set 1 nd (de_call c1 hr rfl ?_))
  walk_at "goI"
  refine ⟨x, y, _, β, rfl, rfl, hx, by decide, by decide, fun x1 y1 kd hx1 k1 k2 => ?_⟩
  obtain ⟨kd, rfl⟩ := nat_of (x := kd) (by omega) (by omega)
  refine dss_cons (ds_if ?_)
  walk_at "goI"
  refine iteB (fun h4 => ?_) (fun h4 => dss_nil ?_)
  · refine dss_cons (ds_set 2 nd ?_)
    walk_at "goI"
    refine de_call c1 hr rfl ?_
    walk_at "goI"
    refine ⟨x1, y1, _, β, rfl, rfl, hx1, by decide, by decide, fun x2 y2 mo hx2 m1 m2 => ?_⟩
    walk_at "goI"
    obtain ⟨n, hn, e0⟩ : ∃ n : Nat, (2 ≤ n ∧ n ≤ 4) ∧ (2 : Int) + mo = n := ⟨(2 + mo).toNat, by omega, by omega⟩
    rw [e0]
    refine dss_cons (ds_ret ?_)
    refine de_lcG (own := [("_law_a", 11)]) 11 rfl nd (blkOk_by (N := nSpecial) (sc := defScope sSpecial) (by decide +kernel)) (by decide) (fun _ _ _ _ _ => pg_name (i := 11) nd rfl (Or.inr rfl)) (fun hna2 => LcG.pure ?_)
    refine di_range1 Z.range ?_
    walk_at "goI"
    refine ⟨by omega, by omega, rfl, fun _ => trivial, by rw [rgD_len]; simp; omega, (addR n).map fun r => .lst (encR r), by rw [rgD_len]; simp [addR], ?_, Nat.le_refl _, hna2, nas_of fun z hz => ?_, ?_⟩
    · intro a y z acc hy hz s H C cl fp
      obtain ⟨ha, rfl⟩ := rgD_ix hy
      have ha' : a < n := by simpa using ha
      unfold addR at hz
      rw [List.map_map, List.getElem?_map, List.getElem?_range ha'] at hz
      cases hz
      refine de_lcG (own := [("_law_b", 12)]) 12 rfl nd (blkOk_by rfl) (by decide) (fun _ _ _ _ _ => pg_name (i := 12) nd rfl (Or.inl rfl)) (fun hna3 => LcG.pure ?_)
      refine di_range1 Z.range ?_
      walk_at "goI"
      refine ⟨by omega, by omega, rfl, fun _ => trivial, by rw [rgD_len]; simp; omega, encR ((List.range n).map fun b => if a + b + 1 < n then some ((a + b + 1 : Nat) : Int) else none), by rw [rgD_len]; simp [encR], ?_, Nat.le_refl _, hna3, nas_encR _ _, rfl, rfl⟩
      intro b y z acc hy hz s H C cl fp
      obtain ⟨hb, rfl⟩ := rgD_ix hy
      have hb' : b < n := by simpa using hb
      unfold encR at hz
      rw [List.map_map, List.getElem?_map, List.getElem?_range hb'] at hz
      cases hz
      walk_at "goI"
      show _
      by_cases hlt : a + b + 1 < n
      · refine ifT (by simp; omega) ?_
        walk_at "goI"
        refine ⟨?_, rfl⟩
        show _ = encE (if a + b + 1 < n then some ((a + b + 1 : Nat) : Int) else none)
        rw [if_pos hlt]
        show D.int _ = D.int _
        congr 1
      · refine ifF (by simp; omega) ?_
        refine de_non ⟨?_, rfl⟩
        show _ = encE (if a + b + 1 < n then some ((a + b + 1 : Nat) : Int) else none)
        rw [if_neg hlt]
    · obtain ⟨r, _, rfl⟩ := List.mem_map.mp hz
      simp only [D.na]; exact nas_encR _ _
    · obtain ⟨w1, w2⟩ := add_ok hn.1 hn.2
      exact ret x2 y2 n (addR n) hx2 w1 (by omega) (by omega) w2
  · refine dss_cons (ds_if ?_)
    walk_at "goI"
    refine iteB (fun h5 => ?_) (fun h5 => dss_nil ?_)
    · refine dss_cons (ds_asg ?_)
      walk_at "goI"
      refine de_call c1 hr rfl ?_
      walk_at "goI"
      refine ⟨x1, y1, _, β, rfl, rfl, hx1, by decide, by decide, fun x2 y2 mo hx2 m1 m2 => ?_⟩
      walk_at "goI"
      obtain ⟨n, hn, e0⟩ : ∃ n : Nat, (2 ≤ n ∧ n ≤ 4) ∧ (2 : Int) + mo = n := ⟨(2 + mo).toNat, by omega, by omega⟩
      rw [e0]
      refine de_call c1 hr rfl ?_
      walk_at "goI"
      refine ⟨x2, y2, _, β, rfl, rfl, hx2, by decide, by decide, fun x3 y3 sd hx3 s1 s2 => ?_⟩
      obtain ⟨sd, rfl⟩ := nat_of (x := sd) (by omega) (by omega)
      walk_at "goI"
      refine dg_tup rfl rfl (dgs_cons (dg_name 2 nd (dgs_cons (dg_name 3 nd (dgs_nil ?_)))))
      refine dss_cons (ds_ret ?_)
      refine de_lcG (own := [("_law_a", 11)]) 11 rfl nd (blkOk_by (N := nSpecial) (sc := defScope sSpecial) (by decide +kernel)) (by decide) (fun _ _ _ _ _ => pg_name (i := 11) nd rfl (Or.inr rfl)) (fun hna2 => LcG.pure ?_)
      refine di_range1 Z.range ?_
      walk_at "goI"
      refine ⟨by omega, by omega, rfl, fun _ => trivial, by rw [rgD_len]; simp; omega, (sideR n sd).map fun r => .lst (encR r), by rw [rgD_len]; simp [sideR], ?_, Nat.le_refl _, hna2, nas_of fun z hz => ?_, ?_⟩
      · intro a y z acc hy hz s H C cl fp
        obtain ⟨ha, rfl⟩ := rgD_ix hy
        have ha' : a < n := by simpa using ha
        unfold sideR at hz
        rw [List.map_map, List.getElem?_map, List.getElem?_range ha'] at hz
        cases hz
        refine de_lcG (own := [("_law_b", 12)]) 12 rfl nd (blkOk_by rfl) (by decide) (fun _ _ _ _ _ => pg_name (i := 12) nd rfl (Or.inl rfl)) (fun hna3 => LcG.pure ?_)
        refine di_range1 Z.range ?_
        walk_at "goI"
        refine ⟨by omega, by omega, rfl, fun _ => trivial, by rw [rgD_len]; simp; omega, encR ((List.range n).map fun b => some ((if sd = 0 then a else b : Nat) : Int)), by rw [rgD_len]; simp [encR], ?_, Nat.le_refl _, hna3, nas_encR _ _, rfl, rfl⟩
        intro b y z acc hy hz s H C cl fp
        obtain ⟨hb, rfl⟩ := rgD_ix hy
        have hb' : b < n := by simpa using hb
        unfold encR at hz
        rw [List.map_map, List.getElem?_map, List.getElem?_range hb'] at hz
        cases hz
        refine de_ix ix_seq ?_
        walk_at "goL"
        refine od_ix (ds := [.int (a : Nat), .int (b : Nat)]) rfl (atI_nn (d := .int ((if sd = 0 then a else b : Nat) : Int)) ?_) ⟨rfl, rfl⟩
        have : sd = 0 ∨ sd = 1 := by omega
        rcases this with rfl | rfl <;> rfl
      · obtain ⟨r, _, rfl⟩ := List.mem_map.mp hz
        simp only [D.na]; exact nas_encR _ _
      · obtain ⟨w1, w2⟩ := side_ok (s := sd) hn.1 hn.2 (by omega)
        exact ret x3 y3 n (sideR n sd) hx3 w1 (by omega) (by omega) w2
    · simp at h4 h5
      have hk : kd < 4 := by omega
      have fin : ∀ (L : List (Nat × Nat × Nat)) (x y : Int) x2 x3 x4, (∀ p ∈ L, p.1 < 7 ∧ p.2.1 < 7 ∧ p.2.2 < 7) → Wf 7 (pairM L) → Sound 7 (pairM L) → 0 ≤ x → L.length ≤ 10 → DSs (bodyX P w K mg base nSpecial "_law_special" sSpecial f cdv A outer sh H E) (bx x y :: β).length ((defBody sSpecial).drop 5)
          [some (.acc 0), some (.int (kd : Nat)), x2, x3, x4, some (.lst (L.map pairD)), none, none, none, none, none, none, none] (bx x y :: β)
          ⟨fun _ α' => R .non α', fun d α' => ∃ α1 β_1 d', α' = α1 ++ β_1 ∧ (bx x y :: β).length ≤ α1.length ∧ NaS α1.length α1 ∧ Seal α1.length α' d d' ∧ R d' α1, fun _ _ => False, fun _ _ => False⟩ := by
        intro L x y x2 x3 x4 hL hw hs hx hl
        refine dss_cons (ds_setLc (own := [("_law_a", 11)]) 6 11 rfl nd (blkOk_by (N := nSpecial) (sc := defScope sSpecial) (by decide +kernel)) (by decide) (fun _ _ _ _ _ => pg_name (i := 11) nd rfl (Or.inl rfl)) (sw_true rfl rfl rfl (by decide +kernel)) ?_)
        refine lcD_mat (n := 7) (by decide) ?_ ?_ ?_
        · refine di_range1 Z.range ?_
          walk_at "goI"
          exact ⟨by decide, by decide, rfl, rfl, fun _ => trivial⟩
        · intro y α' s H C cl fp
          refine de_lc (own := [("_law_b", 12)]) 12 rfl nd (blkOk_by rfl) (by decide) (fun _ _ _ _ _ => pg_name (i := 12) nd rfl (Or.inl rfl)) ?_
          refine lcD_row (n := 7) (by decide) ?_ ?_ ⟨rfl, rfl⟩
          · refine di_range1 Z.range ?_
            walk_at "goI"
            exact ⟨by decide, by decide, rfl, rfl, fun _ => trivial⟩
          · intro y α' s H C cl fp
            exact de_non ⟨rfl, rfl⟩
        let Mk (k : Nat) : Rows := pairM (L.take k)
        refine dss_cons (ds_for PassesOwn.never rfl (di_list ?_))
        walk_at "go"
        refine ⟨L.map pairD, rfl, rfl, fun k ρ' α' => ∃ x7 x8 x9 x10, Wf 7 (Mk k) ∧ α' = Mat (bx x y :: β) (Mk k) ∧ ρ' = [some (.acc 0), some (.int (kd : Nat)), x2, x3, x4, some (.lst (L.map pairD)), some (.acc (β.length + 1)), x7, x8, x9, x10, none, none], ⟨_, _, _, _, wf_noR 7, rfl, rfl⟩, fun _ _ _ _ => rfl, ?_, ?_⟩
        · rintro k y1 ρ' α' hy ⟨x7, x8, x9, x10, hwk, rfl, rfl⟩
          rw [List.getElem?_map] at hy
          cases hp : L[k]? with
          | none => rw [hp] at hy; cases hy
          | some p =>
            rw [hp] at hy; cases hy
            obtain ⟨p1, p2, p3⟩ := hL p (List.mem_of_getElem? hp)
            obtain ⟨r, hr1, hr2, _⟩ := hwk.get p1
            have eM : Mk (k + 1) = set2 (Mk k) p.1 p.2.1 (some (p.2.2 : Nat)) := by
              simp only [Mk, pairM]
              rw [List.take_add_one, hp, List.foldl_append]; rfl
            refine dg_tup rfl rfl (dgs_cons (dg_name 7 nd (dgs_cons (dg_name 8 nd (dgs_cons (dg_name 9 nd (dgs_nil ?_)))))))
            refine dss_cons (ds_set 10 nd ?_)
            walk_at "go"
            refine od_ix (d := .acc (β.length + 1 + 1 + p.1)) (cont_acc.mpr (Mat.outer (γ := bx x y :: β) (m := Mk k))) (atI_nn (refs_get (by rw [hwk.len]; exact p1))) ?_
            refine dss_cons (ds_setIx ?_)
            walk_at "go"
            refine ⟨β.length + 1 + 1 + p.1, p.2.1, encR r, rfl, rfl, Mat.inner (γ := bx x y :: β) hr1, by simp [encR, hr2]; exact p2, ?_⟩
            refine dss_nil ⟨_, _, _, _, ?_, ?_, rfl⟩
            · rw [eM]
              exact wf_set2 hwk p1 (fun z hz => by cases hz; omega)
            · rw [eM]
              exact Mat.set2 (γ := bx x y :: β) (v := some (p.2.2 : Nat)) hr1
        · rintro ρ' α' ⟨x7, x8, x9, x10, hwk, rfl, rfl⟩
          have eL : Mk (L.map pairD).length = pairM L := by simp only [Mk]; rw [List.length_map, List.take_length]
          rw [eL]
          refine dss_cons (ds_ret ?_)
          walk_at "go"
          exact ⟨bx x y :: β, _, lstR (pairM L), rfl, Nat.le_refl _, nas_box hna, seal_mat (γ := bx x y :: β), h x y (pairM L) 7 hx hw (by decide) (by decide) hs⟩
      refine dss_cons ?_
      refine ds_asg ?_
      walk_at "goL"
      refine dg_name 4 nd ?_
      refine dss_cons ?_
      refine ds_asg ?_
      refine de_ix ix_seq ?_
      refine de_op op_cat ?_
      walk_at "goL"
      refine od_cat (ds := [_, _, _]) (es := [_]) rfl rfl (by simp) ?_
      walk_at "go"
      obtain ⟨w1, w2, w3⟩ := pair_ok hk
      have hp4 : (pairL kd).length ≤ 10 := by
        have : kd = 0 ∨ kd = 1 ∨ kd = 2 ∨ kd = 3 := by omega
        rcases this with rfl | rfl | rfl | rfl <;> decide
      refine od_ix (d := .lst ((pairL kd).map pairD)) rfl (atI_nn ?_) ?_
      · have : kd = 0 ∨ kd = 1 ∨ kd = 2 ∨ kd = 3 := by omega
        rcases this with rfl | rfl | rfl | rfl <;> rfl
      refine dg_name 5 nd ?_
      exact fin (pairL kd) x1 y1 _ _ _ w3 w1 w2 hx1 hp4
end

abbrev sCarry : Stmt := top 40
abbrev nCarry : List Str := ["_law_box_here", "_law_turn", "_law_own", "_law_many", "_law_left", "_law_right", "_law_rest", "_law_rows_here", "_law_i", "_law_row", "_law_j", "_law_both", "_law_x", "_law_other", "_law_block", "_law_a", "_law_b"]
theorem scCarry : FnScope nCarry ["_law_box_here"] (defScope sCarry) := ⟨rfl, rfl, rfl, by decide +kernel, rfl, by decide +kernel, by decide +kernel⟩
section
variable {P : Program} {w : World} {K : PySem.W.Frag} {mg : Str → Option Value} {base : Heap} {f : Addr} {fd : FuncData} {C : Addr}
theorem fn_carry (F : Fun K "_law_carry" "_law_carry" sCarry f fd) (Z : Bl mg) (c1 : Fx P w K mg base 3 "_law_take" ["_law_box_here", "_law_many"] STake) (c2 : Fx P w K mg base 3 "_law_pick" ["_law_box_here", "_law_some"] SPick) : FnOk P w K mg base CX0 4 f fd ["_law_box_here"] (SpD K SGen) := by
  refine fn_def F scCarry (fun ds α R h => by obtain ⟨x, y, β, rfl, _⟩ := h; rfl) (fun cdv A outer sh H E hr ds α R h hna hnd => ?_)
  obtain ⟨x, y, β, rfl, rfl, hx, h⟩ := h
  have nd : nCarry.Nodup := by decide +kernel
  refine dss_sealR ?_
  refine dss_cons ?_
  refine ds_par 1 2 rfl nd ?_
  refine da_consF ?_
  refine de_call c2 hr rfl ?_
  walk_at "goL"
  refine ⟨x, y, β, _, [.int 2, .int 2, .int 3], rfl, rfl, hx, fun _ => rfl, by decide, by decide, fun x1 y1 e hx1 he => ?_⟩
  obtain ⟨turn, ht, rfl⟩ : ∃ k : Nat, (k = 2 ∨ k = 3) ∧ e = .int (k : Nat) := by
    simp at he
    rcases he with rfl | rfl
    · exact ⟨2, .inl rfl, rfl⟩
    · exact ⟨3, .inr rfl, rfl⟩
  walk_at "goL"
  refine de_call c1 hr rfl ?_
  walk_at "goL"
  refine ⟨x1, y1, _, β, rfl, rfl, hx1, by decide, by decide, fun x2 y2 own hx2 o1 o2 => ?_⟩
  obtain ⟨own, rfl⟩ := nat_of (x := own) (by omega) (by omega)
  walk_at "goL"
  refine ⟨_, _, rfl, ?_⟩
  refine dss_cons ?_
  refine ds_set 3 nd ?_
  refine de_op op_mul ?_
  walk_at "goL"
  have mid : ∀ (x y : Int) (many : Nat), 0 ≤ x → ((turn = 2 ∧ (many = 2 ∨ many = 4)) ∨ (turn = 3 ∧ many = 3)) → DSs (bodyX P w K mg base nCarry "_law_carry" sCarry f cdv A outer sh H E) (bx x y :: β).length ((defBody sCarry).drop 2)
      [some (.acc 0), some (.int (turn : Nat)), some (.int (own : Nat)), some (.int (many : Nat)), none, none, none, none, none, none, none, none, none, none, none, none, none] (bx x y :: β)
      ⟨fun _ α' => R .non α', fun d α' => ∃ α1 β_1 d', α' = α1 ++ β_1 ∧ (bx x y :: β).length ≤ α1.length ∧ NaS α1.length α1 ∧ Seal α1.length α' d d' ∧ R d' α1, fun _ _ => False, fun _ _ => False⟩ := by
    intro x y many hx hm
    refine dss_cons ?_
    refine ds_par 4 5 rfl nd ?_
    refine da_consF ?_
    refine de_call c1 hr rfl ?_
    walk_at "goL"
    refine ⟨x, y, _, β, rfl, rfl, hx, by omega, by omega, fun x1 y1 left hx1 l1 l2 => ?_⟩
    obtain ⟨left, rfl⟩ := nat_of (x := left) (by omega) (by omega)
    refine da_consF ?_
    refine de_call c1 hr rfl ?_
    walk_at "goL"
    refine ⟨x1, y1, _, β, rfl, rfl, hx1, by omega, by omega, fun x2 y2 right hx2 r1 r2 => ?_⟩
    obtain ⟨right, rfl⟩ := nat_of (x := right) (by omega) (by omega)
    walk_at "goL"
    refine ⟨_, _, rfl, ?_⟩
    refine dss_cons ?_
    refine ds_set 6 nd ?_
    walk_at "goL"
    have er : (turn : Int) - 1 = ((turn - 1 : Nat) : Int) := by omega
    rw [er]
    have hn : turn - 1 + many ≤ 5 := by omega
    have eR : ∀ x : Nat, ((turn - 1 : Nat) : Int) + (x : Nat) = ((turn - 1 + x : Nat) : Int) := fun x => by omega
    refine dss_cons (ds_setLc (own := [("_law_a", 15)]) 7 15 rfl nd (blkOk_by (N := nCarry) (sc := defScope sCarry) (by decide +kernel)) (by decide) (fun _ _ _ _ _ => pg_name (i := 15) nd rfl (Or.inl rfl)) (sw_true rfl rfl rfl (by decide +kernel)) ?_)
    refine lcD_mat (n := turn - 1 + many) (by omega) ?_ ?_ ?_
    · refine di_range1 Z.range ?_
      walk_at "goL"
      rw [eR]
      exact ⟨by omega, by omega, rfl, by rw [rgD_len]; rfl, fun _ => trivial⟩
    · intro y α' s H C cl fp
      refine de_lc (own := [("_law_b", 16)]) 16 rfl nd (blkOk_by rfl) (by decide) (fun _ _ _ _ _ => pg_name (i := 16) nd rfl (Or.inl rfl)) ?_
      refine lcD_row (n := turn - 1 + many) (by omega) ?_ ?_ ⟨rfl, rfl⟩
      · refine di_range1 Z.range ?_
        walk_at "goL"
        rw [eR]
        exact ⟨by omega, by omega, rfl, by rw [rgD_len]; rfl, fun _ => trivial⟩
      · intro y α' s H C cl fp
        exact de_non ⟨rfl, rfl⟩
    obtain ⟨gw, gs⟩ := carry_ok (own := own) (left := left) (right := right) hm (by omega) (by omega) (by omega)
    have ht1 : 2 ≤ turn := by omega
    have bl : ∀ z, z < many → z / turn * turn + turn ≤ many := by
      intro z hz
      rcases hm with ⟨h1, h2 | h2⟩ | ⟨h1, h2⟩ <;> subst h1 <;> subst h2 <;> omega
    have wr : ∀ (m : Rows) (i j : Nat) (v : Option Int), Wf (turn - 1 + many) m → i < turn - 1 + many → j < turn - 1 + many → (∀ z, v = some z → -1 ≤ z ∧ z < ((turn - 1 + many : Nat) : Int)) →
        ∃ ds, (Mat (bx x2 y2 :: β) m)[β.length + 1 + 1 + i]? = some (.l ds) ∧ j < ds.length ∧ (∀ d, d = encE v → (Mat (bx x2 y2 :: β) m).set (β.length + 1 + 1 + i) (.l (ds.set j d)) = Mat (bx x2 y2 :: β) (set2 m i j v)) ∧ Wf (turn - 1 + many) (set2 m i j v) := fun m i j v hw hi hj hv => by
      obtain ⟨r, hr1, hr2, _⟩ := hw.get hi
      exact ⟨encR r, Mat.inner (γ := bx x2 y2 :: β) hr1, by simp [encR, hr2]; exact hj, fun d hd => by rw [hd]; exact Mat.set2 (γ := bx x2 y2 :: β) hr1, wf_set2 hw hi hv⟩
    have rowAt : ∀ (m : Rows) (i : Nat), Wf (turn - 1 + many) m → i < turn - 1 + many → atI (refs (bx x2 y2 :: β).length m.length) (i : Nat) = some (.acc (β.length + 1 + 1 + i)) := fun m i hw hi => atI_nn (refs_get (by rw [hw.len]; exact hi))
    have outer : ∀ m, cont (Mat (bx x2 y2 :: β) m) (.acc (β.length + 1)) = some (refs (bx x2 y2 :: β).length m.length) := fun m => cont_acc.mpr (Mat.outer (γ := bx x2 y2 :: β))
    let sl (x8 x9 x10 x11 x12 x13 x14 : Option D) : Rho := [some (.acc 0), some (.int (turn : Nat)), some (.int (own : Nat)), some (.int (many : Nat)), some (.int (left : Nat)), some (.int (right : Nat)), some (.int ((turn - 1 : Nat) : Int)), some (.acc (β.length + 1)), x8, x9, x10, x11, x12, x13, x14, none, none]
    let M1 (k : Nat) : Rows := (List.range k).foldl (cI turn own many left right) (noR (turn - 1 + many))
    refine dss_cons (ds_for PassesOwn.never rfl (di_range2 Z.range ?_))
    walk_at "goL"
    refine ⟨_, _, rfl, rfl, ⟨by decide, by decide, by omega, by omega⟩, fun k ρ' α' => ∃ x8 x9 x10 x11 x12 x13 x14, Wf (turn - 1 + many) (M1 k) ∧ α' = Mat (bx x2 y2 :: β) (M1 k) ∧ ρ' = sl x8 x9 x10 x11 x12 x13 x14, ⟨none, none, none, none, none, none, none, wf_noR _, rfl, rfl⟩, fun _ _ _ _ => trivial, ?_, ?_⟩
    · rintro k y ρ' α' hy ⟨x8, x9, x10, x11, x12, x13, x14, hw1, rfl, rfl⟩
      obtain ⟨hk, rfl⟩ := rgD_get hy
      have hk' : k < turn - 1 := by omega
      have ek : (1 : Int) + (k : Nat) = ((k + 1 : Nat) : Int) := by omega
      have ek1 : ((k + 1 : Nat) : Int) - 1 = (k : Nat) := by omega
      rw [ek]
      refine dg_name 8 nd ?_
      refine dss_cons (ds_set 9 nd ?_)
      walk_at "goL"
      rw [ek1]
      refine od_ix (outer _) (rowAt _ k hw1 (by omega)) ?_
      let MJ (j : Nat) : Rows := (List.range j).foldl (cJ turn own k) (M1 k)
      refine dss_cons (ds_for PassesOwn.never rfl (di_range2 Z.range ?_))
      walk_at "goL"
      refine ⟨_, _, rfl, rfl, ⟨by decide, by decide, by omega, by omega⟩, fun j ρ' α' => ∃ x10 x11 x12 x13 x14, Wf (turn - 1 + many) (MJ j) ∧ α' = Mat (bx x2 y2 :: β) (MJ j) ∧ ρ' = sl (some (.int ((k + 1 : Nat) : Int))) (some (.acc (β.length + 1 + 1 + k))) x10 x11 x12 x13 x14, ⟨_, _, _, _, _, hw1, rfl, rfl⟩, fun _ _ _ _ => trivial, ?_, ?_⟩
      · rintro j y ρ' α' hy ⟨x10, x11, x12, x13, x14, hwj, rfl, rfl⟩
        obtain ⟨hj, rfl⟩ := rgD_get hy
        have hj' : j < turn - 1 := by omega
        have ej : (1 : Int) + (j : Nat) = ((j + 1 : Nat) : Int) := by omega
        have ej1 : ((j + 1 : Nat) : Int) - 1 = (j : Nat) := by omega
        rw [ej]
        refine dg_name 10 nd ?_
        refine dss_cons (ds_set 11 nd ?_)
        walk_at "goL"
        have eb : (((k + 1 : Nat) : Int) + ((j + 1 : Nat) : Int)) % (turn : Nat) = ((k + 1 + (j + 1)) % turn : Nat) := by rw [← Int.natCast_add, ← Int.natCast_emod]
        rw [eb]
        have eM : MJ (j + 1) = cJ turn own k (MJ j) j := by simp only [MJ]; rw [List.range_succ, List.foldl_append]; rfl
        have lt1 : (k + 1 + (j + 1)) % turn < turn := Nat.mod_lt _ (by omega)
        obtain ⟨ds, e1, e2, e3, e4⟩ := wr (MJ j) k j (some (if own = 0 ∧ turn = 2 then 0 else (((k + 1 + (j + 1)) % turn : Nat) : Int) - 1)) hwj (by omega) (by omega) (fun z hz => by
          injection hz with hz
          subst hz
          split <;> omega)
        have fin : ∀ d x12 x13 x14, d = encE (some (if own = 0 ∧ turn = 2 then 0 else (((k + 1 + (j + 1)) % turn : Nat) : Int) - 1)) → ∃ x10 x11 x12' x13' x14', Wf (turn - 1 + many) (MJ (j + 1)) ∧ (Mat (bx x2 y2 :: β) (MJ j)).set (β.length + 1 + 1 + k) (.l (ds.set j d)) = Mat (bx x2 y2 :: β) (MJ (j + 1)) ∧
            sl (some (.int ((k + 1 : Nat) : Int))) (some (.acc (β.length + 1 + 1 + k))) (some (.int ((j + 1 : Nat) : Int))) (some (.int ((k + 1 + (j + 1)) % turn : Nat))) x12 x13 x14 = sl (some (.int ((k + 1 : Nat) : Int))) (some (.acc (β.length + 1 + 1 + k))) x10 x11 x12' x13' x14' := fun d x12 x13 x14 hd => ⟨_, _, _, _, _, by rw [eM]; exact e4, by rw [e3 d hd, eM]; rfl, rfl⟩
        refine dss_cons (ds_setIx ?_)
        walk_at "goL"
        refine iteB (fun h1 => ?_) (fun h1 => ?_)
        · walk_at "goL"
          refine iteB (fun h2 => ?_) (fun h2 => ?_)
          · simp at h1 h2
            walk_at "goL"
            rw [ej1]
            refine ⟨_, j, ds, rfl, rfl, e1, e2, dss_nil (fin _ _ _ _ ?_)⟩
            rw [if_pos ⟨by omega, by omega⟩]
          · simp at h1 h2
            walk_at "goL"
            rw [ej1]
            refine ⟨_, j, ds, rfl, rfl, e1, e2, dss_nil (fin _ _ _ _ ?_)⟩
            rw [if_neg (by omega)]
        · simp at h1
          walk_at "goL"
          rw [ej1]
          refine ⟨_, j, ds, rfl, rfl, e1, e2, dss_nil (fin _ _ _ _ ?_)⟩
          rw [if_neg (by omega)]
      · rintro ρ' α' ⟨x10, x11, x12, x13, x14, hwj, rfl, rfl⟩
        rw [rgD_len] at hwj ⊢
        have ej0 : ((turn : Int) - 1).toNat = turn - 1 := by omega
        rw [ej0] at hwj ⊢
        let MX (j : Nat) : Rows := (List.range j).foldl (cX turn own left right k) (MJ (turn - 1))
        refine dss_cons (ds_for PassesOwn.never rfl (di_range1 Z.range ?_))
        walk_at "goL"
        refine ⟨by omega, by omega, fun j ρ' α' => ∃ x12 x13 x14, Wf (turn - 1 + many) (MX j) ∧ α' = Mat (bx x2 y2 :: β) (MX j) ∧ ρ' = sl (some (.int ((k + 1 : Nat) : Int))) (some (.acc (β.length + 1 + 1 + k))) x10 x11 x12 x13 x14, ⟨_, _, _, hwj, rfl, rfl⟩, fun _ _ _ _ => trivial, ?_, ?_⟩
        · rintro z y ρ' α' hy ⟨x12, x13, x14, hwx, rfl, rfl⟩
          obtain ⟨hz, rfl⟩ := rgD_ix hy
          have hz' : z < many := by simpa using hz
          have eM : MX (z + 1) = cX turn own left right k (MX z) z := by simp only [MX]; rw [List.range_succ, List.foldl_append]; rfl
          refine dg_name 12 nd ?_
          refine dss_cons (ds_set 13 nd ?_)
          walk_at "goL"
          rw [eR]
          refine od_ix (outer _) (rowAt _ (turn - 1 + z) hwx (by omega)) ?_
          refine dss_cons (ds_set 14 nd ?_)
          walk_at "goL"
          have eB : (z : Int) / (turn : Nat) * (turn : Nat) = ((z / turn * turn : Nat) : Int) := by rw [← Int.natCast_ediv, ← Int.natCast_mul]
          rw [eB]
          have ev : ∀ u : Nat, ((turn - 1 : Nat) : Int) + ((z / turn * turn : Nat) : Int) + ((z : Int) + (u : Nat) * ((k + 1 : Nat) : Int)) % (turn : Nat) = ((turn - 1 + z / turn * turn + (z + u * (k + 1)) % turn : Nat) : Int) := fun u => by
            simp only [← Int.natCast_mul, ← Int.natCast_add, ← Int.natCast_emod]
          have bz := bl z hz'
          have md : ∀ u, (z + u * (k + 1)) % turn < turn := fun u => Nat.mod_lt _ (by omega)
          have vok : ∀ u : Nat, ∀ q, (some ((turn - 1 + z / turn * turn + (z + u * (k + 1)) % turn : Nat) : Int) : Option Int) = some q → -1 ≤ q ∧ q < ((turn - 1 + many : Nat) : Int) := fun u q hq => by
            have := md u
            injection hq with hq
            omega
          have vok2 : ∀ u : Nat, ∀ q, (some ((turn - 1 + (if u = 0 then z else 0) : Nat) : Int) : Option Int) = some q → -1 ≤ q ∧ q < ((turn - 1 + many : Nat) : Int) := fun u q hq => by
            injection hq with hq
            subst hq
            split <;> omega
          obtain ⟨d1, a1, a2, a3, a4⟩ := wr (MX z) k (turn - 1 + z) (some ((turn - 1 + z / turn * turn + (z + left * (k + 1)) % turn : Nat) : Int)) hwx (by omega) (by omega) (vok left)
          obtain ⟨d2, b1, b2, b3, b4⟩ := wr _ (turn - 1 + z) k (some ((turn - 1 + z / turn * turn + (z + right * (k + 1)) % turn : Nat) : Int)) a4 (by omega) (by omega) (vok right)
          refine dss_cons (ds_setIx ?_)
          walk_at "goL"
          rw [eR, ev left]
          refine ⟨_, turn - 1 + z, d1, rfl, rfl, a1, a2, ?_⟩
          rw [a3 _ rfl]
          refine dss_cons (ds_setIx ?_)
          walk_at "goL"
          rw [ek1, ev right]
          refine ⟨_, k, d2, rfl, rfl, b1, b2, ?_⟩
          rw [b3 _ rfl]
          refine dss_cons (ds_if ?_)
          walk_at "goL"
          have skip : ¬(own = 0 ∧ turn = 2) → ∃ x12 x13 x14, Wf (turn - 1 + many) (MX (z + 1)) ∧ Mat (bx x2 y2 :: β) (set2 (set2 (MX z) k (turn - 1 + z) (some ((turn - 1 + z / turn * turn + (z + left * (k + 1)) % turn : Nat) : Int))) (turn - 1 + z) k (some ((turn - 1 + z / turn * turn + (z + right * (k + 1)) % turn : Nat) : Int))) = Mat (bx x2 y2 :: β) (MX (z + 1)) ∧
              sl (some (.int ((k + 1 : Nat) : Int))) (some (.acc (β.length + 1 + 1 + k))) x10 x11 (some (.int (z : Nat))) (some (.acc (β.length + 1 + 1 + (turn - 1 + z)))) (some (.int ((z / turn * turn : Nat) : Int))) = sl (some (.int ((k + 1 : Nat) : Int))) (some (.acc (β.length + 1 + 1 + k))) x10 x11 x12 x13 x14 := fun hno => by
            have e : MX (z + 1) = set2 (set2 (MX z) k (turn - 1 + z) (some ((turn - 1 + z / turn * turn + (z + left * (k + 1)) % turn : Nat) : Int))) (turn - 1 + z) k (some ((turn - 1 + z / turn * turn + (z + right * (k + 1)) % turn : Nat) : Int)) := by
              rw [eM]; unfold cX; rw [if_neg hno]
            exact ⟨_, _, _, by rw [e]; exact b4, by rw [e], rfl⟩
          refine iteB (fun h1 => ?_) (fun h1 => ?_)
          · walk_at "goL"
            refine iteB (fun h2 => ?_) (fun h2 => dss_nil (dss_nil (skip (by simp at h2; omega))))
            have yes : own = 0 ∧ turn = 2 := by simp at h1 h2; omega
            obtain ⟨d3, p1, p2, p3, p4⟩ := wr _ k (turn - 1 + z) (some ((turn - 1 + (if left = 0 then z else 0) : Nat) : Int)) b4 (by omega) (by omega) (vok2 left)
            obtain ⟨d4, q1, q2, q3, q4⟩ := wr _ (turn - 1 + z) k (some ((turn - 1 + (if right = 0 then z else 0) : Nat) : Int)) p4 (by omega) (by omega) (vok2 right)
            have e : MX (z + 1) = set2 (set2 (set2 (set2 (MX z) k (turn - 1 + z) (some ((turn - 1 + z / turn * turn + (z + left * (k + 1)) % turn : Nat) : Int))) (turn - 1 + z) k (some ((turn - 1 + z / turn * turn + (z + right * (k + 1)) % turn : Nat) : Int))) k (turn - 1 + z) (some ((turn - 1 + (if left = 0 then z else 0) : Nat) : Int))) (turn - 1 + z) k (some ((turn - 1 + (if right = 0 then z else 0) : Nat) : Int)) := by
              rw [eM]; unfold cX; rw [if_pos yes]
            have w4 : ∀ d x12 x13 x14, d = encE (some ((turn - 1 + (if right = 0 then z else 0) : Nat) : Int)) → ∃ x12' x13' x14', Wf (turn - 1 + many) (MX (z + 1)) ∧ (Mat (bx x2 y2 :: β) (set2 (set2 (set2 (MX z) k (turn - 1 + z) (some ((turn - 1 + z / turn * turn + (z + left * (k + 1)) % turn : Nat) : Int))) (turn - 1 + z) k (some ((turn - 1 + z / turn * turn + (z + right * (k + 1)) % turn : Nat) : Int))) k (turn - 1 + z) (some ((turn - 1 + (if left = 0 then z else 0) : Nat) : Int)))).set (β.length + 1 + 1 + (turn - 1 + z)) (.l (d4.set k d)) = Mat (bx x2 y2 :: β) (MX (z + 1)) ∧
              sl (some (.int ((k + 1 : Nat) : Int))) (some (.acc (β.length + 1 + 1 + k))) x10 x11 x12 x13 x14 = sl (some (.int ((k + 1 : Nat) : Int))) (some (.acc (β.length + 1 + 1 + k))) x10 x11 x12' x13' x14' := fun d x12 x13 x14 hd => ⟨_, _, _, by rw [e]; exact q4, by rw [q3 d hd, e], rfl⟩
            -- row[rest + x]
            refine dss_cons (ds_setIx ?_)
            walk_at "goL"
            refine iteB (fun h3 => ?_) (fun h3 => ?_)
            · simp at h3
              walk_at "goL"
              rw [eR]
              refine ⟨_, turn - 1 + z, d3, rfl, rfl, p1, p2, ?_⟩
              rw [p3 _ (by rw [if_pos h3])]
              refine dss_cons (ds_setIx ?_)
              walk_at "goL"
              refine iteB (fun h4 => ?_) (fun h4 => ?_)
              · simp at h4
                walk_at "goL"
                rw [ek1, eR]
                exact ⟨_, k, d4, rfl, rfl, q1, q2, dss_nil (dss_nil (w4 _ _ _ _ (by rw [if_pos h4])))⟩
              · simp at h4
                walk_at "goL"
                rw [ek1]
                exact ⟨_, k, d4, rfl, rfl, q1, q2, dss_nil (dss_nil (w4 _ _ _ _ (by rw [if_neg h4]; simp)))⟩
            · simp at h3
              walk_at "goL"
              rw [eR]
              refine ⟨_, turn - 1 + z, d3, rfl, rfl, p1, p2, ?_⟩
              rw [p3 _ (by rw [if_neg h3]; simp)]
              refine dss_cons (ds_setIx ?_)
              walk_at "goL"
              refine iteB (fun h4 => ?_) (fun h4 => ?_)
              · simp at h4
                walk_at "goL"
                rw [ek1, eR]
                exact ⟨_, k, d4, rfl, rfl, q1, q2, dss_nil (dss_nil (w4 _ _ _ _ (by rw [if_pos h4])))⟩
              · simp at h4
                walk_at "goL"
                rw [ek1]
                exact ⟨_, k, d4, rfl, rfl, q1, q2, dss_nil (dss_nil (w4 _ _ _ _ (by rw [if_neg h4]; simp)))⟩
          · exact dss_nil (dss_nil (skip (by simp at h1; omega)))
        · rintro ρ' α' ⟨x12, x13, x14, hwx, rfl, rfl⟩
          rw [rgD_len] at hwx ⊢
          simp only [Int.toNat_natCast] at hwx ⊢
          have eM : M1 (k + 1) = MX many := by
            simp only [M1, MX, MJ]
            rw [List.range_succ, List.foldl_append]; rfl
          rw [← eM] at hwx ⊢
          exact dss_nil ⟨_, _, _, _, _, _, _, hwx, rfl, rfl⟩
    · rintro ρ' α' ⟨x8, x9, x10, x11, x12, x13, x14, hw1, rfl, rfl⟩
      rw [rgD_len] at hw1 ⊢
      have ej0 : ((turn : Int) - 1).toNat = turn - 1 := by omega
      rw [ej0] at hw1 ⊢
      refine dss_cons (ds_ret ?_)
      walk_at "go"
      exact ⟨bx x2 y2 :: β, _, lstR (M1 (turn - 1)), rfl, Nat.le_refl _, nas_box hna, seal_mat (γ := bx x2 y2 :: β), h x2 y2 _ (turn - 1 + many) hx2 gw (by omega) (by omega) gs⟩
  refine iteB (fun h1 => ?_) (fun h1 => ?_)
  · have ht3 : turn = 3 := by simp at h1; omega
    subst ht3
    walk_at "goL"
    exact mid x2 y2 3 hx2 (.inr ⟨rfl, rfl⟩)
  · have ht2 : turn = 2 := by simp at h1; omega
    subst ht2
    walk_at "goL"
    refine de_call c1 hr rfl ?_
    walk_at "goL"
    refine ⟨x2, y2, _, β, rfl, rfl, hx2, by decide, by decide, fun x3 y3 mm hx3 q1 q2 => ?_⟩
    obtain ⟨mm, rfl⟩ := nat_of (x := mm) (by omega) (by omega)
    walk_at "goL"
    have e : ((2 : Nat) : Int) * (1 + (mm : Nat)) = ((2 * (1 + mm) : Nat) : Int) := by omega
    rw [e]
    exact mid x3 y3 (2 * (1 + mm)) hx3 (.inl ⟨rfl, by omega⟩)
end

abbrev sRows : Stmt := top 41
theorem scRows : FnScope ["_law_box_here", "_law_way"] ["_law_box_here"] (defScope sRows) := ⟨rfl, rfl, rfl, by decide +kernel, rfl, by decide +kernel, by decide +kernel⟩
section
variable {P : Program} {w : World} {K : PySem.W.Frag} {mg : Str → Option Value} {base : Heap} {f : Addr} {fd : FuncData} {C : Addr}
open FM
theorem fn_rows (F : Fun K "_law_rows" "_law_rows" sRows f fd) (Z : Bl mg) (c1 : Fx P w K mg base 4 "_law_take" ["_law_box_here", "_law_many"] STake) (c2 : Fx P w K mg base 4 "_law_sparse" ["_law_box_here"] SGen) (c3 : Fx P w K mg base 4 "_law_of_machine" ["_law_tables_here"] SOfMachine)
    (c4 : Fx P w K mg base 4 "_law_tables" ["_law_box_here"] STables) (c5 : Fx P w K mg base 4 "_law_special" ["_law_box_here"] SGen) (c6 : Fx P w K mg base 4 "_law_carry" ["_law_box_here"] SGen) : FnOk P w K mg base CX0 5 f fd ["_law_box_here"] (SpD K SGen) := by
  refine fn_def F scRows (fun ds α R h => by obtain ⟨x, y, β, rfl, _⟩ := h; rfl) (fun cdv A outer sh H E hr ds α R h hna hnd => ?_)
  obtain ⟨x, y, β, rfl, rfl, hx, h⟩ := h
  have nd : (["_law_box_here", "_law_way"] : List Str).Nodup := by decide +kernel
  refine dss_cons (ds_set 1 nd (de_call c1 hr rfl ?_))
  walk_at "goI"
  refine ⟨x, y, _, β, rfl, rfl, hx, by decide, by decide, fun x1 y1 wy hx1 w1 w2 => ?_⟩
  refine dss_cons (ds_if ?_)
  walk_at "goI"
  refine iteB (fun h1 => ?_) (fun h1 => dss_nil ?_)
  · refine dss_cons (ds_ret (de_call c2 hr rfl ?_))
    walk_at "goI"
    exact ⟨x1, y1, β, rfl, rfl, hx1, h⟩
  · refine dss_cons (ds_if ?_)
    walk_at "goI"
    refine iteB (fun h2 => ?_) (fun h2 => dss_nil ?_)
    · refine dss_cons (ds_ret (de_call c3 hr rfl ?_))
      walk_at "goI"
      refine de_call c4 hr rfl ?_
      walk_at "goI"
      refine ⟨x1, y1, β, rfl, rfl, hx1, fun x2 y2 N T hx2 hm t1 t2 t3 => ?_⟩
      walk_at "goI"
      exact ⟨N, T, rfl, hm, t2, t3, h x2 y2 _ _ hx2 wf_mach t1 t2 (snd_mach hm)⟩
    · refine dss_cons (ds_ret ?_)
      walk_at "goI"
      refine iteB (fun h3 => ?_) (fun h3 => ?_)
      · refine de_call c5 hr rfl ?_
        walk_at "goI"
        exact ⟨x1, y1, β, rfl, rfl, hx1, h⟩
      · refine de_call c6 hr rfl ?_
        walk_at "goI"
        exact ⟨x1, y1, β, rfl, rfl, hx1, h⟩
def SPut : FSpec := fun ds α R => ∃ (m : Rows) (n x : Nat) (s : List Nat), ds = [lstR m, .lst (intsD s.reverse), .int (x : Nat)] ∧ Wf n m ∧ x < n ∧ (∀ y ∈ s, y < n) ∧ Fol (tab m) s ∧ s.length < 10000 ∧ R (.lst (intsD (push (tab m) s x).reverse)) α
def SPlain : FSpec := fun ds α R => ∃ (m : Rows) (n : Nat) (q : List Nat), ds = [lstR m, .lst (intsD q)] ∧ Wf n m ∧ (∀ y ∈ q, y < n) ∧ q.length < 10000 ∧ R (.lst (intsD (FM.run (tab m) [] q).reverse)) α
theorem run_len {t : Tab} : ∀ {q s : List Nat}, (FM.run t s q).length ≤ s.length + q.length
  | [], s => by simp [FM.run]
  | x :: q, s => by
    have h1 := run_len (t := t) (q := q) (s := push t s x)
    have h2 := push_len (t := t) (s := s) (x := x)
    show (FM.run t (push t s x) q).length ≤ _
    simp; omega
def SMerge : FSpec := fun ds α R => ∃ (m : Rows) (n : Nat) (u v : List Nat) (x y : Nat) (z : Option Nat), ds = [lstR m, .lst (intsD (u ++ x :: y :: v)), .int (u.length : Nat)] ∧ Wf n m ∧ (∀ k ∈ u ++ x :: y :: v, k < n) ∧ tab m x y = some z ∧ (u ++ x :: y :: v).length < 10000 ∧ R (.lst (intsD (u ++ opt z ++ v))) α
def SOpen : FSpec := fun ds α R => ∃ (m : Rows) (n : Nat) (q : List Nat), ds = [lstR m, .lst (intsD q)] ∧ Wf n m ∧ (∀ k ∈ q, k < n) ∧ q.length < 10000 ∧ R (.lst (intsD (places (tab m) q))) α
theorem fm_filter {p : Nat → Bool} {zf : D → Option D} : ∀ (l : List Nat), (∀ a ∈ l, zf (.int (a : Nat)) = if p a then some (.int (a : Nat)) else none) → (l.map fun a => D.int (a : Nat)).filterMap zf = intsD (l.filter p)
  | [], _ => rfl
  | a :: l, h => by
    have ih := fm_filter l fun b hb => h b (by simp [hb])
    have ha := h a (by simp)
    rw [List.map_cons]
    cases hp : p a with
    | true => rw [List.filterMap_cons, ha, hp, ih, List.filter_cons_of_pos hp]; rfl
    | false => rw [List.filterMap_cons, ha, hp, ih, List.filter_cons_of_neg (by rw [hp]; decide)]; rfl
def SEnded : FSpec := fun ds α R => ∃ (m : Rows) (n : Nat) (q : List Nat) (x y : Int) (β : Sto), ds = [lstR m, .acc 0, .lst (intsD q)] ∧ α = bx x y :: β ∧ 0 ≤ x ∧ Wf n m ∧ Ev (tab m) n ∧ (∀ k ∈ q, k < n) ∧ q.length < 10000 ∧
  ∀ x' y' q', 0 ≤ x' → Alike (tab m) n q' q → Done (tab m) q' → q'.length ≤ q.length → R (.lst (intsD q')) (bx x' y' :: β)
end

section
variable {P : Program} {w : World} {K : PySem.W.Frag} {mg : Str → Option Value} {base : Heap} {f : Addr} {fd : FuncData} {C : Addr}
open FM
def SKept : FSpec := fun ds α R => ∃ (x : Option Int) (lot : List Nat) (d : D), ds = [encE x, d] ∧ (d = .lst (intsD lot) ∨ d = ptD lot) ∧ (∀ i, x = some i → -1 ≤ i) ∧ R (encE (kept lot x)) α
theorem ix_facts {lot : List Nat} {d : Nat} (hm : d ∈ lot) : (lot.map fun x : Nat => (x : Int))[lot.idxOf d]? = some (d : Int) ∧ ∀ i, i < lot.idxOf d → (lot.map fun x : Nat => (x : Int))[i]? ≠ some (d : Int) := by
  have hlt := List.idxOf_lt_length_of_mem hm
  refine ⟨?_, fun i hi => ?_⟩
  · rw [List.getElem?_map, List.getElem?_eq_getElem hlt, List.getElem_idxOf hlt]
    rfl
  · have hil : i < lot.length := by omega
    rw [List.getElem?_map, List.getElem?_eq_getElem hil]
    intro z
    simp only [Option.map_some, Option.some.injEq] at z
    have z' : lot[i] = d := by omega
    have := List.not_of_lt_findIdx (p := (· == d)) (xs := lot) (i := i) (by simpa [List.idxOf] using hi)
    simp [z'] at this
theorem fn_kept (F : Fun K "_law_kept" "_law_kept" s_kept f fd) (Z : Bl mg) : FnOk P w K mg base CX0 1 f fd ["_law_made", "_law_lot"] (SpD K SKept) := by
  refine fn_def F sc_kept (fun ds α R h => by obtain ⟨x, lot, d, rfl, _⟩ := h; rfl) (fun cdv A outer sh H E hr ds α R h hna hnd => ?_)
  obtain ⟨x, lot, dl, rfl, hdl, hx, h⟩ := h
  have nd : (["_law_made", "_law_lot"] : List Str).Nodup := by decide +kernel
  refine dss_cons (ds_if ?_)
  cases x with
  | none =>
    walk_at "go"
    refine dss_cons (ds_ret ?_)
    walk_at "go"
    exact h
  | some i =>
    have hi := hx i rfl
    walk_at "go"
    by_cases hg : i = -1
    · subst hg
      refine ifT rfl (dss_cons (ds_ret ?_))
      walk_at "go"
      exact h
    · refine ifF (by simp; omega) (dss_nil ?_)
      obtain ⟨d, rfl⟩ := nat_of hi hg
      have hk : kept lot (some (d : Int)) = (if d ∈ lot then some ((lot.idxOf d : Nat) : Int) else none : Option Int) := by
        unfold kept
        simp only [if_neg (show ¬ ((d : Int) = -1) by omega), Int.toNat_natCast]
      have inL : ∀ {b : Bool}, decide ((d : Int) ∈ lot.map fun x : Nat => (x : Int)) = b → (b = true ↔ d ∈ lot) := by
        intro b hb
        rw [← hb, decide_eq_true_iff, List.mem_map]
        constructor
        · rintro ⟨a, ha, e⟩
          have : a = d := Int.ofNat_inj.mp e
          exact this ▸ ha
        · intro hm
          exact ⟨d, hm, rfl⟩
      rcases hdl with rfl | rfl
      · refine dss_cons (ds_ret (de_ite (dt_cmp (op_inD (units65 hr)) rfl ?_)))
        walk_at "go"
        have eL : intsD lot = (lot.map fun x : Nat => (x : Int)).map D.int := by simp [intsD]
        rw [eL]
        refine od_inI ⟨_, rfl, iteB (fun h1 => ?_) (fun h1 => ?_)⟩
        · have hm : d ∈ lot := (inL h1).mp rfl
          refine de_indexI (units65 hr) ?_
          walk_at "go"
          obtain ⟨f1, f2⟩ := ix_facts hm
          refine ⟨d, lot.idxOf d, rfl, f1, f2, ?_⟩
          rw [hk, if_pos hm] at h
          exact h
        · have hm : d ∉ lot := fun z => Bool.false_ne_true ((inL h1).mpr z)
          rw [hk, if_neg hm] at h
          walk_at "go"
          exact h
      · refine dss_cons (ds_ret (de_ite (dt_cmp (op_inTD (units65 hr)) rfl ?_)))
        have eL : ptD lot = .pt ((lot.map fun x : Nat => (x : Int)).map D.int) := by simp [ptD, intsD]
        rw [eL]
        walk_at "go"
        refine od_inTI ⟨_, rfl, iteB (fun h1 => ?_) (fun h1 => ?_)⟩
        · have hm : d ∈ lot := (inL h1).mp rfl
          refine de_indexTI ?_
          walk_at "go"
          obtain ⟨f1, f2⟩ := ix_facts hm
          refine ⟨d, lot.idxOf d, rfl, f1, f2, ?_⟩
          rw [hk, if_pos hm] at h
          exact h
        · have hm : d ∉ lot := fun z => Bool.false_ne_true ((inL h1).mpr z)
          rw [hk, if_neg hm] at h
          walk_at "go"
          exact h
def SFew : FSpec := fun ds α R => ∃ x y β m n, ds = [lstR m, .acc 0] ∧ α = bx x y :: β ∧ 0 ≤ x ∧ Wf n m ∧ 1 ≤ n ∧ n ≤ 12 ∧ Sound n m ∧ ∀ x' y' m n, 0 ≤ x' → Wf n m → 1 ≤ n → n ≤ 5 → Sound n m → R (lstR m) (bx x' y' :: β)
theorem few_lot {n : Nat} {t : List Nat} {ks : List Int} (ht : ∀ s ∈ t, s < n) (h0 : t ≠ []) (hp : ks.Pairwise (· < ·)) (hk : ∀ k, k ∈ ks ↔ k ∈ t.map fun x : Nat => (x : Int)) :
    ∃ lot : List Nat, cutD (ks.map D.int) none (some 5) = intsD lot ∧ lot.Nodup ∧ (∀ y ∈ lot, y < n) ∧ 1 ≤ lot.length ∧ lot.length ≤ 5 := by
  have hnn : ∀ k ∈ ks, ∃ s : Nat, s < n ∧ k = s := fun k h => by
    obtain ⟨s, hs, rfl⟩ := List.mem_map.mp ((hk k).mp h)
    exact ⟨s, ht s hs, rfl⟩
  have e1 : ks.map D.int = intsD (ks.map Int.toNat) := by
    unfold intsD
    rw [List.map_map]
    apply List.map_congr_left
    intro k hk'
    obtain ⟨s, _, rfl⟩ := hnn k hk'
    rfl
  refine ⟨(ks.map Int.toNat).take 5, ?_, ?_, fun y hy => ?_, ?_, by simp; omega⟩
  · rw [e1]
    exact cut_take (k := 5)
  · refine List.Nodup.sublist (List.take_sublist 5 _) ?_
    rw [List.Nodup, List.pairwise_map]
    refine List.Pairwise.imp_of_mem (fun {a b} ha hb hab => ?_) hp
    obtain ⟨s, _, rfl⟩ := hnn a ha
    obtain ⟨s', _, rfl⟩ := hnn b hb
    simp only [Int.toNat_natCast]
    omega
  · have := List.mem_of_mem_take hy
    obtain ⟨k, hk', rfl⟩ := List.mem_map.mp this
    obtain ⟨s, hs, rfl⟩ := hnn k hk'
    simpa using hs
  · obtain ⟨s, l, hs⟩ := List.exists_cons_of_ne_nil h0
    have : (s : Int) ∈ ks := (hk _).mpr (List.mem_map.mpr ⟨s, by rw [hs]; simp, rfl⟩)
    have := List.length_pos_of_mem this
    simp
    omega
theorem fn_few (F : Fun K "_law_few" "_law_few" s_few f fd) (Z : Bl mg) (Zs : mg "set" = none) (c1 : Fx P w K mg base 3 "_law_take" ["_law_box_here", "_law_many"] STake) (c2 : Fx P w K mg base 3 "_law_kept" ["_law_made", "_law_lot"] SKept) : FnOk P w K mg base CX0 4 f fd ["_law_rows_here", "_law_box_here"] (SpD K SFew) := by
  refine fn_def F sc_few (fun ds α R h => by obtain ⟨x, y, β, m, n, rfl, _⟩ := h; rfl) (fun cdv A outer sh H E hr ds α R h hna hnd => ?_)
  obtain ⟨x, y, β, m, n, rfl, rfl, hx, hw, h1, h2, hs, h⟩ := h
  have nd : nFew.Nodup := by decide +kernel
  refine dss_cons (ds_if ?_)
  walk_at "go"
  refine cd_len rfl ?_
  walk_at "go"
  refine iteB (fun hb => ?_) (fun hb => dss_nil ?_)
  · refine dss_cons (ds_ret ?_)
    walk_at "go"
    rw [List.length_map, hw.len] at hb
    exact h x y m n hx hw h1 (by simp at hb; omega) hs
  refine dss_cons (ds_set 2 nd (de_slice sl_list ?_))
  refine de_sortSet rfl Z.sorted Zs ?_
  refine de_lcG (own := [("_law_turn", 3)]) 3 rfl nd (blkOk_by (N := nFew) (sc := defScope s_few) (by decide +kernel)) (by decide) (fun _ _ _ _ _ => pg_name (i := 3) nd rfl (Or.inl rfl)) (fun hna2 => ?_)
  refine di_range1 Z.range ?_
  walk_at "go"
  refine ⟨by omega, by omega, fun k α' zs => ∃ x y t, 0 ≤ x ∧ α' = bx x y :: β ∧ zs = intsD t ∧ t.length = k ∧ ∀ s ∈ t, s < n, ⟨x, y, [], hx, rfl, rfl, rfl, fun s hs => by simp at hs⟩, by rw [rgD_len]; decide, ?_, ?_, ?_⟩
  · rintro k α' zs ⟨x, y, t, hx, rfl, rfl, rfl, ht⟩
    exact ⟨by simp, by simp [intsD], trivial⟩
  · rintro k y1 α' zs hy ⟨x, y, t, hx, rfl, rfl, rfl, ht⟩ s' H C cl fp
    refine dts_nil ⟨rfl, ifT rfl ?_⟩
    intro s' H C cl fp
    refine de_call c1 hr rfl ?_
    walk_at "go"
    refine cd_len rfl ?_
    walk_at "go"
    have em : (m.map fun r => D.lst (encR r)).length = n := by rw [List.length_map, hw.len]
    refine ⟨x, y, _, _, rfl, rfl, hx, by rw [em]; omega, by rw [em]; omega, fun xb yb b hxb b1 b2 => ?_⟩
    rw [em] at b2
    obtain ⟨b, rfl⟩ := nat_of (x := b) (by omega) (by omega)
    refine ⟨bx xb yb :: β, rfl, by simp, xb, yb, t ++ [b], hxb, rfl, by rw [intsD_app]; rfl, by simp, fun s hs => ?_⟩
    rcases List.mem_append.mp hs with hs | hs
    · exact ht s hs
    · simp at hs; omega
  · rintro α' zs ⟨x, y, t, hx, rfl, rfl, ht1, ht⟩
    rw [rgD_len] at ht1
    have ht6 : t.length = 6 := by simpa using ht1
    refine ⟨by simp, nas_box hna2, nas_intsD _ _, t.map fun x : Nat => (x : Int), by show some (intsD t) = _; simp [intsD], rfl, by simp; omega, fun ks hp hk => ?_⟩
    refine do_none (do_some ?_)
    walk_at "go"
    obtain ⟨lot, hcut, hnd, hlt, hl1, hl5⟩ := few_lot ht (fun z => by rw [z] at ht6; cases ht6) hp hk
    refine sd_list rfl rfl ?_
    rw [hcut]
    refine dss_cons (ds_ret ?_)
    refine de_lcT (own := [("_law_a", 4)]) (.nm 4) rfl nd (blkOk_by (N := nFew) (sc := defScope s_few) (by decide +kernel)) (by decide) (fun _ _ _ _ _ => pg_name (i := 4) nd rfl (Or.inr rfl)) (fun hna3 => LcGT.pure ?_)
    refine di_seq ?_
    walk_at "go"
    refine ⟨rfl, fun _ => rfl, by rw [intsD_len]; omega, (partR m lot).map fun r => .lst (encR r), by simp [partR, intsD], ?_, Nat.le_refl _, hna3, nas_of fun z hz => ?_, ?_⟩
    · intro k y z acc hy hz
      obtain ⟨a, ha, rfl⟩ := intsD_get hy
      have han := hlt a (List.mem_of_getElem? ha)
      unfold partR at hz
      rw [List.map_map, List.getElem?_map, ha] at hz
      cases hz
      refine ⟨_, rfl, fun s H C cl fp => ?_⟩
      refine de_lcT (own := [("_law_b", 5)]) (.nm 5) rfl nd (blkOk_by rfl) (by decide) (fun _ _ _ _ _ => pg_name (i := 5) nd rfl (Or.inl rfl)) (fun hna3 => LcGT.pure ?_)
      refine di_seq ?_
      walk_at "go"
      refine ⟨rfl, fun _ => rfl, by rw [intsD_len]; omega, encR (lot.map fun b => kept lot (look m a b)), by simp [encR, intsD], ?_, Nat.le_refl _, hna3, nas_encR _ _, rfl, rfl⟩
      intro k2 y z acc2 hy hz
      obtain ⟨b, hb, rfl⟩ := intsD_get hy
      have hbn := hlt b (List.mem_of_getElem? hb)
      unfold encR at hz
      rw [List.map_map, List.getElem?_map, hb] at hz
      cases hz
      refine ⟨_, rfl, fun s H C cl fp => ?_⟩
      refine de_call c2 hr rfl ?_
      walk_at "go"
      exact ⟨look m a b, lot, _, rfl, .inl rfl, fun i hi => (hw.look han hbn hi).1, rfl, rfl⟩
    · obtain ⟨r, _, rfl⟩ := List.mem_map.mp hz
      simp only [D.na]
      exact nas_encR _ _
    · exact h x y (partR m lot) lot.length hx (wf_part hw hlt) hl1 (by omega) (snd_part hw hs hnd hlt)
end

abbrev nLengths : List Str := ["_law_rows_here", "_law_queue", "_law_known", "_law_end"]
abbrev nLawEven : List Str := ["_law_rows_here", "_law_known", "_law_queue"]
abbrev nDoes : List Str := ["_law_tables_here", "_law_queue", "_law_done_here", "_law_command"]
section
variable {P : Program} {w : World} {K : PySem.W.Frag} {mg : Str → Option Value} {base : Heap} {f : Addr} {fd : FuncData} {C : Addr}
open FM
/-- how long what stands in a list is -/
def lenOf : D → Option D
  | .tup ds => some (.int (ds.length : Nat))
  | _ => none
theorem len_tabs : ∀ E : List (List Nat), (tabsD E).filterMap lenOf = (E.map fun e => (e.length : Int)).map D.int
  | [] => rfl
  | e :: E => by
    have ih := len_tabs E
    unfold tabsD at ih ⊢
    rw [List.map_cons, List.filterMap_cons_some (show lenOf (tabD e) = some (.int (e.length : Nat)) by show some (D.int ((intsD e).length : Nat)) = _; rw [intsD_len]), ih]
    rfl
theorem od_eqNil {K : PySem.W.Frag} {α : Sto} {R : RE} {T : List (List Nat)} (h : R (.bl (decide (T = []))) α) : OD K (rEqD K) (.lst (tabsD T)) (.lst []) α R :=
  od_eq (p2 := .list []) (.lst (by rw [tabsD_eq]; exact py_rows _)) (.lst .nil) (sh_rows _) rfl (by
    have : PyData.eqv (.list (rowsP (T.map cst))) (.list []) = decide (T = []) := by
      cases T with
      | nil => rfl
      | cons t T => rfl
    rw [this]; exact h)
def SLengths : FSpec := fun ds α R => ∃ (m : Rows) (n : Nat) (q : List Nat) (c : Nat) (es : List (List Key × D)), ds = [lstR m, tabD q, .acc c] ∧ Wf n m ∧ (∀ y ∈ q, y < n) ∧ q.length ≤ 4 ∧ α[c]? = some (.td es) ∧ Memo m es ∧ es.length + 16 ≤ 900000 ∧
  ∀ (es' : List (List Key × D)) (ks : List Int), Memo m es' → es'.length ≤ es.length + 16 → ks.Pairwise (· < ·) → (∀ k : Int, k ∈ ks ↔ k ∈ (ends (tab m) q).map fun e => (e.length : Int)) → R (.lst (ks.map D.int)) (α.set c (.td es'))
/-- of a queue's ends some are longer than others -/
def unlike (m : Rows) (q : List Nat) : Bool := !((ends (tab m) q).all fun e => (ends (tab m) q).all fun e' => decide (e.length = e'.length))
theorem unlike_ks {m : Rows} {q : List Nat} {ks : List Int} (hp : ks.Pairwise (· < ·)) (hk : ∀ k : Int, k ∈ ks ↔ k ∈ (ends (tab m) q).map fun e => (e.length : Int)) : decide (1 < ((ks.length : Nat) : Int)) = unlike m q := by
  have mem : ∀ e ∈ ends (tab m) q, (e.length : Int) ∈ ks := fun e he => (hk _).mpr (List.mem_map.mpr ⟨e, he, rfl⟩)
  cases h : unlike m q with
  | false =>
    apply decide_eq_false
    unfold unlike at h
    simp only [Bool.not_eq_false', List.all_eq_true, decide_eq_true_eq] at h
    intro hl
    match ks, hl, hp, hk with
    | a :: b :: ks, _, hp, hk =>
      have hab : a < b := (List.pairwise_cons.mp hp).1 b (by simp)
      obtain ⟨e, he, ha⟩ := List.mem_map.mp ((hk a).mp (by simp))
      obtain ⟨e', he', hb⟩ := List.mem_map.mp ((hk b).mp (by simp))
      have := h e he e' he'
      omega
    | [a], hl, _, _ => simp at hl
    | [], hl, _, _ => simp at hl
  | true =>
    apply decide_eq_true
    unfold unlike at h
    simp only [Bool.not_eq_true', List.all_eq_false, decide_eq_true_eq] at h
    obtain ⟨e, he, e', he', hne⟩ : ∃ e ∈ ends (tab m) q, ∃ e' ∈ ends (tab m) q, e.length ≠ e'.length := by
      obtain ⟨e, he, h⟩ := h
      simp only [Bool.not_eq_true, List.all_eq_false, decide_eq_true_eq] at h
      obtain ⟨e', he', h⟩ := h
      exact ⟨e, he, e', he', h⟩
    have m1 := mem e he
    have m2 := mem e' he'
    match ks, m1, m2 with
    | [a], m1, m2 => simp at m1 m2; omega
    | [], m1, _ => simp at m1
    | a :: b :: ks, _, _ => simp only [List.length_cons]; omega
theorem fours_unlike {m : Rows} {n : Nat} : ((qsL n 4).filter (unlike m) = []) ↔ Fours n m := by
  rw [List.filter_eq_nil_iff]
  constructor
  · intro h q h4 hq e he e' he'
    have := h q (mem_qsL.mpr ⟨h4, hq⟩)
    unfold unlike at this
    simp only [Bool.not_eq_true', Bool.not_eq_false, List.all_eq_true, decide_eq_true_eq] at this
    exact this e he e' he'
  · intro h q hq
    obtain ⟨h4, hq⟩ := mem_qsL.mp hq
    unfold unlike
    simp only [Bool.not_eq_true', Bool.not_eq_false, List.all_eq_true, decide_eq_true_eq]
    intro e he e' he'
    exact h q h4 hq e he e' he'
def SLawEven : FSpec := fun ds α R => ∃ (m : Rows) (n : Nat), ds = [lstR m] ∧ Wf n m ∧ n ≤ 12 ∧ ∀ b, (b = true ↔ Fours n m) → R (.bl b) α
def SDoes : FSpec := fun ds α R => ∃ N T q, ds = [.lst (tabsD T), tabD q] ∧ MOk N T ∧ 1 ≤ T.length ∧ N ≤ 12 ∧ (∀ y ∈ q, y < T.length) ∧ R (tabD (doesL N T q)) α
end

abbrev nKind : List Str := ["_law_rows_here", "_law_queue", "_law_ends_here", "_law_places", "_law_at", "_law_made", "_law_less", "_law_end"]
section
variable {P : Program} {w : World} {K : PySem.W.Frag} {mg : Str → Option Value} {base : Heap} {f : Addr} {fd : FuncData} {C : Addr}
open FM
/-- a merge at i leaves a folded queue of three -/
def leavesB (m : Rows) (q : List Nat) (i : Nat) : Bool := match look m (q.getD i 0) (q.getD (i + 1) 0) with
  | some z => decide (z ≠ -1) && decide ((q.take i ++ z.toNat :: q.drop (i + 2)) ∈ ends (tab m) q)
  | none => false
def placesL (m : Rows) (q : List Nat) (k : Nat) : List Nat := (List.range k).filter (leavesB m q)
theorem places_succ (m : Rows) (q : List Nat) (k : Nat) : placesL m q (k + 1) = placesL m q k ++ (if leavesB m q k = true then [k] else []) := by
  unfold placesL
  rw [List.range_succ, List.filter_append]
  by_cases h : leavesB m q k = true
  · simp [h]
  · simp [h]
theorem places_kind {m : Rows} {n a b c d : Nat} {s : Str} (hw : Wf n m) (hs : Sound n m) (ha : a < n) (hb : b < n) (hc : c < n) (hd : d < n) (h : kindOf m a b c d = some s) : placesL m [a, b, c, d] 3 = [placeK s] := by
  obtain ⟨l0, l1, l2, e0, e1, e2⟩ := place_kind hw hs ha hb hc hd h
  have go : ∀ (i x y : Nat) (z : Option Int), look m x y = z → ∀ (T : Nat → List Nat) (q : List Nat), (∀ d, tab m x y = some (some d) → (T d ∈ ends (tab m) q ↔ placeK s = i)) → (placeK s = i → ∃ d, tab m x y = some (some d)) → (x < n) → (y < n) →
      (match z with | some z => decide (z ≠ -1) && decide (T z.toNat ∈ ends (tab m) q) | none => false) = decide (placeK s = i) := by
    intro i x y z hz T q h1 h2 hx hy
    cases z with
    | none =>
      symm; apply decide_eq_false
      intro hp
      obtain ⟨d, hd⟩ := h2 hp
      rw [tab_none.mpr hz] at hd; cases hd
    | some z =>
      by_cases hg : z = -1
      · subst hg
        simp only [ne_eq, not_true_eq_false, decide_false, Bool.false_and]
        symm; apply decide_eq_false
        intro hp
        obtain ⟨d, hd⟩ := h2 hp
        rw [tab_gone hz] at hd; cases hd
      · obtain ⟨d, rfl⟩ := nat_of (hw.look hx hy hz).1 hg
        have := h1 d (tab_some hz)
        simp only [Int.toNat_natCast]
        rw [decide_eq_true (by omega : ((d : Nat) : Int) ≠ -1), Bool.true_and]
        exact decide_eq_decide.mpr this
  have f0 : leavesB m [a, b, c, d] 0 = decide (placeK s = 0) := go 0 a b _ rfl (fun x => [x, c, d]) [a, b, c, d] l0 e0 ha hb
  have f1 : leavesB m [a, b, c, d] 1 = decide (placeK s = 1) := go 1 b c _ rfl (fun y => [a, y, d]) [a, b, c, d] l1 e1 hb hc
  have f2 : leavesB m [a, b, c, d] 2 = decide (placeK s = 2) := go 2 c d _ rfl (fun z => [a, b, z]) [a, b, c, d] l2 e2 hc hd
  have hp : placeK s = 0 ∨ placeK s = 1 ∨ placeK s = 2 := by
    unfold placeK
    by_cases h1 : s = "right"
    · simp [h1]
    · by_cases h2 : s = "middle"
      · simp [h2]; decide
      · simp [h1, h2]
  unfold placesL
  have er : List.range 3 = [0, 1, 2] := by decide
  rw [er]
  simp only [List.filter_cons, List.filter_nil, f0, f1, f2]
  rcases hp with hp | hp | hp <;> rw [hp] <;> simp
/-- how long what stands in a list is -/
def lenOf14 : D → Option D
  | .tup ds => some (.int (ds.length : Nat))
  | _ => none
theorem len_tabs14 : ∀ E : List (List Nat), (tabsD E).filterMap lenOf14 = (E.map fun e => (e.length : Int)).map D.int
  | [] => rfl
  | e :: E => by
    have ih := len_tabs14 E
    unfold tabsD at ih ⊢
    rw [List.map_cons, List.filterMap_cons_some (show lenOf14 (tabD e) = some (.int (e.length : Nat)) by show some (D.int ((intsD e).length : Nat)) = _; rw [intsD_len]), ih]
    rfl
theorem ks_one {E : List (List Nat)} {ks : List Int} (nd : ks.Nodup) (hk : ∀ k : Int, k ∈ ks ↔ k ∈ E.map fun e => (e.length : Int)) (ne : E ≠ []) : ks.length = 1 ↔ ∀ e ∈ E, ∀ e' ∈ E, e.length = e'.length := by
  have mem : ∀ e ∈ E, (e.length : Int) ∈ ks := fun e he => (hk _).mpr (List.mem_map.mpr ⟨e, he, rfl⟩)
  constructor
  · intro h e he e' he'
    have m1 := mem e he
    have m2 := mem e' he'
    match ks, h, m1, m2 with
    | [a], _, m1, m2 => simp at m1 m2; omega
  · intro h
    obtain ⟨e, he⟩ := List.exists_mem_of_ne_nil _ ne
    have m1 := mem e he
    match ks, nd, hk, m1 with
    | [a], _, _, _ => rfl
    | a :: b :: ks, nd, hk, _ =>
      obtain ⟨x, hx, ex⟩ := List.mem_map.mp ((hk a).mp (by simp))
      obtain ⟨y, hy, ey⟩ := List.mem_map.mp ((hk b).mp (by simp))
      have := h x hx y hy
      have hab : a = b := by omega
      subst hab
      simp at nd
def SKind : FSpec := fun ds α R => ∃ (m : Rows) (n a b c d : Nat), ds = [lstR m, tabD [a, b, c, d]] ∧ Wf n m ∧ Sound n m ∧ a < n ∧ b < n ∧ c < n ∧ d < n ∧ R (kindD (DH.kindOf m a b c d)) α
end

abbrev sBags17 : Stmt := top 46
abbrev nBags17 : List Str := ["_law_rows_here", "_law_queue", "_law_known", "_law_end"]
theorem scBags17 : FnScope nBags17 ["_law_rows_here", "_law_queue", "_law_known"] (defScope sBags17) := ⟨rfl, rfl, rfl, by decide +kernel, rfl, by decide +kernel, by decide +kernel⟩
abbrev sTri17 : Stmt := top 47
abbrev nTri17 : List Str := ["_law_rows_here", "_law_found", "_law_queue", "_law_first", "_law_second"]
theorem scTri17 : FnScope nTri17 ["_law_rows_here"] (defScope sTri17) := ⟨rfl, rfl, rfl, by decide +kernel, rfl, by decide +kernel, by decide +kernel⟩
abbrev sWord17 : Stmt := top 48
abbrev nWord17 : List Str := ["_law_rows_here", "_law_known", "_law_due", "_law_queue", "_law_end"]
theorem scWord17 : FnScope nWord17 ["_law_rows_here", "_law_known", "_law_due"] (defScope sWord17) := ⟨rfl, rfl, rfl, by decide +kernel, rfl, by decide +kernel, by decide +kernel⟩
section
variable {P : Program} {w : World} {K : PySem.W.Frag} {mg : Str → Option Value} {base : Heap} {f : Addr} {fd : FuncData} {C : Addr}
open FM
/-- sorted -/
def srtN (e : List Nat) : List Nat := e.mergeSort (fun a b => decide (a ≤ b))
theorem srtN_pw (e : List Nat) : (srtN e).Pairwise (· ≤ ·) := by
  have := List.pairwise_mergeSort (le := fun a b : Nat => decide (a ≤ b)) (fun a b c h1 h2 => by simp only [decide_eq_true_eq] at h1 h2 ⊢; omega) (fun a b => by simp only [Bool.or_eq_true, decide_eq_true_eq]; omega) e
  exact this.imp fun {a b} z => by simpa using z
theorem srtN_perm (e : List Nat) : (srtN e).Perm e := List.mergeSort_perm e _
theorem srtN_eq {e : List Nat} {ns : List Int} (hp : ns.Perm (cst e)) (hw : ns.Pairwise (· ≤ ·)) : ns = cst (srtN e) := by
  refine sorted_perm hw ?_ (hp.trans ((srtN_perm e).map Int.ofNat).symm)
  unfold cst
  rw [List.pairwise_map]
  exact (srtN_pw e).imp fun {a b} z => by simpa using z
theorem srtN_iff {e e' : List Nat} : srtN e = srtN e' ↔ e.Perm e' := by
  constructor
  · intro h
    exact (srtN_perm e).symm.trans (h ▸ srtN_perm e')
  · intro h
    have : (srtN e).Perm (srtN e') := (srtN_perm e).trans (h.trans (srtN_perm e').symm)
    exact this.eq_of_pairwise (fun x y _ _ h1 h2 => Nat.le_antisymm h1 h2) (srtN_pw e) (srtN_pw e')
/-- a tuple of ints, sorted -/
def srtD : D → Option D
  | .tup ds => some (tabD (srtN (ds.map fun d => match d with | .int i => i.toNat | _ => 0)))
  | _ => none
theorem srtD_tab (q : List Nat) : srtD (tabD q) = some (tabD (srtN q)) := by
  show some (tabD (srtN ((intsD q).map _))) = _
  unfold intsD
  rw [List.map_map]
  congr 3
  conv => rhs; rw [← List.map_id q]
  congr 1
theorem srt_tabs : ∀ E : List (List Nat), (tabsD E).filterMap srtD = tabsD (E.map srtN)
  | [] => rfl
  | q :: E => by
    show ((tabD q :: tabsD E).filterMap srtD) = _
    rw [List.filterMap_cons, srtD_tab, srt_tabs E]
    rfl
def SBags : FSpec := fun ds α R => ∃ (m : Rows) (n : Nat) (q : List Nat) (c : Nat) (es : List (List Key × D)), ds = [lstR m, tabD q, .acc c] ∧ Wf n m ∧ (∀ y ∈ q, y < n) ∧ q.length ≤ 6 ∧ α[c]? = some (.td es) ∧ Memo m es ∧ es.length + 326 ≤ 900000 ∧ (ends (tab m) q).length < 64 ∧
  ∀ (es' : List (List Key × D)) (T : List (List Nat)), Memo m es' → es'.length ≤ es.length + 326 → T.Nodup → (∀ t, t ∈ T ↔ t ∈ (ends (tab m) q).map srtN) → R (.lst (tabsD T)) (α.set c (.td es'))
theorem fn_bags (F : Fun K "_law_bags" "_law_bags" sBags17 f fd) (Z : Bl mg) (Zs : mg "set" = none) (c1 : Fx P w K mg base 7 "_law_ends" ["_law_rows_here", "_law_queue", "_law_known"] (SEnds 6)) : FnOk P w K mg base CX0 8 f fd ["_law_rows_here", "_law_queue", "_law_known"] (SpD K SBags) := by
  refine fn_def F scBags17 (fun ds α R h => by obtain ⟨m, n, q, c, es, rfl, _⟩ := h; rfl) (fun cdv A outer sh H E hr ds α R h hna hnd => ?_)
  obtain ⟨m, n, q, c, es, rfl, hw, hq, hl, hc, hm, hz, hf, h⟩ := h
  have nd : nBags17.Nodup := by decide +kernel
  refine dss_cons (ds_ret (de_sortSetT rfl hr.units Z.sorted Zs ?_))
  refine de_lcT (own := [("_law_end", 3)]) (.nm 3) rfl nd (blkOk_by (N := nBags17) (sc := defScope sBags17) (by decide +kernel)) (by decide) (fun _ _ _ _ _ => pg_name (i := 3) nd rfl (Or.inl rfl)) (fun hna2 => LcGT.filter' ?_)
  refine di_list (de_naR (de_call c1 hr rfl ?_))
  walk_at "go"
  refine ⟨m, n, q, c, es, rfl, hw, hq, hl, hc, hm, by show es.length + 326 ≤ 900000; omega, fun es' hm' hl' hna3 => ?_⟩
  refine ⟨tabsD (ends (tab m) q), rfl, rfl, fun _ => rfl, by rw [tabsD_len]; omega, srtD, fun y acc hy => ?_, ?_⟩
  · obtain ⟨e, he, rfl⟩ := tabsD_mem hy
    refine ⟨_, rfl, fun s H C cl fp => dts_nil ⟨rfl, ifT rfl ?_⟩⟩
    intro s H C cl fp
    refine de_callTy call_tuple_of rfl Z.tuple boot_tuple (da_consF ?_)
    refine de_callB (cr_sortTI hr.units) rfl Z.sorted boot_sorted ?_
    walk_at "go"
    rw [tabD_eq]
    refine cd_sortTI fun ns' hp ho => ?_
    walk_at "go"
    refine cd_tuple rfl ?_
    rw [srtN_eq hp ho, ← tabD_eq, ← tabD_eq, srtD_tab]
    exact ⟨rfl, rfl⟩
  · rw [srt_tabs]
    refine ⟨by simp, hna3, na_tabs _ _, (ends (tab m) q).map srtN, rfl, by simpa using hf, fun T hn hT => ?_⟩
    exact h es' T hm' hl' hn hT
theorem bags_len {m : Rows} {q : List Nat} {T : List (List Nat)} (hn : T.Nodup) (hT : ∀ t, t ∈ T ↔ t ∈ (ends (tab m) q).map srtN) : decide (1 < ((T.length : Nat) : Int)) = qb m q ∧ (qb m q = false → T.length = 1) := by
  obtain ⟨e0, he0⟩ := List.exists_mem_of_ne_nil _ (ends_ne (t := tab m) (q := q))
  have hm0 : srtN e0 ∈ T := (hT _).mpr (List.mem_map.mpr ⟨e0, he0, rfl⟩)
  have one : qb m q = false → T.length = 1 := fun z => by
    have z := qb_iff.mp z
    have all : ∀ t ∈ T, t = srtN e0 := fun t ht => by
      obtain ⟨e, he, rfl⟩ := List.mem_map.mp ((hT t).mp ht)
      exact srtN_iff.mpr (z e he e0 he0)
    match T, hn, hm0, all with
    | [x], _, _, _ => rfl
    | x :: y :: T, hn, _, all =>
      have h1 := all x (by simp)
      have h2 := all y (by simp)
      rw [h1, h2] at hn
      simp at hn
  refine ⟨?_, one⟩
  cases hb : qb m q with
  | false => rw [one hb]; rfl
  | true =>
    rw [decide_eq_true_iff]
    refine Classical.byContradiction fun hlt => ?_
    have h1 : T.length = 1 := by
      have := List.length_pos_of_mem hm0
      omega
    obtain ⟨t, rfl⟩ := List.length_eq_one_iff.mp h1
    have : qb m q = false := qb_iff.mpr fun e he e' he' => by
      have a1 := (hT _).mpr (List.mem_map.mpr ⟨e, he, rfl⟩)
      have a2 := (hT _).mpr (List.mem_map.mpr ⟨e', he', rfl⟩)
      simp only [List.mem_singleton] at a1 a2
      exact srtN_iff.mp (a1.trans a2.symm)
    rw [this] at hb; cases hb
end

section
variable {P : Program} {w : World} {K : PySem.W.Frag} {mg : Str → Option Value} {base : Heap} {f : Addr} {fd : FuncData} {C : Addr}
open FM
def STri : FSpec := fun ds α R => ∃ (m : Rows) (n : Nat), ds = [lstR m] ∧ Wf n m ∧ n ≤ 5 ∧ R (.lst (tabsD (trisL m n))) α
theorem tri_succ {m : Rows} {n i : Nat} {q : List Nat} (h : (qsL n 3)[i]? = some q) : ((qsL n 3).take (i + 1)).filter (handQ m) = ((qsL n 3).take i).filter (handQ m) ++ (if handQ m q = true then [q] else []) := by
  rw [List.take_add_one, h, List.filter_append]
  congr 1
  cases e : handQ m q <;> simp [e]
theorem fn_triples (F : Fun K "_law_triples" "_law_triples" sTri17 f fd) (Z : Bl mg) (c1 : Fx P w K mg base 1 "_law_queues" ["_law_many", "_law_length"] SQueues) (c2 : Fx P w K mg base 1 "_law_meet" ["_law_rows_here", "_law_one", "_law_other"] SMeet) : FnOk P w K mg base CX0 2 f fd ["_law_rows_here"] (SpD K STri) := by
  refine fn_def F scTri17 (fun ds α R h => by obtain ⟨m, n, rfl, _⟩ := h; rfl) (fun cdv A outer sh H E hr ds α R h hna hnd => ?_)
  obtain ⟨m, n, rfl, hw, hn, h⟩ := h
  have nd : nTri17.Nodup := by decide +kernel
  have h12 : n ≤ 12 := by omega
  refine dss_sealR ?_
  refine dss_cons (ds_set 1 nd (de_cell ?_))
  walk_at "go"
  refine dss_cons (ds_for PassesOwn.never rfl (di_list (de_call c1 hr rfl ?_)))
  walk_at "go"
  refine cd_len rfl ?_
  rw [List.length_map, hw.len]
  walk_at "go"
  refine ⟨n, 3, rfl, h12, by decide, ?_⟩
  refine ⟨tabsD (qsL n 3), rfl, rfl, fun i ρ' α' => i ≤ (qsL n 3).length ∧ α' = α ++ [.l (tabsD (((qsL n 3).take i).filter (handQ m)))] ∧ ∃ x2 x3 x4, ρ' = [some (lstR m), some (.acc α.length), x2, x3, x4], ⟨Nat.zero_le _, by simp [tabsD], none, none, none, rfl⟩, fun _ _ _ _ => rfl, ?_, ?_⟩
  · rintro i y ρ' α' hy ⟨hi, rfl, x2, x3, x4, rfl⟩
    obtain ⟨q, hq, rfl⟩ := tabsD_get hy
    have hi' := (List.getElem?_eq_some_iff.mp hq).1
    obtain ⟨q3, qn⟩ := mem_qsL.mp (List.mem_of_getElem? hq)
    have hsm := qsL_small h12 (show 3 ≤ 4 by decide)
    have hsucc := tri_succ (m := m) hq
    have hfl : (tabsD (((qsL n 3).take i).filter (handQ m))).length < 1000000 := by
      rw [tabsD_len]
      have := List.length_filter_le (handQ m) ((qsL n 3).take i)
      rw [List.length_take] at this
      omega
    match q, q3 with
    | [a, b, c], _ =>
      have ha := qn a (by simp)
      have hb := qn b (by simp)
      have hc := qn c (by simp)
      refine dg_name 2 nd ?_
      refine dss_cons (ds_par 3 4 rfl nd ?_)
      walk_at "goI"
      refine ⟨_, _, rfl, ?_⟩
      have skip : ∀ d1 d2 : Option D, handQ m [a, b, c] = false → i + 1 ≤ (qsL n 3).length ∧ (α ++ [Cl.l (tabsD (((qsL n 3).take i).filter (handQ m)))]) = α ++ [.l (tabsD (((qsL n 3).take (i + 1)).filter (handQ m)))] ∧ ∃ x2 x3 x4, [some (lstR m), some (.acc α.length), some (tabD [a, b, c]), d1, d2] = [some (lstR m), some (.acc α.length), x2, x3, x4] := fun d1 d2 hh => ⟨hi', by rw [hsucc, hh]; simp, _, _, _, rfl⟩
      refine dss_cons (ds_if ?_)
      cases e1 : look m a b with
      | none =>
        walk_at "goI"
        exact dss_nil (dss_nil (skip _ _ (by show handB m a b c = false; unfold handB; rw [e1])))
      | some x =>
        cases e2 : look m b c with
        | none =>
          walk_at "goI"
          exact dss_nil (dss_nil (skip _ _ (by show handB m a b c = false; unfold handB; rw [e1, e2])))
        | some y =>
          obtain ⟨u1, u2⟩ := hw.look ha hb e1
          obtain ⟨v1, v2⟩ := hw.look hb hc e2
          walk_at "goI"
          refine de_call c2 hr rfl ?_
          walk_at "goI"
          refine ⟨lstR m, m, n, x, (c : Int), rfl, isRows_lst _ _, hw, u1, u2, by omega, by omega, ?_⟩
          walk_at "goI"
          rw [isNon_enc]
          have hmv : meetV m x (c : Int) = if x = -1 then some (c : Int) else look m x.toNat c := by
            unfold meetV
            by_cases hx : x = -1
            · simp [hx]
            · have : ¬ ((c : Int) = -1) := by omega
              simp [hx, this]
          by_cases hx : x = -1
          · rw [hmv, if_pos hx]
            refine ifF rfl (dss_nil (dss_nil (skip _ _ ?_)))
            show handB m a b c = false
            unfold handB
            rw [e1, e2, hx]
            rfl
          rw [hmv, if_neg hx]
          refine iteB (fun h3 => ?_) (fun h3 => dss_nil (dss_nil (skip _ _ ?_)))
          · refine dss_cons (ds_if ?_)
            walk_at "goI"
            refine ifT (by simp [hx]) ?_
            walk_at "goI"
            by_cases hy : y = -1
            · refine ifF (by simp [hy]) (dss_nil (dss_nil (dss_nil (skip _ _ ?_))))
              show handB m a b c = false
              unfold handB
              rw [e1, e2, hy]
              simp
            · refine ifT (by simp [hy]) ?_
              have hh : handQ m [a, b, c] = true := by
                show handB m a b c = true
                unfold handB
                rw [e1, e2]
                have a1 : 0 ≤ x := by omega
                have a2 : 0 ≤ y := by omega
                simp only [h3, a1, a2, decide_true, Bool.and_self]
              refine dss_cons (ds_append ?_)
              walk_at "goI"
              refine ⟨tabsD (((qsL n 3).take i).filter (handQ m)), by simp, ?_⟩
              walk_at "goI"
              refine ⟨tabsD (((qsL n 3).take i).filter (handQ m)), by simp, hfl, ?_⟩
              refine dss_nil (dss_nil (dss_nil ⟨hi', ?_, _, _, _, rfl⟩))
              rw [hsucc, hh]
              simp [tabsD]
          · show handB m a b c = false
            unfold handB
            rw [e1, e2]
            simp only [h3, Bool.and_false]
  · rintro ρ' α' ⟨hi, rfl, x2, x3, x4, rfl⟩
    rw [tabsD_len, List.take_length, tris_eq]
    refine dss_cons (ds_ret ?_)
    walk_at "go"
    refine ⟨α, [_], .lst (tabsD (trisL m n)), rfl, Nat.le_refl _, hna, ?_, h⟩
    exact .high (Nat.le_refl _) (by simp) (Seals.of (na_tabs _ _))
end

section
variable {P : Program} {w : World} {K : PySem.W.Frag} {mg : Str → Option Value} {base : Heap} {f : Addr} {fd : FuncData} {C : Addr}
open FM
def wordL (m : Rows) (n : Nat) (o3 oB : Option (List Nat)) : Str :=
  if (qsL n 4).filter (unlike m) = [] then (if trisL m n = [] then "clear" else if o3 = none then "single" else if oB = none then "bag" else "even") else "uneven"
theorem like_ks {m : Rows} {q : List Nat} {ks : List Int} (nd : ks.Nodup) (hk : ∀ k : Int, k ∈ ks ↔ k ∈ (ends (tab m) q).map fun e => (e.length : Int)) : decide (1 < ((ks.length : Nat) : Int)) = unlike m q := by
  have e := ks_one nd hk ends_ne
  have pos : 1 ≤ ks.length := by
    obtain ⟨e0, he0⟩ := List.exists_mem_of_ne_nil _ (ends_ne (t := tab m) (q := q))
    exact List.length_pos_of_mem ((hk _).mpr (List.mem_map.mpr ⟨e0, he0, rfl⟩))
  have eu : unlike m q = false ↔ ∀ e ∈ ends (tab m) q, ∀ e' ∈ ends (tab m) q, e.length = e'.length := by
    unfold unlike
    simp
  cases hu : unlike m q with
  | false =>
    have := e.mpr (eu.mp hu)
    rw [this]; rfl
  | true =>
    rw [decide_eq_true_iff]
    refine Classical.byContradiction fun hlt => ?_
    rw [eu.mpr (e.mp (by omega))] at hu
    cases hu
theorem optD_is (o : Option (List Nat)) : isNon (optD o) = o.isNone := by cases o <;> rfl
def SWord : FSpec := fun ds α R => ∃ (m : Rows) (n : Nat) (c : Nat) (es : List (List Key × D)) (o3 oB : Option (List Nat)), ds = [lstR m, .acc c, .tup [optD o3, optD oB]] ∧ Wf n m ∧ n ≤ 5 ∧ α[c]? = some (.td es) ∧ Memo m es ∧ es.length + 250000 ≤ 900000 ∧
  ∀ es' : List (List Key × D), Memo m es' → es'.length ≤ es.length + 250000 → R (.str (wordL m n o3 oB)) (α.set c (.td es'))
theorem fn_word (F : Fun K "_law_word" "_law_word" sWord17 f fd) (Z : Bl mg) (Zs : mg "set" = none) (c1 : Fx P w K mg base 7 "_law_queues" ["_law_many", "_law_length"] SQueues) (c2 : Fx P w K mg base 7 "_law_ends" ["_law_rows_here", "_law_queue", "_law_known"] (SEnds 6)) (c3 : Fx P w K mg base 7 "_law_triples" ["_law_rows_here"] STri) : FnOk P w K mg base CX0 8 f fd ["_law_rows_here", "_law_known", "_law_due"] (SpD K SWord) := by
  refine fn_def F scWord17 (fun ds α R h => by obtain ⟨m, n, c, es, o3, oB, rfl, _⟩ := h; rfl) (fun cdv A outer sh H E hr ds α R h hna hnd => ?_)
  obtain ⟨m, n, c, es, o3, oB, rfl, hw, hn, hc, hm, hz, h⟩ := h
  have nd : nWord17.Nodup := by decide +kernel
  have h12 : n ≤ 12 := by omega
  have hcl : c < α.length := (List.getElem?_eq_some_iff.mp hc).1
  have gc : ∀ es' : List (List Key × D), (α.set c (.td es'))[c]? = some (.td es') := fun es' => by simp [hcl]
  have sc : ∀ es' es'' : List (List Key × D), (α.set c (.td es')).set c (.td es'') = α.set c (.td es'') := fun es' es'' => List.set_set ..
  have s0 : α.set c (.td es) = α := by
    apply List.ext_getElem?
    intro i
    rw [List.getElem?_set]
    by_cases hi : c = i
    · subst hi; rw [if_pos rfl, if_pos hcl, hc]
    · simp [hi]
  have q625 : (qsL n 4).length ≤ 625 := by
    rw [qsL_len]
    exact Nat.le_trans (Nat.pow_le_pow_left hn 4) (by decide)
  refine dss_cons (ds_for PassesOwn.never rfl (di_list (de_call c1 hr rfl ?_)))
  walk_at "go"
  refine cd_len rfl ?_
  rw [List.length_map, hw.len]
  walk_at "go"
  refine ⟨n, 4, rfl, h12, by decide, ?_⟩
  refine ⟨tabsD (qsL n 4), rfl, rfl, fun i ρ' α' => ∃ es' x3, i ≤ (qsL n 4).length ∧ α' = α.set c (.td es') ∧ Memo m es' ∧ es'.length ≤ es.length + i * 326 ∧ ((qsL n 4).take i).filter (unlike m) = [] ∧ ρ' = [some (lstR m), some (.acc c), some (.tup [optD o3, optD oB]), x3, none], ⟨es, none, Nat.zero_le _, s0.symm, hm, by omega, by simp, rfl⟩, fun _ _ _ _ => rfl, ?_, ?_⟩
  · rintro i y ρ' α' hy ⟨es', x3, hi, rfl, hm', hl', hu, rfl⟩
    obtain ⟨q, hq, rfl⟩ := tabsD_get hy
    have hi' := (List.getElem?_eq_some_iff.mp hq).1
    obtain ⟨q4, qn⟩ := mem_qsL.mp (List.mem_of_getElem? hq)
    refine dg_name 3 nd ?_
    refine dss_cons (ds_if (dt_cmp op_gt (nomark _) (de_lenSet rfl Z.len Zs ?_)))
    refine de_lcT (own := [("_law_end", 4)]) (.nm 4) rfl nd (blkOk_by (N := nWord17) (sc := defScope sWord17) (by decide +kernel)) (by decide) (fun _ _ _ _ _ => pg_name (i := 4) nd rfl (Or.inl rfl)) (fun hna2 => LcGT.filter' ?_)
    refine di_list (de_naR (de_call c2 hr rfl ?_))
    walk_at "go"
    refine ⟨m, n, q, c, es', rfl, hw, qn, by omega, gc _, hm', by show es'.length + 326 ≤ 900000; omega, fun es'' hm'' hl'' hna3 => ?_⟩
    have hl3 : es''.length ≤ es'.length + 326 := hl''
    rw [sc] at hna3 ⊢
    have hE : (ends (tab m) q).length ≤ 6 := ends_len (t := tab m) 4 q (by omega)
    refine ⟨tabsD (ends (tab m) q), rfl, rfl, fun _ => rfl, by rw [tabsD_len]; omega, lenOf14, fun y acc hy => ?_, ?_⟩
    · obtain ⟨e, he, rfl⟩ := tabsD_mem hy
      refine ⟨_, rfl, fun s H C cl fp => dts_nil ⟨rfl, ifT rfl ?_⟩⟩
      intro s H C cl fp
      walk_at "go"
      refine cd_len rfl ?_
      exact ⟨rfl, rfl⟩
    · rw [len_tabs14]
      refine ⟨by simp, hna3, nas_ints _, (ends (tab m) q).map fun e => (e.length : Int), rfl, rfl, by simp; omega, fun ks hp hk => ?_⟩
      walk_at "go"
      rw [like_ks hp hk]
      have hsucc : ((qsL n 4).take (i + 1)).filter (unlike m) = if unlike m q = true then [q] else [] := by
        rw [List.take_add_one, hq, List.filter_append, hu]
        cases hq' : unlike m q <;> simp [hq']
      refine iteB (fun hb => ?_) (fun hb => ?_)
      · refine dss_cons (ds_ret ?_)
        walk_at "go"
        have hne : (qsL n 4).filter (unlike m) ≠ [] := fun z => by
          have hm4 : q ∈ (qsL n 4).filter (unlike m) := List.mem_filter.mpr ⟨List.mem_of_getElem? hq, hb⟩
          rw [z] at hm4; cases hm4
        have := h es'' hm'' (by omega)
        unfold wordL at this
        rw [if_neg hne] at this
        exact this
      · rw [hb] at hsucc
        refine dss_nil (dss_nil ⟨es'', _, hi', rfl, hm'', by omega, by simpa using hsucc, rfl⟩)
  · rintro ρ' α' ⟨es', x3, hi, rfl, hm', hl', hu, rfl⟩
    rw [tabsD_len] at hl' hu
    rw [List.take_length] at hu
    have h := h es' hm' (by omega)
    unfold wordL at h
    rw [if_pos hu] at h
    refine dss_cons (ds_if (dt_cmp (op_eqD hr.units) (nomark _) (de_call c3 hr rfl ?_)))
    walk_at "go"
    refine ⟨m, n, rfl, hw, hn, ?_⟩
    refine de_lst (da_nil ⟨by decide, ?_⟩)
    refine od_eqNil ?_
    refine ⟨_, rfl, iteB (fun hb => ?_) (fun hb => ?_)⟩
    · rw [if_pos (by simpa using hb)] at h
      refine dss_cons (ds_ret ?_)
      walk_at "go"
      exact h
    · rw [if_neg (by simpa using hb)] at h
      refine dss_nil ?_
      refine dss_cons (ds_if ?_)
      walk_at "goI"
      rw [optD_is]
      cases o3 with
      | none =>
        refine ifT rfl ?_
        refine dss_cons (ds_ret ?_)
        walk_at "goI"
        exact h
      | some q3 =>
        rw [if_neg (by simp)] at h
        refine ifF rfl ?_
        refine dss_nil ?_
        refine dss_cons (ds_ret ?_)
        walk_at "goI"
        rw [optD_is]
        cases oB with
        | none =>
          refine ifT rfl ?_
          walk_at "goI"
          exact h
        | some qB =>
          rw [if_neg (by simp)] at h
          refine ifF rfl ?_
          walk_at "goI"
          exact h
theorem word_is {m : Rows} {n : Nat} (hw : Wf n m) (hs : Sound n m) : wordL m n ((qsL n 3).find? (q1 m)) ((qsL n 2 ++ qsL n 3 ++ qsL n 4).find? (qb m)) = wordOf m n := by
  have e4 : (qsL n 4).filter (unlike m) = [] ↔ foursL m n = [] := fours_unlike.trans ((fours_iff hw hs).symm.trans fours_nil.symm)
  have eT : trisL m n = [] ↔ L1 m n n = [] := by unfold trisL; exact List.map_eq_nil_iff
  have e3 : (qsL n 3).find? (q1 m) = none ↔ (L1 m n n).find? (unl m) = none := by rw [find_three hw hs]; simp
  unfold wordL wordOf
  by_cases h4 : foursL m n = []
  · rw [if_pos (e4.mpr h4), if_pos h4]
    by_cases hT : L1 m n n = []
    · rw [if_pos (eT.mpr hT), if_pos hT]
    · rw [if_neg (fun z => hT (eT.mp z)), if_neg hT]
      by_cases h3 : (L1 m n n).find? (unl m) = none
      · rw [if_pos (e3.mpr h3), if_pos h3]
      · rw [if_neg (fun z => h3 (e3.mp z)), if_neg h3]
        have eB : (qsL n 2 ++ qsL n 3 ++ qsL n 4).find? (qb m) = none ↔ (L1 m n n).find? (unb m) = none := by
          rw [List.find?_append, List.find?_append, find_bag2, Option.none_or, find_bag3 hw hs]
          cases hb : (L1 m n n).find? (unb m) with
          | some t => simp
          | none =>
            have := find_bag4 hw hs hb
            rw [h4] at this
            simp [this]
        by_cases hB : (L1 m n n).find? (unb m) = none
        · rw [if_pos (eB.mpr hB), if_pos hB]
        · rw [if_neg (fun z => hB (eB.mp z)), if_neg hB]
  · rw [if_neg (fun z => h4 (e4.mp z)), if_neg h4]
end

abbrev sLaw : Stmt := top 49
abbrev nLaw : List Str := ["_law_script", "_law_k", "_law_box_here", "_law_rows_here", "_law_merger", "_law_known", "_law_three", "_law_bag", "_law_queue", "_law_turn", "_law_at"]
theorem scLaw : FnScope nLaw ["_law_script"] (defScope sLaw) := ⟨rfl, rfl, rfl, by decide +kernel, rfl, by decide +kernel, by decide +kernel⟩
section
variable {P : Program} {w : World} {K : PySem.W.Frag} {mg : Str → Option Value} {base : Heap} {f : Addr} {fd : FuncData} {C fI : Addr} {fdI : FuncData}
open FM
def SLaw : FSpec := fun ds α R => ∃ ns : List Int, ds = [.fix (ns.map D.int)] ∧ α = [] ∧ ns.length ≤ 63 ∧ R (.bl true) []
structure LawC (P : Program) (w : World) (K : PySem.W.Frag) (mg : Str → Option Value) (base : Heap) (C : Addr) : Prop where
  box : Fx P w K mg base 8 "_law_box" ["_law_script", "_law_k"] SBox
  rows : Fx P w K mg base 8 "_law_rows" ["_law_box_here"] SGen
  few : Fx P w K mg base 8 "_law_few" ["_law_rows_here", "_law_box_here"] SFew
  take : Fx P w K mg base 8 "_law_take" ["_law_box_here", "_law_many"] STake
  pick : Fx P w K mg base 8 "_law_pick" ["_law_box_here", "_law_some"] SPick
  queues : Fx P w K mg base 8 "_law_queues" ["_law_many", "_law_length"] SQueues
  ends : Fx P w K mg base 8 "_law_ends" ["_law_rows_here", "_law_queue", "_law_known"] (SEnds 6)
  bags : Fx P w K mg base 8 "_law_bags" ["_law_rows_here", "_law_queue", "_law_known"] SBags
  tri : Fx P w K mg base 8 "_law_triples" ["_law_rows_here"] STri
  word : Fx P w K mg base 8 "_law_word" ["_law_rows_here", "_law_known", "_law_due"] SWord
  s3 : Fx P w K mg base 8 "single_three" ["merger"] (SSingleThree C)
  isg : Fx P w K mg base 8 "is_single" ["merger"] (SIsSingle C)
  bq : Fx P w K mg base 8 "bag_queue" ["merger"] (SBagQueue C)
  s3K : FxK P w K mg base 8 "single_three" ["merger"] (SSingleThree C)
  isK : FxK P w K mg base 8 "is_single" ["merger"] (SIsSingle C)
  bqK : FxK P w K mg base 8 "bag_queue" ["merger"] (SBagQueue C)
  htK : FxK P w K mg base 8 "hand_triples" ["merger"] (SHandTriples C)
  mwK : FxK P w K mg base 8 "merger_word" ["merger"] (SMergerWord C)
def forB : Stmt → List Stmt
  | .For (body := b) .. => b
  | _ => []
abbrev lawB : List Stmt := forB ((defBody sLaw).getD 0 (.Pass ⟨0, 0, 0, 0⟩))
abbrev slM (C : Addr) (ns : List Int) (k : Nat) (m : Rows) (n : Nat) (x6 x7 x8 x9 : Option D) : Rho := [some (.fix (ns.map D.int)), some (.int (k : Nat)), some (.acc 0), some (lstR m), some (mgD C n m), some (.acc 1), x6, x7, x8, x9, none]
/-- the least queue of three, the least queue with unlike bags -/
abbrev o3 (m : Rows) (n : Nat) : Option (List Nat) := (qsL n 3).find? (q1 m)
abbrev qsB (n : Nat) : List (List Nat) := qsL n 2 ++ qsL n 3 ++ qsL n 4
abbrev oB (m : Rows) (n : Nat) : Option (List Nat) := (qsB n).find? (qb m)
theorem find_next {β : Type} {p : β → Bool} {l : List β} {i : Nat} {x : β} (hx : l[i]? = some x) : (l.take (i + 1)).find? p = match (l.take i).find? p with
    | some y => some y
    | none => if p x = true then some x else none := by
  rw [List.take_add_one, hx, List.find?_append]
  cases (l.take i).find? p with
  | some y => rfl
  | none => cases hp : p x <;> simp [hp]
def optP : Option (List Nat) → PyData
  | none => .none
  | some q => .tuple (intsP (cst q))
theorem py_opt {α : Sto} : ∀ o : Option (List Nat), Py α (optD o) (optP o)
  | none => .non
  | some q => by rw [show optD (some q) = tabD q from rfl, tabD_eq]; exact py_intsT _
theorem sh_tri (a c : Option (List Nat)) (b : Bool) : SeqAt.shaped (.tuple [optP a, .bool b, optP c]) = true := by
  unfold SeqAt.shaped
  cases a <;> cases c <;> simp only [optP, PyData.canLay0, PyData.canLayAll0, lay_ints, PyData.depth, PyData.depthAll, dep_ints, Bool.and_self, Bool.and_true, Bool.true_and] <;> decide
theorem cd_reprO {K : PySem.W.Frag} {α : Sto} {R : RE} {o : Option (List Nat)} (h : ∀ q, o = some q → q.length ≤ 6 ∧ ∀ y ∈ q, y < 12) (hR : R (.str (optP o).shown) α) : CD K (rRepr K) [optD o] α R := by
  cases o with
  | none => exact cd_repr (py_opt none) rfl (by decide) (by decide) hR
  | some q =>
    obtain ⟨h1, h2⟩ := h q rfl
    exact cd_reprT (n := 12) (py_opt (some q)) h2 (by decide) (by omega) hR
theorem o3_ok {m : Rows} {n : Nat} (hn : n ≤ 5) : ∀ q, o3 m n = some q → q.length ≤ 6 ∧ ∀ y ∈ q, y < 12 := fun q h => by
  obtain ⟨h1, h2⟩ := mem_qsL.mp (List.mem_of_find?_eq_some h)
  exact ⟨by omega, fun y hy => by have := h2 y hy; omega⟩
theorem qsB_mem {n : Nat} {q : List Nat} (h : q ∈ qsB n) : q.length ≤ 4 ∧ ∀ y ∈ q, y < n := by
  rcases List.mem_append.mp h with h | h
  · rcases List.mem_append.mp h with h | h
    · obtain ⟨h1, h2⟩ := mem_qsL.mp h
      exact ⟨by omega, h2⟩
    · obtain ⟨h1, h2⟩ := mem_qsL.mp h
      exact ⟨by omega, h2⟩
  · obtain ⟨h1, h2⟩ := mem_qsL.mp h
    exact ⟨by omega, h2⟩
theorem oB_ok {m : Rows} {n : Nat} (hn : n ≤ 5) : ∀ q, oB m n = some q → q.length ≤ 6 ∧ ∀ y ∈ q, y < 12 := fun q h => by
  obtain ⟨h1, h2⟩ := qsB_mem (List.mem_of_find?_eq_some h)
  exact ⟨by omega, fun y hy => by have := h2 y hy; omega⟩
theorem triO_opt {m : Rows} {n : Nat} (hw : Wf n m) (hs : Sound n m) : triO ((L1 m n n).find? (unl m)) = optD (o3 m n) := by
  unfold o3
  rw [find_three hw hs]
  cases (L1 m n n).find? (unl m) <;> rfl
theorem single_opt {m : Rows} {n : Nat} (hw : Wf n m) (hs : Sound n m) : ((L1 m n n).find? (unl m)).isNone = (o3 m n).isNone := by
  unfold o3
  rw [find_three hw hs]
  cases (L1 m n n).find? (unl m) <;> rfl
theorem qs5 {n k : Nat} (hn : n ≤ 5) : (qsL n k).length ≤ 5 ^ k := by
  rw [qsL_len]
  exact Nat.pow_le_pow_left hn k
theorem tris_len {m : Rows} {n : Nat} (hn : n ≤ 5) : (trisL m n).length ≤ 125 := by
  rw [← tris_eq]
  exact Nat.le_trans (List.length_filter_le _ _) (qs5 hn)
theorem tris_D (m : Rows) (n : Nat) : (L1 m n n).map triD = tabsD (trisL m n) := by
  unfold trisL tabsD
  rw [List.map_map]
  rfl
end

section
variable {P : Program} {w : World} {K : PySem.W.Frag} {mg : Str → Option Value} {base : Heap} {f : Addr} {fd : FuncData} {C fI : Addr} {fdI : FuncData}
open FM
section
variable {cdv : Value} {A : Around} {outer : List Env} {sh : Shared} {H : Hp} {E : XK} {P0 : Post} {n0 : Nat} {ns : List Int} {k n : Nat} {m : Rows}
theorem law_A (Z : Bl mg) (T : LawC P w K mg base C) (hrg : RoomG 8 (bodyX P w K mg base nLaw "law" sLaw f cdv A outer sh H E).A) {x2 y2 : Int} (hw : Wf n m) (h1 : 1 ≤ n) (h2 : n ≤ 5)
    (h : ∀ (es : List (List Key × D)) (x8 : Option D), Memo m es → es.length ≤ 41000 → DSs (bodyX P w K mg base nLaw "law" sLaw f cdv A outer sh H E) n0 (lawB.drop 4) (slM C ns k m n (some (optD (o3 m n))) (some .non) x8 none) [bx x2 y2, .td es] P0) : DSs (bodyX P w K mg base nLaw "law" sLaw f cdv A outer sh H E) n0 (lawB.drop 3) (slM C ns k m n (some .non) (some .non) none none) [bx x2 y2, .td []] P0 := by
  have nd : nLaw.Nodup := by decide +kernel
  have hr := hrg.r
  have h12 : n ≤ 12 := by omega
  have q125 := qs5 (k := 3) h2
  have hb6 : bud 6 = 326 := by decide
  refine dss_cons (ds_for PassesOwn.never rfl (di_list (de_call T.queues hr rfl ?_)))
  walk_at "go"
  refine cd_len rfl ?_
  rw [List.length_map, hw.len]
  walk_at "go"
  refine ⟨n, 3, rfl, h12, by decide, ?_⟩
  refine ⟨tabsD (qsL n 3), rfl, rfl, fun i ρ' α' => ∃ es x8, i ≤ (qsL n 3).length ∧ α' = [bx x2 y2, .td es] ∧ Memo m es ∧ es.length ≤ i * 326 ∧ ρ' = slM C ns k m n (some (optD (((qsL n 3).take i).find? (q1 m)))) (some .non) x8 none, ⟨[], none, Nat.zero_le _, rfl, Memo.nil, by simp, rfl⟩, fun _ _ _ _ => rfl, ?_, ?_⟩
  · rintro i y ρ' α' hy ⟨es, x8, hi, rfl, hm, hl, rfl⟩
    obtain ⟨q, hq, rfl⟩ := tabsD_get hy
    have hi' := (List.getElem?_eq_some_iff.mp hq).1
    obtain ⟨q3, qn⟩ := mem_qsL.mp (List.mem_of_getElem? hq)
    have hsucc := find_next (p := q1 m) hq
    refine dg_name 8 nd ?_
    refine dss_cons (ds_if ?_)
    walk_at "go"
    rw [optD_is]
    cases ho : ((qsL n 3).take i).find? (q1 m) with
    | some q0 =>
      rw [ho] at hsucc
      refine ifF rfl ?_
      refine ifF rfl (dss_nil (dss_nil ⟨es, some (tabD q), hi', rfl, hm, by omega, ?_⟩))
      rw [hsucc]
      rfl
    | none =>
      rw [ho] at hsucc
      refine ifT rfl ?_
      walk_at "go"
      refine de_call T.ends hr rfl ?_
      walk_at "go"
      refine ⟨m, n, q, 1, es, rfl, hw, qn, by omega, rfl, hm, by rw [hb6]; omega, fun es' hm' hl' => ?_⟩
      rw [hb6] at hl'
      walk_at "go"
      refine cd_len rfl ?_
      walk_at "go"
      rw [tabsD_len]
      have e1 : decide (1 < (((ends (tab m) q).length : Nat) : Int)) = q1 m q := by
        unfold q1
        rw [decide_eq_decide]
        omega
      rw [e1]
      refine iteB (fun hb => ?_) (fun hb => ?_)
      · refine dss_cons (ds_set 6 nd ?_)
        walk_at "go"
        refine dss_nil (dss_nil ⟨es', some (tabD q), hi', rfl, hm', by omega, ?_⟩)
        rw [hsucc, if_pos hb]
        rfl
      · refine dss_nil (dss_nil ⟨es', some (tabD q), hi', rfl, hm', by omega, ?_⟩)
        rw [hsucc, if_neg (by rw [hb]; decide)]
        rfl
  · rintro ρ' α' ⟨es, x8, hi, rfl, hm, hl, rfl⟩
    rw [tabsD_len] at hl ⊢
    rw [List.take_length]
    exact h es x8 hm (by omega)
end
end

section
variable {P : Program} {w : World} {K : PySem.W.Frag} {mg : Str → Option Value} {base : Heap} {f : Addr} {fd : FuncData} {C fI : Addr} {fdI : FuncData}
open FM
section
variable {cdv : Value} {A : Around} {outer : List Env} {sh : Shared} {H : Hp} {E : XK} {P0 : Post} {n0 : Nat} {ns : List Int} {k n : Nat} {m : Rows}
theorem law_B (Z : Bl mg) (T : LawC P w K mg base C) (hrg : RoomG 8 (bodyX P w K mg base nLaw "law" sLaw f cdv A outer sh H E).A) {x2 y2 : Int} (hw : Wf n m) (h1 : 1 ≤ n) (h2 : n ≤ 5) {es0 : List (List Key × D)} (hm0 : Memo m es0) (hl0 : es0.length ≤ 41000) {x6 x8 : Option D}
    (h : ∀ (es : List (List Key × D)) (x8 : Option D), Memo m es → es.length ≤ 300000 → DSs (bodyX P w K mg base nLaw "law" sLaw f cdv A outer sh H E) n0 (lawB.drop 5) (slM C ns k m n x6 (some (optD (oB m n))) x8 none) [bx x2 y2, .td es] P0) : DSs (bodyX P w K mg base nLaw "law" sLaw f cdv A outer sh H E) n0 (lawB.drop 4) (slM C ns k m n x6 (some .non) x8 none) [bx x2 y2, .td es0] P0 := by
  have nd : nLaw.Nodup := by decide +kernel
  have hr := hrg.r
  have h12 : n ≤ 12 := by omega
  have qa := qs5 (k := 2) h2
  have qb' := qs5 (k := 3) h2
  have qc := qs5 (k := 4) h2
  have qall : (qsB n).length ≤ 775 := by simp only [qsB, List.length_append]; omega
  refine dss_cons (ds_for PassesOwn.never rfl (di_list (de_op op_cat (de_op op_cat (de_call T.queues hr rfl ?_)))))
  walk_at "go"
  refine cd_len rfl ?_
  rw [List.length_map, hw.len]
  walk_at "go"
  refine ⟨n, 2, rfl, h12, by decide, ?_⟩
  refine de_call T.queues hr rfl ?_
  walk_at "go"
  refine cd_len rfl ?_
  rw [List.length_map, hw.len]
  walk_at "go"
  refine ⟨n, 3, rfl, h12, by decide, ?_⟩
  refine od_cat rfl rfl (by rw [tabsD_len, tabsD_len]; omega) ?_
  refine de_call T.queues hr rfl ?_
  walk_at "go"
  refine cd_len rfl ?_
  rw [List.length_map, hw.len]
  walk_at "go"
  refine ⟨n, 4, rfl, h12, by decide, ?_⟩
  refine od_cat rfl rfl (by rw [List.length_append, tabsD_len, tabsD_len, tabsD_len]; omega) ?_
  rw [tabsD_app, tabsD_app]
  refine ⟨tabsD (qsB n), rfl, rfl, fun i ρ' α' => ∃ es x8, i ≤ (qsB n).length ∧ α' = [bx x2 y2, .td es] ∧ Memo m es ∧ es.length ≤ 41000 + i * 326 ∧ ρ' = slM C ns k m n x6 (some (optD (((qsB n).take i).find? (qb m)))) x8 none, ⟨es0, x8, Nat.zero_le _, rfl, hm0, by omega, rfl⟩, fun _ _ _ _ => rfl, ?_, ?_⟩
  · rintro i y ρ' α' hy ⟨es, x8, hi, rfl, hm, hl, rfl⟩
    obtain ⟨q, hq, rfl⟩ := tabsD_get hy
    have hi' := (List.getElem?_eq_some_iff.mp hq).1
    obtain ⟨q4, qn⟩ := qsB_mem (List.mem_of_getElem? hq)
    have hsucc := find_next (p := qb m) hq
    refine dg_name 8 nd ?_
    refine dss_cons (ds_if ?_)
    walk_at "go"
    rw [optD_is]
    cases ho : ((qsB n).take i).find? (qb m) with
    | some q0 =>
      rw [ho] at hsucc
      refine ifF rfl ?_
      refine ifF rfl (dss_nil (dss_nil ⟨es, some (tabD q), hi', rfl, hm, by omega, ?_⟩))
      rw [hsucc]
      rfl
    | none =>
      rw [ho] at hsucc
      have hE : (ends (tab m) q).length ≤ 6 := ends_len (t := tab m) 4 q q4
      refine ifT rfl ?_
      walk_at "go"
      refine de_call T.bags hr rfl ?_
      walk_at "go"
      refine ⟨m, n, q, 1, es, rfl, hw, qn, by omega, rfl, hm, by omega, by omega, fun es' T' hm' hl' hn hT => ?_⟩
      walk_at "go"
      refine cd_len rfl ?_
      walk_at "go"
      rw [tabsD_len, (bags_len hn hT).1]
      refine iteB (fun hb => ?_) (fun hb => ?_)
      · refine dss_cons (ds_set 7 nd ?_)
        walk_at "go"
        refine dss_nil (dss_nil ⟨es', some (tabD q), hi', rfl, hm', by omega, ?_⟩)
        rw [hsucc, if_pos hb]
        rfl
      · refine dss_nil (dss_nil ⟨es', some (tabD q), hi', rfl, hm', by omega, ?_⟩)
        rw [hsucc, if_neg (by rw [hb]; decide)]
        rfl
  · rintro ρ' α' ⟨es, x8, hi, rfl, hm, hl, rfl⟩
    rw [tabsD_len] at hl ⊢
    rw [List.take_length]
    exact h es x8 hm (by omega)
end
end

section
variable {P : Program} {w : World} {K : PySem.W.Frag} {mg : Str → Option Value} {base : Heap} {f : Addr} {fd : FuncData} {C fI : Addr} {fdI : FuncData}
open FM
theorem cd_reprBl {K : PySem.W.Frag} {α : Sto} {R : RE} {b : Bool} (hR : R (.str (PyData.bool b).shown) α) : CD K (rRepr K) [.bl b] α R := cd_repr (.bl b) rfl (by cases b <;> decide) (by cases b <;> decide) hR
theorem py_tabsT {α : Sto} (T : List (List Nat)) : Py α (.tup (tabsD T)) (.tuple (rowsP (T.map cst))) := by
  refine .tup ?_
  induction T with
  | nil => exact .nil
  | cons t T ih =>
    refine .cons ?_ ih
    show Py α (tabD t) (.tuple (intsP (cst t)))
    rw [tabD_eq]
    exact py_intsT _
theorem rows_rok {T : List (List Nat)} (h : ∀ t ∈ T, t.length ≤ 6 ∧ ∀ y ∈ t, y < 12) : roks (rowsP (T.map cst)) = true ∧ rws (rowsP (T.map cst)) ≤ 200 * T.length := by
  induction T with
  | nil => exact ⟨rfl, Nat.zero_le _⟩
  | cons t T ih =>
    obtain ⟨i1, i2⟩ := ih fun t ht => h t (by simp [ht])
    obtain ⟨h1, h2⟩ := h t (by simp)
    constructor
    · show (rok (.tuple (intsP (cst t))) && roks (rowsP (T.map cst))) = true
      rw [rok_cst h2 (by decide), i1]
      rfl
    · show DH.rw (.tuple (intsP (cst t))) + 2 + rws (rowsP (T.map cst)) ≤ _
      have : DH.rw (.tuple (intsP (cst t))) = 3 + 22 * t.length := by
        show 3 + rws (intsP (cst t)) = _
        rw [rws_ints]
        simp [cst]
      rw [this, List.length_cons]
      omega
theorem rows_dep (T : List (List Nat)) : PyData.depthAll (rowsP (T.map cst)) ≤ 1 := by
  induction T with
  | nil => exact Nat.zero_le _
  | cons t T ih =>
    show PyData.depthAll (.tuple (intsP (cst t)) :: rowsP (T.map cst)) ≤ 1
    simp only [PyData.depthAll, PyData.depth, dep_ints]
    omega
theorem cd_reprTabs {K : PySem.W.Frag} {α : Sto} {R : RE} {T : List (List Nat)} (h : ∀ t ∈ T, t.length ≤ 6 ∧ ∀ y ∈ t, y < 12) (hl : T.length ≤ 125) (hR : R (.str (PyData.tuple (rowsP (T.map cst))).shown) α) : CD K (rRepr K) [.tup (tabsD T)] α R := by
  obtain ⟨h1, h2⟩ := rows_rok h
  refine cd_repr (py_tabsT T) h1 ?_ ?_ hR
  · show 3 + rws (rowsP (T.map cst)) ≤ 1000000
    omega
  · have := rows_dep T
    simp only [PyData.depth]
    omega
section
variable {cdv : Value} {A : Around} {outer : List Env} {sh : Shared} {H : Hp} {E : XK} {P0 : Post} {n0 : Nat} {ns : List Int} {k n : Nat} {m : Rows}
theorem law_C (Z : Bl mg) (Zr : mg "repr" = none) (T : LawC P w K mg base C) (hrg : RoomG 8 (bodyX P w K mg base nLaw "law" sLaw f cdv A outer sh H E).A) {x2 y2 : Int} (hw : Wf n m) (h1 : 1 ≤ n) (h2 : n ≤ 5) (hs : Sound n m) {es0 : List (List Key × D)} (hm0 : Memo m es0) (hl0 : es0.length ≤ 300000) {x8 : Option D}
    (h : ∀ (es : List (List Key × D)), Memo m es → es.length ≤ 550000 → DSs (bodyX P w K mg base nLaw "law" sLaw f cdv A outer sh H E) n0 (lawB.drop 10) (slM C ns k m n (some (optD (o3 m n))) (some (optD (oB m n))) x8 none) [bx x2 y2, .td es] P0) : DSs (bodyX P w K mg base nLaw "law" sLaw f cdv A outer sh H E) n0 (lawB.drop 5) (slM C ns k m n (some (optD (o3 m n))) (some (optD (oB m n))) x8 none) [bx x2 y2, .td es0] P0 := by
  have nd : nLaw.Nodup := by decide +kernel
  have hr := hrg.r
  have h12 : n ≤ 12 := by omega
  have et := triO_opt hw hs
  have eb : bagD m n = optD (oB m n) := (find_bag hw hs).symm
  have ei := single_opt hw hs
  have tl := tris_len (m := m) h2
  have tk : ∀ t ∈ trisL m n, t.length ≤ 6 ∧ ∀ y ∈ t, y < 12 := fun t ht => by
    obtain ⟨a, b, c, rfl, ha, hb, hc, _⟩ := mem_tris.mp ht
    refine ⟨by simp, fun y hy => ?_⟩
    simp at hy
    omega
  refine dss_cons (ds_if (DT.imp (R := fun b α2 => b = false ∧ α2 = [bx x2 y2, .td es0]) ?_ ?_))
  · refine dt_w (dw_or (dt_cmp op_ne (nomark _) ?_))
    refine de_callB (call_reprD hrg) rfl Zr boot_repr (da_consF (de_callKw T.s3K hr rfl (dk_cons ?_)))
    walk_at "go"
    refine dk_nil ⟨m, n, rfl, hw, h12, ?_⟩
    rw [et]
    walk_at "go"
    refine cd_reprO (o3_ok h2) ?_
    refine de_callB (call_reprD hrg) rfl Zr boot_repr ?_
    walk_at "go"
    refine cd_reprO (o3_ok h2) ?_
    refine od_neS ⟨_, rfl, ?_⟩
    refine ifF (by simp) ?_
    refine dw_or1 (dt_cmp op_ne (nomark _) ?_)
    refine de_callB (call_reprD hrg) rfl Zr boot_repr (da_consF (de_callKw T.isK hr rfl (dk_cons ?_)))
    walk_at "go"
    refine dk_nil ⟨m, n, rfl, hw, h12, ?_⟩
    rw [ei]
    walk_at "go"
    refine cd_reprBl ?_
    refine de_callB (call_reprD hrg) rfl Zr boot_repr ?_
    walk_at "go"
    rw [optD_is]
    refine cd_reprBl ?_
    refine od_neS ⟨_, rfl, ?_⟩
    exact ⟨by simp, rfl⟩
  rintro _ _ ⟨rfl, rfl⟩
  refine ifF rfl (dss_nil ?_)
  refine dss_cons (ds_if (DT.imp (R := fun b α2 => b = false ∧ α2 = [bx x2 y2, .td es0]) ?_ ?_))
  · refine dt_cmp op_ne (nomark _) ?_
    refine de_callB (call_reprD hrg) rfl Zr boot_repr (da_consF (de_callKw T.bqK hr rfl (dk_cons ?_)))
    walk_at "go"
    refine dk_nil ⟨m, n, rfl, hw, h12, ?_⟩
    rw [eb]
    walk_at "go"
    refine cd_reprO (oB_ok h2) ?_
    refine de_callB (call_reprD hrg) rfl Zr boot_repr ?_
    walk_at "go"
    refine cd_reprO (oB_ok h2) ?_
    refine od_neS ⟨_, rfl, ?_⟩
    exact ⟨by simp, rfl⟩
  rintro _ _ ⟨rfl, rfl⟩
  refine ifF rfl (dss_nil ?_)
  refine dss_cons (ds_if (DT.imp (R := fun b α2 => b = false ∧ α2 = [bx x2 y2, .td es0]) ?_ ?_))
  · refine dt_cmp op_ne (nomark _) ?_
    refine de_callB (call_reprD hrg) rfl Zr boot_repr (da_consF (de_callKw T.htK hr rfl (dk_cons ?_)))
    walk_at "go"
    refine dk_nil ⟨m, n, rfl, hw, h12, ?_⟩
    rw [tris_D]
    walk_at "go"
    refine cd_reprTabs tk tl ?_
    refine de_callB (call_reprD hrg) rfl Zr boot_repr (da_consF (de_callTy call_tuple_of rfl Z.tuple boot_tuple (da_consF (de_call T.tri hr rfl ?_))))
    walk_at "go"
    refine ⟨m, n, rfl, hw, h2, ?_⟩
    walk_at "go"
    refine cd_tuple (ds := tabsD (trisL m n)) rfl ?_
    walk_at "go"
    refine cd_reprTabs tk tl ?_
    refine od_neS ⟨_, rfl, ?_⟩
    exact ⟨by simp, rfl⟩
  rintro _ _ ⟨rfl, rfl⟩
  refine ifF rfl (dss_nil ?_)
  refine dss_cons (ds_if (DT.imp (R := fun b α2 => b = false ∧ ∃ es, Memo m es ∧ es.length ≤ 550000 ∧ α2 = [bx x2 y2, .td es]) ?_ ?_))
  · refine dt_cmp op_ne (nomark _) ?_
    refine de_callKw T.mwK hr rfl (dk_cons ?_)
    walk_at "go"
    refine dk_nil ⟨m, n, rfl, hw, h12, ?_⟩
    refine de_call T.word hr rfl ?_
    walk_at "go"
    refine ⟨m, n, 1, es0, o3 m n, oB m n, rfl, hw, h2, rfl, hm0, by omega, fun es' hm' hl' => ?_⟩
    rw [word_is hw hs]
    refine od_neS ⟨_, rfl, ?_⟩
    exact ⟨by simp, es', hm', by omega, rfl⟩
  rintro _ _ ⟨rfl, es, hm, hl, rfl⟩
  refine ifF rfl (dss_nil ?_)
  refine dss_cons (ds_if (DT.imp (R := fun b α2 => b = false ∧ α2 = [bx x2 y2, .td es]) ?_ ?_))
  · refine dt_cmp (op_neD hr.units) (nomark _) ?_
    refine de_tup (da_consF (de_call T.bq hr rfl ?_))
    walk_at "go"
    refine ⟨m, n, rfl, hw, h12, ?_⟩
    rw [eb]
    refine da_consF (de_call T.isg hr rfl ?_)
    walk_at "go"
    refine ⟨m, n, rfl, hw, h12, ?_⟩
    rw [ei]
    refine da_consF (de_call T.s3 hr rfl ?_)
    walk_at "go"
    refine ⟨m, n, rfl, hw, h12, ?_⟩
    rw [et]
    walk_at "go"
    rw [optD_is]
    walk_at "go"
    refine od_neSelf (q := .tuple [optP (oB m n), .bool (o3 m n).isNone, optP (o3 m n)]) (.tup (.cons (py_opt _) (.cons (.bl _) (.cons (py_opt _) .nil)))) (.tup (.cons (py_opt _) (.cons (.bl _) (.cons (py_opt _) .nil)))) (sh_tri _ _ _) ⟨_, rfl, rfl, rfl⟩
  rintro _ _ ⟨rfl, rfl⟩
  refine ifF rfl (dss_nil ?_)
  exact h es hm hl
end
end

section
variable {P : Program} {w : World} {K : PySem.W.Frag} {mg : Str → Option Value} {base : Heap} {f : Addr} {fd : FuncData} {C fI : Addr} {fdI : FuncData}
open FM
theorem single_all {m : Rows} {n : Nat} (hw : Wf n m) (hs : Sound n m) (h : o3 m n = none) {q : List Nat} (hq : ∀ y ∈ q, y < n) : (ends (tab m) q).length = 1 := by
  have h3 : (L1 m n n).find? (unl m) = none := by
    unfold o3 at h
    rw [find_three hw hs] at h
    simpa using h
  exact len_one.mpr (one_all (ev_of hw hs (single_nobad hw h3)) (rl_eqM hw h3) hq)
theorem bag_all {m : Rows} {n : Nat} (hw : Wf n m) (hs : Sound n m) (h : oB m n = none) {q : List Nat} (hq : ∀ y ∈ q, y < n) : One (tab m) (fun q r => q.Perm r) q := by
  obtain ⟨hb, R⟩ := bag_none hw hs h
  exact one_all (ev_of hw hs hb) R hq
section
variable {cdv : Value} {A : Around} {outer : List Env} {sh : Shared} {H : Hp} {E : XK} {P0 : Post} {n0 : Nat} {ns : List Int} {k n : Nat} {m : Rows}
theorem law_D (Z : Bl mg) (T : LawC P w K mg base C) (hrg : RoomG 8 (bodyX P w K mg base nLaw "law" sLaw f cdv A outer sh H E).A) {x2 y2 : Int} (hx2 : 0 ≤ x2) (hw : Wf n m) (h1 : 1 ≤ n) (h2 : n ≤ 5) (hs : Sound n m) {es0 : List (List Key × D)} (hm0 : Memo m es0) (hl0 : es0.length ≤ 550000) {x8 : Option D}
    (h : ∀ (x y : Int) (es : List (List Key × D)) (x8 x9 : Option D), 0 ≤ x → Memo m es → DSs (bodyX P w K mg base nLaw "law" sLaw f cdv A outer sh H E) n0 [] (slM C ns k m n (some (optD (o3 m n))) (some (optD (oB m n))) x8 x9) [bx x y, .td es] P0) : DSs (bodyX P w K mg base nLaw "law" sLaw f cdv A outer sh H E) n0 (lawB.drop 10) (slM C ns k m n (some (optD (o3 m n))) (some (optD (oB m n))) x8 none) [bx x2 y2, .td es0] P0 := by
  have nd : nLaw.Nodup := by decide +kernel
  have hr := hrg.r
  have h12 : n ≤ 12 := by omega
  have hb6 : bud 6 = 326 := by decide
  refine dss_cons (ds_for PassesOwn.never rfl (di_range1 Z.range ?_))
  walk_at "go"
  refine ⟨by decide, by decide, fun j ρ' α' => ∃ x y es x8 x9, 0 ≤ x ∧ α' = [bx x y, .td es] ∧ Memo m es ∧ es.length ≤ 550000 + j * 652 ∧ ρ' = slM C ns k m n (some (optD (o3 m n))) (some (optD (oB m n))) x8 x9, ⟨x2, y2, es0, x8, none, hx2, rfl, hm0, by omega, rfl⟩, fun _ _ _ _ => trivial, ?_, ?_⟩
  · rintro j y1 ρ' α' hy ⟨x, y, es, x8, x9, hx, rfl, hmem, hes, rfl⟩
    obtain ⟨hj, rfl⟩ := rgD_ix hy
    have hj8 : j < 8 := by simpa using hj
    refine dg_name 9 nd ?_
    refine dss_cons (ds_set 8 nd ?_)
    refine de_callTy call_tuple_of rfl Z.tuple boot_tuple (da_cons ?_)
    refine de_lcT (own := [("_law_at", 10)]) (.nm 10) rfl nd (blkOk_by (N := nLaw) (sc := defScope sLaw) (by decide +kernel)) (by decide) (fun _ _ _ _ _ => pg_name (i := 10) nd rfl (Or.inl rfl)) (fun hna2 => ?_)
    refine di_range1 Z.range (de_call T.pick hr rfl ?_)
    walk_at "goL"
    refine ⟨x, y, [.td es], _, [.int 5, .int 6, .int 5], rfl, rfl, hx, fun c => rfl, by decide, by decide, fun x1 y1 e hx1 he => ?_⟩
    obtain ⟨l, rfl, hl6⟩ : ∃ l : Nat, e = .int (l : Nat) ∧ l ≤ 6 := by
      simp at he
      rcases he with rfl | rfl | rfl
      · exact ⟨5, rfl, by decide⟩
      · exact ⟨6, rfl, by decide⟩
      · exact ⟨5, rfl, by decide⟩
    refine ⟨l, rfl, by omega, by omega, fun i α' zs => ∃ x y q, 0 ≤ x ∧ α' = [bx x y, .td es] ∧ zs = intsD q ∧ q.length = i ∧ ∀ s ∈ q, s < n, ⟨x1, y1, [], hx1, rfl, rfl, rfl, fun s hs => by simp at hs⟩, by rw [rgD_len]; omega, ?_, ?_, ?_⟩
    · rintro i α' zs ⟨x, y, q, hx, rfl, rfl, rfl, ht⟩
      exact ⟨rfl, by simp [intsD], trivial⟩
    · rintro i y1 α' zs hy ⟨x, y, q, hx, rfl, rfl, rfl, ht⟩
      refine ⟨_, rfl, fun s' H C cl fp => dts_nil ⟨_, rfl, rfl, ifT rfl ?_⟩⟩
      intro s' H C cl fp
      refine de_call T.take hr rfl ?_
      walk_at "go"
      refine cd_len rfl ?_
      rw [List.length_map, hw.len]
      walk_at "go"
      refine ⟨x, y, _, _, rfl, rfl, hx, by omega, by omega, fun xb yb b hxb b1 b2 => ?_⟩
      obtain ⟨b, rfl⟩ := nat_of (x := b) (by omega) (by omega)
      refine ⟨[bx xb yb, .td es], rfl, rfl, xb, yb, q ++ [b], hxb, rfl, by rw [intsD_app]; rfl, by simp, fun z hz => ?_⟩
      rcases List.mem_append.mp hz with hz | hz
      · exact ht z hz
      · simp at hz; omega
    · rintro α' zs ⟨x, y, q, hx, rfl, rfl, hql, hq⟩
      rw [rgD_len] at hql
      refine ⟨Nat.le_refl _, fun c hc => ?_, nas_intsD _ _, ?_⟩
      · simp at hc
        rcases hc with rfl | rfl
        · rfl
        · exact hmem.na _
      walk_at "go"
      refine cd_tuple rfl ?_
      refine dss_cons (ds_if (DT.imp (R := fun b α2 => b = false ∧ ∃ es', Memo m es' ∧ es'.length ≤ es.length + 326 ∧ α2 = [bx x y, .td es']) ?_ ?_))
      · refine dt_w (dw_and (dt_cmp op_isN (nomark _) ?_))
        walk_at "go"
        rw [optD_is]
        cases ho : o3 m n with
        | some q0 =>
          refine ifF rfl ?_
          exact ⟨rfl, es, hmem, by omega, rfl⟩
        | none =>
          refine ifT rfl ?_
          refine dw_and1 (dt_cmp (op_neD hr.units) (nomark _) ?_)
          walk_at "go"
          refine de_call T.ends hr rfl ?_
          walk_at "go"
          refine ⟨m, n, q, 1, es, rfl, hw, hq, by omega, rfl, hmem, by rw [hb6]; omega, fun es' hm' hl' => ?_⟩
          rw [hb6] at hl'
          walk_at "go"
          refine cd_len rfl ?_
          walk_at "go"
          rw [tabsD_len, single_all hw hs ho hq]
          exact ⟨by decide, es', hm', hl', rfl⟩
      rintro _ _ ⟨rfl, es', hm', hl', rfl⟩
      refine ifF rfl (dss_nil ?_)
      refine dss_cons (ds_if (DT.imp (R := fun b α2 => b = false ∧ ∃ es2, Memo m es2 ∧ es2.length ≤ es'.length + 326 ∧ α2 = [bx x y, .td es2]) ?_ ?_))
      · refine dt_w (dw_and (dt_cmp op_isN (nomark _) ?_))
        walk_at "go"
        rw [optD_is]
        cases ho : oB m n with
        | some q0 =>
          refine ifF rfl ?_
          exact ⟨rfl, es', hm', by omega, rfl⟩
        | none =>
          refine ifT rfl ?_
          have ba := bag_all hw hs ho hq
          have hfew := ends_few (q := q) (by omega) ba
          refine dw_and1 (dt_cmp (op_neD hr.units) (nomark _) ?_)
          walk_at "go"
          refine de_call T.bags hr rfl ?_
          walk_at "go"
          refine ⟨m, n, q, 1, es', rfl, hw, hq, by omega, rfl, hm', by omega, by omega, fun es2 T' hm2 hl2 hn hT => ?_⟩
          walk_at "go"
          refine cd_len rfl ?_
          walk_at "go"
          rw [tabsD_len, (bags_len hn hT).2 (qb_iff.mpr ba)]
          exact ⟨by decide, es2, hm2, hl2, rfl⟩
      rintro _ _ ⟨rfl, es2, hm2, hl2, rfl⟩
      refine ifF rfl (dss_nil ?_)
      exact dss_nil ⟨x, y, es2, _, _, hx, rfl, hm2, by omega, rfl⟩
  · rintro ρ' α' ⟨x, y, es, x8, x9, hx, rfl, hmem, hes, rfl⟩
    exact h x y es x8 x9 hx hmem
end
end

section
variable {P : Program} {w : World} {K : PySem.W.Frag} {mg : Str → Option Value} {base : Heap} {f : Addr} {fd : FuncData} {C fI : Addr} {fdI : FuncData}
open FM
theorem keep17 {α : Sto} {ns : List Int} {x1 x2 x3 x4 x5 x6 x7 x8 x9 x10 : Option D} : SlR 0 α [some (.fix (ns.map D.int)), x1, x2, x3, x4, x5, x6, x7, x8, x9, x10] [some (.fix (ns.map D.int)), none, none, none, none, none, none, none, none, none, none] :=
  .keep (Seal.of (by simp only [D.na]; exact nas_ints _)) (.any (.any (.any (.any (.any (.any (.any (.any (.any (.any .nil))))))))))
theorem fn_law (F : Fun K "law" "law" sLaw f fd) (Z : Bl mg) (Zr : mg "repr" = none) (Mm : MC K C) (T : LawC P w K mg base C) (M : Mk K C fI) (FI : FnOk P w K mg base CX0 4 fI fdI ["self", "rows"] (SpD K (SInit C))) (hm : mg "Merger" = some (.ref C)) (hb0 : Binds K fdI ["self", "rows"] []) : FnG P w K mg base CX0 9 f fd ["_law_script"] (SpD K SLaw) := by
  refine fn_defG F scLaw (fun ds α R h => by obtain ⟨ns, rfl, _⟩ := h; rfl) (fun cdv A outer sh H E hrg ds α R h hna hnd => ?_)
  obtain ⟨ns, rfl, rfl, hl, h⟩ := h
  have nd : nLaw.Nodup := by decide +kernel
  have hr := hrg.r
  have hr5 := hr.mono (j := 5) (by decide)
  refine dss_cons (ds_for PassesOwn.never rfl (di_range1 Z.range ?_))
  walk_at "go"
  refine ⟨by decide, by decide, fun k ρ' α' => α' = [] ∧ ρ' = [some (.fix (ns.map D.int)), none, none, none, none, none, none, none, none, none, none], ⟨rfl, rfl⟩, fun _ _ _ _ => trivial, ?_, ?_⟩
  · rintro k y ρ' α' hy ⟨rfl, rfl⟩
    obtain ⟨hk, rfl⟩ := rgD_ix hy
    have hk2 : k < 2 := by simpa using hk
    refine dg_name 1 nd ?_
    refine dss_cons (ds_set 2 nd (de_call T.box hr rfl ?_))
    walk_at "go"
    refine ⟨ns, k, rfl, by omega, by omega, fun x y hx => ?_⟩
    refine dss_cons (ds_set 3 nd (de_call T.few hr rfl (da_consF (de_call T.rows hr rfl ?_))))
    walk_at "go"
    refine ⟨x, y, [], rfl, rfl, hx, fun x1 y1 m n hx1 hw h1 h2 hs => ?_⟩
    walk_at "go"
    refine ⟨x1, y1, [], m, n, rfl, rfl, hx1, hw, h1, h2, hs, fun x2 y2 m n hx2 hw h1 h2 hs => ?_⟩
    have h12 : n ≤ 12 := by omega
    refine dss_cons (ds_asg ?_)
    refine de_tup ?_
    refine da_consF (de_merger M FI hr5 hm hb0 ?_)
    walk_at "go"
    refine ⟨m, n, rfl, hw, h1, h12, hs, rfl, ?_⟩
    refine da_cons (de_td0 ?_)
    walk_at "go"
    refine dg_tup rfl rfl (dgs_cons (dg_name 4 nd (dgs_cons (dg_name 5 nd (dgs_cons (dg_name 6 nd (dgs_cons (dg_name 7 nd (dgs_nil ?_)))))))))
    show DSs _ _ _ _ _ _
    refine law_A Z T hrg hw h1 h2 fun es1 x8 hm1 hl1 => ?_
    refine law_B Z T hrg hw h1 h2 hm1 hl1 fun es2 x8 hm2 hl2 => ?_
    refine law_C Z Zr T hrg hw h1 h2 hs hm2 hl2 fun es3 hm3 hl3 => ?_
    refine law_D Z T hrg hx2 hw h1 h2 hs hm3 hl3 fun x5 y5 es4 x8 x9 hx5 hm4 => ?_
    exact dss_seal (α := []) (β := [bx x5 y5, .td es4]) (ρ' := [some (.fix (ns.map D.int)), none, none, none, none, none, none, none, none, none, none]) (Nat.le_refl _) (fun c hc => by simp at hc) keep17 (dss_nil ⟨rfl, rfl⟩)
  · rintro ρ' α' ⟨rfl, rfl⟩
    refine dss_cons (ds_ret ?_)
    walk_at "go"
    exact h
end

section
theorem all_mk {l : PySem.W.OpenLaw} {w : World} {K : PySem.W.Frag} {h : Heap} {mg : Str → Option Value} {fa C f_d0 f_d1 f_d2 f_d3 f_d4 f_d5 f_d6 f_d7 f_d8 f_d9 f_d10 f_d11 f_d12 f_d13 f_d14 f_d15 f_d16 f_d17 f_d18 f_d19 f_d20 f_d21 f_d22 f_d23 f_d24 f_d25 f_d26 f_d27 f_d28 f_d29 f_d30 f_d31 f_d32 f_d33 f_d34 f_dI f_dL : Addr} (X : K.In h) (G : h.Ns mainGlobals mg) (hfa : mg "law" = some (.ref fa))
    {od_d0 an_d0 od_d1 an_d1 od_d2 an_d2 od_d3 an_d3 od_d4 an_d4 od_d5 an_d5 od_d6 an_d6 od_d7 an_d7 od_d8 an_d8 od_d9 an_d9 od_d10 an_d10 od_d11 an_d11 od_d12 an_d12 od_d13 an_d13 od_d14 an_d14 od_d15 an_d15 od_d16 an_d16 od_d17 an_d17 od_d18 an_d18 od_d19 an_d19 od_d20 an_d20 od_d21 an_d21 od_d22 an_d22 od_d23 an_d23 od_d24 an_d24 od_d25 an_d25 od_d26 an_d26 od_d27 an_d27 od_d28 an_d28 od_d29 an_d29 od_d30 an_d30 od_d31 an_d31 od_d32 an_d32 od_d33 an_d33 od_d34 an_d34 od_dI an_dI od_dL an_dL : Option Addr}
    {sl_d0 sl_d1 sl_d2 sl_d3 sl_d4 sl_d5 sl_d6 sl_d7 sl_d8 sl_d9 sl_d10 sl_d11 sl_d12 sl_d13 sl_d14 sl_d15 sl_d16 sl_d17 sl_d18 sl_d19 sl_d20 sl_d21 sl_d22 sl_d23 sl_d24 sl_d25 sl_d26 sl_d27 sl_d28 sl_d29 sl_d30 sl_d31 sl_d32 sl_d33 sl_d34 sl_dI sl_dL : Array (Option Value)} {t0 t1 t2 t3 t4 : Tok}
    {oc_d0 kV_d0 dc_d0 pm_d0 cd_d0 ct_d0 oc_d1 kV_d1 dc_d1 pm_d1 cd_d1 ct_d1 oc_d2 kV_d2 dc_d2 pm_d2 cd_d2 ct_d2 oc_d3 kV_d3 dc_d3 pm_d3 cd_d3 ct_d3 oc_d4 kV_d4 dc_d4 pm_d4 cd_d4 ct_d4 oc_d5 kV_d5 dc_d5 pm_d5 cd_d5 ct_d5 oc_d6 kV_d6 dc_d6 pm_d6 cd_d6 ct_d6 oc_d7 kV_d7 dc_d7 pm_d7 cd_d7 ct_d7 oc_d8 kV_d8 dc_d8 pm_d8 cd_d8 ct_d8 oc_d9 kV_d9 dc_d9 pm_d9 cd_d9 ct_d9 oc_d10 kV_d10 dc_d10 pm_d10 cd_d10 ct_d10 oc_d11 kV_d11 dc_d11 pm_d11 cd_d11 ct_d11 oc_d12 kV_d12 dc_d12 pm_d12 cd_d12 ct_d12 oc_d13 kV_d13 dc_d13 pm_d13 cd_d13 ct_d13 oc_d14 kV_d14 dc_d14 pm_d14 cd_d14 ct_d14 oc_d15 kV_d15 dc_d15 pm_d15 cd_d15 ct_d15 oc_d16 kV_d16 dc_d16 pm_d16 cd_d16 ct_d16 oc_d17 kV_d17 dc_d17 pm_d17 cd_d17 ct_d17 oc_d18 kV_d18 dc_d18 pm_d18 cd_d18 ct_d18 oc_d19 kV_d19 dc_d19 pm_d19 cd_d19 ct_d19 oc_d20 kV_d20 dc_d20 pm_d20 cd_d20 ct_d20 oc_d21 kV_d21 dc_d21 pm_d21 cd_d21 ct_d21 oc_d22 kV_d22 dc_d22 pm_d22 cd_d22 ct_d22 oc_d23 kV_d23 dc_d23 pm_d23 cd_d23 ct_d23 oc_d24 kV_d24 dc_d24 pm_d24 cd_d24 ct_d24 oc_d25 kV_d25 dc_d25 pm_d25 cd_d25 ct_d25 oc_d26 kV_d26 dc_d26 pm_d26 cd_d26 ct_d26 oc_d27 kV_d27 dc_d27 pm_d27 cd_d27 ct_d27 oc_d28 kV_d28 dc_d28 pm_d28 cd_d28 ct_d28 oc_d29 kV_d29 dc_d29 pm_d29 cd_d29 ct_d29 oc_d30 kV_d30 dc_d30 pm_d30 cd_d30 ct_d30 oc_d31 kV_d31 dc_d31 pm_d31 cd_d31 ct_d31 oc_d32 kV_d32 dc_d32 pm_d32 cd_d32 ct_d32 oc_d33 kV_d33 dc_d33 pm_d33 cd_d33 ct_d33 oc_d34 kV_d34 dc_d34 pm_d34 cd_d34 ct_d34 oc_dI kV_dI dc_dI pm_dI cd_dI ct_dI oc_dL kV_dL dc_dL pm_dL cd_dL ct_dL : Value}
    (aC : PySem.W.nsIn K mainGlobals "Merger" = some (some (.ref C)))
    (a_d0 : PySem.W.nsIn K mainGlobals "_law_box" = some (some (.ref f_d0)))
    (l_d0 : K.lookup f_d0 = some ⟨oc_d0, od_d0, .func (PySem.W.fnOf "_law_box" "_law_box" (defArgs sBox) (defBody sBox) (defScope sBox) .none kV_d0 dc_d0 pm_d0 an_d0 cd_d0 ct_d0), sl_d0⟩) (c_d0 : PySem.W.codeIn K cd_d0 "_law_box" = true) (k_d0 : PySem.W.keepIn K (.ref f_d0) = true)
    (a_d1 : PySem.W.nsIn K mainGlobals "_law_take" = some (some (.ref f_d1)))
    (l_d1 : K.lookup f_d1 = some ⟨oc_d1, od_d1, .func (PySem.W.fnOf "_law_take" "_law_take" (defArgs sTake) (defBody sTake) (defScope sTake) .none kV_d1 dc_d1 pm_d1 an_d1 cd_d1 ct_d1), sl_d1⟩) (c_d1 : PySem.W.codeIn K cd_d1 "_law_take" = true) (k_d1 : PySem.W.keepIn K (.ref f_d1) = true)
    (a_d2 : PySem.W.nsIn K mainGlobals "_law_pick" = some (some (.ref f_d2)))
    (l_d2 : K.lookup f_d2 = some ⟨oc_d2, od_d2, .func (PySem.W.fnOf "_law_pick" "_law_pick" (defArgs sPick) (defBody sPick) (defScope sPick) .none kV_d2 dc_d2 pm_d2 an_d2 cd_d2 ct_d2), sl_d2⟩) (c_d2 : PySem.W.codeIn K cd_d2 "_law_pick" = true) (k_d2 : PySem.W.keepIn K (.ref f_d2) = true)
    (a_d3 : PySem.W.nsIn K mainGlobals "_law_meet" = some (some (.ref f_d3)))
    (l_d3 : K.lookup f_d3 = some ⟨oc_d3, od_d3, .func (PySem.W.fnOf "_law_meet" "_law_meet" (defArgs sMeet) (defBody sMeet) (defScope sMeet) .none kV_d3 dc_d3 pm_d3 an_d3 cd_d3 ct_d3), sl_d3⟩) (c_d3 : PySem.W.codeIn K cd_d3 "_law_meet" = true) (k_d3 : PySem.W.keepIn K (.ref f_d3) = true)
    (a_d4 : PySem.W.nsIn K mainGlobals "_law_unsound" = some (some (.ref f_d4)))
    (l_d4 : K.lookup f_d4 = some ⟨oc_d4, od_d4, .func (PySem.W.fnOf "_law_unsound" "_law_unsound" (defArgs sUnsound) (defBody sUnsound) (defScope sUnsound) .none kV_d4 dc_d4 pm_d4 an_d4 cd_d4 ct_d4), sl_d4⟩) (c_d4 : PySem.W.codeIn K cd_d4 "_law_unsound" = true) (k_d4 : PySem.W.keepIn K (.ref f_d4) = true)
    (a_d5 : PySem.W.nsIn K mainGlobals "_law_sparse" = some (some (.ref f_d5)))
    (l_d5 : K.lookup f_d5 = some ⟨oc_d5, od_d5, .func (PySem.W.fnOf "_law_sparse" "_law_sparse" (defArgs sSparse) (defBody sSparse) (defScope sSparse) .none kV_d5 dc_d5 pm_d5 an_d5 cd_d5 ct_d5), sl_d5⟩) (c_d5 : PySem.W.codeIn K cd_d5 "_law_sparse" = true) (k_d5 : PySem.W.keepIn K (.ref f_d5) = true)
    (a_d6 : PySem.W.nsIn K mainGlobals "_law_done" = some (some (.ref f_d6)))
    (l_d6 : K.lookup f_d6 = some ⟨oc_d6, od_d6, .func (PySem.W.fnOf "_law_done" "_law_done" (defArgs sDone) (defBody sDone) (defScope sDone) .none kV_d6 dc_d6 pm_d6 an_d6 cd_d6 ct_d6), sl_d6⟩) (c_d6 : PySem.W.codeIn K cd_d6 "_law_done" = true) (k_d6 : PySem.W.keepIn K (.ref f_d6) = true)
    (a_d7 : PySem.W.nsIn K mainGlobals "_law_of_machine" = some (some (.ref f_d7)))
    (l_d7 : K.lookup f_d7 = some ⟨oc_d7, od_d7, .func (PySem.W.fnOf "_law_of_machine" "_law_of_machine" (defArgs sOfMachine) (defBody sOfMachine) (defScope sOfMachine) .none kV_d7 dc_d7 pm_d7 an_d7 cd_d7 ct_d7), sl_d7⟩) (c_d7 : PySem.W.codeIn K cd_d7 "_law_of_machine" = true) (k_d7 : PySem.W.keepIn K (.ref f_d7) = true)
    (a_d8 : PySem.W.nsIn K mainGlobals "_law_tables" = some (some (.ref f_d8)))
    (l_d8 : K.lookup f_d8 = some ⟨oc_d8, od_d8, .func (PySem.W.fnOf "_law_tables" "_law_tables" (defArgs sTables) (defBody sTables) (defScope sTables) .none kV_d8 dc_d8 pm_d8 an_d8 cd_d8 ct_d8), sl_d8⟩) (c_d8 : PySem.W.codeIn K cd_d8 "_law_tables" = true) (k_d8 : PySem.W.keepIn K (.ref f_d8) = true)
    (a_d9 : PySem.W.nsIn K mainGlobals "_law_special" = some (some (.ref f_d9)))
    (l_d9 : K.lookup f_d9 = some ⟨oc_d9, od_d9, .func (PySem.W.fnOf "_law_special" "_law_special" (defArgs sSpecial) (defBody sSpecial) (defScope sSpecial) .none kV_d9 dc_d9 pm_d9 an_d9 cd_d9 ct_d9), sl_d9⟩) (c_d9 : PySem.W.codeIn K cd_d9 "_law_special" = true) (k_d9 : PySem.W.keepIn K (.ref f_d9) = true)
    (a_d10 : PySem.W.nsIn K mainGlobals "_law_carry" = some (some (.ref f_d10)))
    (l_d10 : K.lookup f_d10 = some ⟨oc_d10, od_d10, .func (PySem.W.fnOf "_law_carry" "_law_carry" (defArgs sCarry) (defBody sCarry) (defScope sCarry) .none kV_d10 dc_d10 pm_d10 an_d10 cd_d10 ct_d10), sl_d10⟩) (c_d10 : PySem.W.codeIn K cd_d10 "_law_carry" = true) (k_d10 : PySem.W.keepIn K (.ref f_d10) = true)
    (a_d11 : PySem.W.nsIn K mainGlobals "_law_rows" = some (some (.ref f_d11)))
    (l_d11 : K.lookup f_d11 = some ⟨oc_d11, od_d11, .func (PySem.W.fnOf "_law_rows" "_law_rows" (defArgs sRows) (defBody sRows) (defScope sRows) .none kV_d11 dc_d11 pm_d11 an_d11 cd_d11 ct_d11), sl_d11⟩) (c_d11 : PySem.W.codeIn K cd_d11 "_law_rows" = true) (k_d11 : PySem.W.keepIn K (.ref f_d11) = true)
    (a_d12 : PySem.W.nsIn K mainGlobals "_law_kept" = some (some (.ref f_d12)))
    (l_d12 : K.lookup f_d12 = some ⟨oc_d12, od_d12, .func (PySem.W.fnOf "_law_kept" "_law_kept" (defArgs s_kept) (defBody s_kept) (defScope s_kept) .none kV_d12 dc_d12 pm_d12 an_d12 cd_d12 ct_d12), sl_d12⟩) (c_d12 : PySem.W.codeIn K cd_d12 "_law_kept" = true) (k_d12 : PySem.W.keepIn K (.ref f_d12) = true)
    (a_d13 : PySem.W.nsIn K mainGlobals "_law_few" = some (some (.ref f_d13)))
    (l_d13 : K.lookup f_d13 = some ⟨oc_d13, od_d13, .func (PySem.W.fnOf "_law_few" "_law_few" (defArgs s_few) (defBody s_few) (defScope s_few) .none kV_d13 dc_d13 pm_d13 an_d13 cd_d13 ct_d13), sl_d13⟩) (c_d13 : PySem.W.codeIn K cd_d13 "_law_few" = true) (k_d13 : PySem.W.keepIn K (.ref f_d13) = true)
    (a_d14 : PySem.W.nsIn K mainGlobals "_law_queues" = some (some (.ref f_d14)))
    (l_d14 : K.lookup f_d14 = some ⟨oc_d14, od_d14, .func (PySem.W.fnOf "_law_queues" "_law_queues" (defArgs s_queues) (defBody s_queues) (defScope s_queues) .none kV_d14 dc_d14 pm_d14 an_d14 cd_d14 ct_d14), sl_d14⟩) (c_d14 : PySem.W.codeIn K cd_d14 "_law_queues" = true) (k_d14 : PySem.W.keepIn K (.ref f_d14) = true)
    (a_d15 : PySem.W.nsIn K mainGlobals "_law_ends" = some (some (.ref f_d15)))
    (l_d15 : K.lookup f_d15 = some ⟨oc_d15, od_d15, .func (PySem.W.fnOf "_law_ends" "_law_ends" (defArgs s_ends) (defBody s_ends) (defScope s_ends) .none kV_d15 dc_d15 pm_d15 an_d15 cd_d15 ct_d15), sl_d15⟩) (c_d15 : PySem.W.codeIn K cd_d15 "_law_ends" = true) (k_d15 : PySem.W.keepIn K (.ref f_d15) = true)
    (a_d16 : PySem.W.nsIn K mainGlobals "_law_bags" = some (some (.ref f_d16)))
    (l_d16 : K.lookup f_d16 = some ⟨oc_d16, od_d16, .func (PySem.W.fnOf "_law_bags" "_law_bags" (defArgs sBags17) (defBody sBags17) (defScope sBags17) .none kV_d16 dc_d16 pm_d16 an_d16 cd_d16 ct_d16), sl_d16⟩) (c_d16 : PySem.W.codeIn K cd_d16 "_law_bags" = true) (k_d16 : PySem.W.keepIn K (.ref f_d16) = true)
    (a_d17 : PySem.W.nsIn K mainGlobals "_law_triples" = some (some (.ref f_d17)))
    (l_d17 : K.lookup f_d17 = some ⟨oc_d17, od_d17, .func (PySem.W.fnOf "_law_triples" "_law_triples" (defArgs sTri17) (defBody sTri17) (defScope sTri17) .none kV_d17 dc_d17 pm_d17 an_d17 cd_d17 ct_d17), sl_d17⟩) (c_d17 : PySem.W.codeIn K cd_d17 "_law_triples" = true) (k_d17 : PySem.W.keepIn K (.ref f_d17) = true)
    (a_d18 : PySem.W.nsIn K mainGlobals "_law_word" = some (some (.ref f_d18)))
    (l_d18 : K.lookup f_d18 = some ⟨oc_d18, od_d18, .func (PySem.W.fnOf "_law_word" "_law_word" (defArgs sWord17) (defBody sWord17) (defScope sWord17) .none kV_d18 dc_d18 pm_d18 an_d18 cd_d18 ct_d18), sl_d18⟩) (c_d18 : PySem.W.codeIn K cd_d18 "_law_word" = true) (k_d18 : PySem.W.keepIn K (.ref f_d18) = true)
    (a_d19 : PySem.W.nsIn K mainGlobals "hand_triples" = some (some (.ref f_d19)))
    (l_d19 : K.lookup f_d19 = some ⟨oc_d19, od_d19, .func (PySem.W.fnOf "hand_triples" "hand_triples" (defArgs sHandTriples) (defBody sHandTriples) (defScope sHandTriples) .none kV_d19 dc_d19 pm_d19 an_d19 cd_d19 ct_d19), sl_d19⟩) (c_d19 : PySem.W.codeIn K cd_d19 "hand_triples" = true) (k_d19 : PySem.W.keepIn K (.ref f_d19) = true)
    (a_d20 : PySem.W.nsIn K mainGlobals "single_three" = some (some (.ref f_d20)))
    (l_d20 : K.lookup f_d20 = some ⟨oc_d20, od_d20, .func (PySem.W.fnOf "single_three" "single_three" (defArgs sSingleThree) (defBody sSingleThree) (defScope sSingleThree) .none kV_d20 dc_d20 pm_d20 an_d20 cd_d20 ct_d20), sl_d20⟩) (c_d20 : PySem.W.codeIn K cd_d20 "single_three" = true) (k_d20 : PySem.W.keepIn K (.ref f_d20) = true)
    (a_d21 : PySem.W.nsIn K mainGlobals "is_single" = some (some (.ref f_d21)))
    (l_d21 : K.lookup f_d21 = some ⟨oc_d21, od_d21, .func (PySem.W.fnOf "is_single" "is_single" (defArgs sIsSingle) (defBody sIsSingle) (defScope sIsSingle) .none kV_d21 dc_d21 pm_d21 an_d21 cd_d21 ct_d21), sl_d21⟩) (c_d21 : PySem.W.codeIn K cd_d21 "is_single" = true) (k_d21 : PySem.W.keepIn K (.ref f_d21) = true)
    (a_d22 : PySem.W.nsIn K mainGlobals "is_hand" = some (some (.ref f_d22)))
    (l_d22 : K.lookup f_d22 = some ⟨oc_d22, od_d22, .func (PySem.W.fnOf "is_hand" "is_hand" (defArgs sIsHand) (defBody sIsHand) (defScope sIsHand) .none kV_d22 dc_d22 pm_d22 an_d22 cd_d22 ct_d22), sl_d22⟩) (c_d22 : PySem.W.codeIn K cd_d22 "is_hand" = true) (k_d22 : PySem.W.keepIn K (.ref f_d22) = true)
    (a_d23 : PySem.W.nsIn K mainGlobals "kind_of_four" = some (some (.ref f_d23)))
    (l_d23 : K.lookup f_d23 = some ⟨oc_d23, od_d23, .func (PySem.W.fnOf "kind_of_four" "kind_of_four" (defArgs sKindOfFour) (defBody sKindOfFour) (defScope sKindOfFour) .none kV_d23 dc_d23 pm_d23 an_d23 cd_d23 ct_d23), sl_d23⟩) (c_d23 : PySem.W.codeIn K cd_d23 "kind_of_four" = true) (k_d23 : PySem.W.keepIn K (.ref f_d23) = true)
    (a_d24 : PySem.W.nsIn K mainGlobals "uneven_fours" = some (some (.ref f_d24)))
    (l_d24 : K.lookup f_d24 = some ⟨oc_d24, od_d24, .func (PySem.W.fnOf "uneven_fours" "uneven_fours" (defArgs sUnevenFours) (defBody sUnevenFours) (defScope sUnevenFours) .none kV_d24 dc_d24 pm_d24 an_d24 cd_d24 ct_d24), sl_d24⟩) (c_d24 : PySem.W.codeIn K cd_d24 "uneven_fours" = true) (k_d24 : PySem.W.keepIn K (.ref f_d24) = true)
    (a_d25 : PySem.W.nsIn K mainGlobals "uneven_four" = some (some (.ref f_d25)))
    (l_d25 : K.lookup f_d25 = some ⟨oc_d25, od_d25, .func (PySem.W.fnOf "uneven_four" "uneven_four" (defArgs sUnevenFour) (defBody sUnevenFour) (defScope sUnevenFour) .none kV_d25 dc_d25 pm_d25 an_d25 cd_d25 ct_d25), sl_d25⟩) (c_d25 : PySem.W.codeIn K cd_d25 "uneven_four" = true) (k_d25 : PySem.W.keepIn K (.ref f_d25) = true)
    (a_d26 : PySem.W.nsIn K mainGlobals "bag_queue" = some (some (.ref f_d26)))
    (l_d26 : K.lookup f_d26 = some ⟨oc_d26, od_d26, .func (PySem.W.fnOf "bag_queue" "bag_queue" (defArgs sBagQueue) (defBody sBagQueue) (defScope sBagQueue) .none kV_d26 dc_d26 pm_d26 an_d26 cd_d26 ct_d26), sl_d26⟩) (c_d26 : PySem.W.codeIn K cd_d26 "bag_queue" = true) (k_d26 : PySem.W.keepIn K (.ref f_d26) = true)
    (a_d27 : PySem.W.nsIn K mainGlobals "is_even" = some (some (.ref f_d27)))
    (l_d27 : K.lookup f_d27 = some ⟨oc_d27, od_d27, .func (PySem.W.fnOf "is_even" "is_even" (defArgs sIsEven) (defBody sIsEven) (defScope sIsEven) .none kV_d27 dc_d27 pm_d27 an_d27 cd_d27 ct_d27), sl_d27⟩) (c_d27 : PySem.W.codeIn K cd_d27 "is_even" = true) (k_d27 : PySem.W.keepIn K (.ref f_d27) = true)
    (a_d28 : PySem.W.nsIn K mainGlobals "merger_word" = some (some (.ref f_d28)))
    (l_d28 : K.lookup f_d28 = some ⟨oc_d28, od_d28, .func (PySem.W.fnOf "merger_word" "merger_word" (defArgs sMergerWord) (defBody sMergerWord) (defScope sMergerWord) .none kV_d28 dc_d28 pm_d28 an_d28 cd_d28 ct_d28), sl_d28⟩) (c_d28 : PySem.W.codeIn K cd_d28 "merger_word" = true) (k_d28 : PySem.W.keepIn K (.ref f_d28) = true)
    (a_d29 : PySem.W.nsIn K mainGlobals "is_sequence" = some (some (.ref f_d29)))
    (l_d29 : K.lookup f_d29 = some ⟨oc_d29, od_d29, .func (PySem.W.fnOf "is_sequence" "is_sequence" (defArgs sIsSequence) (defBody sIsSequence) (defScope sIsSequence) .none kV_d29 dc_d29 pm_d29 an_d29 cd_d29 ct_d29), sl_d29⟩) (c_d29 : PySem.W.codeIn K cd_d29 "is_sequence" = true) (k_d29 : PySem.W.keepIn K (.ref f_d29) = true)
    (a_d30 : PySem.W.nsIn K mainGlobals "is_integer" = some (some (.ref f_d30)))
    (l_d30 : K.lookup f_d30 = some ⟨oc_d30, od_d30, .func (PySem.W.fnOf "is_integer" "is_integer" (defArgs sIsInteger) (defBody sIsInteger) (defScope sIsInteger) .none kV_d30 dc_d30 pm_d30 an_d30 cd_d30 ct_d30), sl_d30⟩) (c_d30 : PySem.W.codeIn K cd_d30 "is_integer" = true) (k_d30 : PySem.W.keepIn K (.ref f_d30) = true)
    (a_d31 : PySem.W.nsIn K mainGlobals "is_end" = some (some (.ref f_d31)))
    (l_d31 : K.lookup f_d31 = some ⟨oc_d31, od_d31, .func (PySem.W.fnOf "is_end" "is_end" (defArgs sIsEnd) (defBody sIsEnd) (defScope sIsEnd) .none kV_d31 dc_d31 pm_d31 an_d31 cd_d31 ct_d31), sl_d31⟩) (c_d31 : PySem.W.codeIn K cd_d31 "is_end" = true) (k_d31 : PySem.W.keepIn K (.ref f_d31) = true)
    (a_d32 : PySem.W.nsIn K mainGlobals "check_rows" = some (some (.ref f_d32)))
    (l_d32 : K.lookup f_d32 = some ⟨oc_d32, od_d32, .func (PySem.W.fnOf "check_rows" "check_rows" (defArgs sCheckRows) (defBody sCheckRows) (defScope sCheckRows) .none kV_d32 dc_d32 pm_d32 an_d32 cd_d32 ct_d32), sl_d32⟩) (c_d32 : PySem.W.codeIn K cd_d32 "check_rows" = true) (k_d32 : PySem.W.keepIn K (.ref f_d32) = true)
    (a_d33 : PySem.W.nsIn K mainGlobals "ends_of" = some (some (.ref f_d33)))
    (l_d33 : K.lookup f_d33 = some ⟨oc_d33, od_d33, .func (PySem.W.fnOf "ends_of" "ends_of" (defArgs sEndsOf) (defBody sEndsOf) (defScope sEndsOf) .none kV_d33 dc_d33 pm_d33 an_d33 cd_d33 ct_d33), sl_d33⟩) (c_d33 : PySem.W.codeIn K cd_d33 "ends_of" = true) (k_d33 : PySem.W.keepIn K (.ref f_d33) = true)
    (a_d34 : PySem.W.nsIn K mainGlobals "unsound_three" = some (some (.ref f_d34)))
    (l_d34 : K.lookup f_d34 = some ⟨oc_d34, od_d34, .func (PySem.W.fnOf "unsound_three" "unsound_three" (defArgs sUnsoundThree) (defBody sUnsoundThree) (defScope sUnsoundThree) .none kV_d34 dc_d34 pm_d34 an_d34 cd_d34 ct_d34), sl_d34⟩) (c_d34 : PySem.W.codeIn K cd_d34 "unsound_three" = true) (k_d34 : PySem.W.keepIn K (.ref f_d34) = true)
    (a_dI : PySem.W.findIn K (.ref C) "__init__" = some (some (.ref f_dI))) (i_dI : PySem.W.isFn K (.ref f_dI) = true)
    (l_dI : K.lookup f_dI = some ⟨oc_dI, od_dI, .func (PySem.W.fnOf "__init__" "Merger.__init__" (defArgs sInit) (defBody sInit) (defScope sInit) .none kV_dI dc_dI pm_dI an_dI cd_dI ct_dI), sl_dI⟩) (c_dI : PySem.W.codeIn K cd_dI "Merger.__init__" = true) (k_dI : PySem.W.keepIn K (.ref f_dI) = true)
    (a_dL : PySem.W.nsIn K mainGlobals "law" = some (some (.ref f_dL)))
    (l_dL : K.lookup f_dL = some ⟨oc_dL, od_dL, .func (PySem.W.fnOf "law" "law" (defArgs sLaw) (defBody sLaw) (defScope sLaw) .none kV_dL dc_dL pm_dL an_dL cd_dL ct_dL), sl_dL⟩) (c_dL : PySem.W.codeIn K cd_dL "law" = true) (k_dL : PySem.W.keepIn K (.ref f_dL) = true)
    (pg : PySem.W.plainGet K C Str.empty = true) (hd : PySem.W.hasDictIn K C = true) (po : PySem.W.plainOver K C = true) (sa : PySem.W.findIn K (.ref C) "__setattr__" = some (some (.builtin "object.__setattr__"))) (mk : PySem.W.makesIn K C = true) (kc : PySem.W.keepIn K (.ref C) = true)
    (nI : PySem.W.findIn K (.ref C) "commands" = some none) (nS : PySem.W.findIn K (.ref C) "rows" = some none)
    (z_isinstance : PySem.W.nsIn K mainGlobals "isinstance" = some none)
    (z_int : PySem.W.nsIn K mainGlobals "int" = some none)
    (z_bool : PySem.W.nsIn K mainGlobals "bool" = some none)
    (z_list : PySem.W.nsIn K mainGlobals "list" = some none)
    (z_tuple : PySem.W.nsIn K mainGlobals "tuple" = some none)
    (z_len : PySem.W.nsIn K mainGlobals "len" = some none)
    (z_range : PySem.W.nsIn K mainGlobals "range" = some none)
    (z_all : PySem.W.nsIn K mainGlobals "all" = some none)
    (z_abs : PySem.W.nsIn K mainGlobals "abs" = some none)
    (z_min : PySem.W.nsIn K mainGlobals "min" = some none)
    (z_max : PySem.W.nsIn K mainGlobals "max" = some none)
    (z_enumerate : PySem.W.nsIn K mainGlobals "enumerate" = some none)
    (z_sorted : PySem.W.nsIn K mainGlobals "sorted" = some none)
    (z_set : PySem.W.nsIn K mainGlobals "set" = some none)
    (z_repr : PySem.W.nsIn K mainGlobals "repr" = some none)
    (z_zip : PySem.W.nsIn K mainGlobals "zip" = some none)
    (c_mc : PySem.W.nsIn K mainGlobals "MOST_COMMANDS" = some (some (.int 12 t0)))
    (c_gn : PySem.W.nsIn K mainGlobals "GONE" = some (some (.int (-1) t1)))
    (c_mi : PySem.W.nsIn K mainGlobals "MIDDLE" = some (some (.str "middle" t2)))
    (c_le : PySem.W.nsIn K mainGlobals "LEFT" = some (some (.str "left" t3)))
    (c_ri : PySem.W.nsIn K mainGlobals "RIGHT" = some (some (.str "right" t4)))
    : ∃ fd : FuncData, (∀ (s : Shared) (v : Value), BindsTo s fd ⟨[v], []⟩ [("_law_script", v)]) ∧ ∀ base : Heap, K.In base → base.Ns mainGlobals mg → FnG l.prog w K mg base CX0 9 fa fd ["_law_script"] (SpD K SLaw) := by
  have e := hfa.symm.trans (PySem.W.mg_of X G a_dL)
  cases e
  have Z : Bl mg := ⟨PySem.W.mg_none_of X G z_isinstance, PySem.W.mg_none_of X G z_int, PySem.W.mg_none_of X G z_bool, PySem.W.mg_none_of X G z_list, PySem.W.mg_none_of X G z_tuple, PySem.W.mg_none_of X G z_len, PySem.W.mg_none_of X G z_range, PySem.W.mg_none_of X G z_all, PySem.W.mg_none_of X G z_abs, PySem.W.mg_none_of X G z_min, PySem.W.mg_none_of X G z_max, PySem.W.mg_none_of X G z_enumerate, PySem.W.mg_none_of X G z_sorted⟩
  have Zs : mg "set" = none := PySem.W.mg_none_of X G z_set
  have Zr : mg "repr" = none := PySem.W.mg_none_of X G z_repr
  have Zp : mg "zip" = none := PySem.W.mg_none_of X G z_zip
  have N : Cn mg := ⟨⟨t0, PySem.W.mg_of X G c_mc⟩, ⟨t1, PySem.W.mg_of X G c_gn⟩⟩
  have S : Cs mg := ⟨⟨t2, PySem.W.mg_of X G c_mi⟩, ⟨t3, PySem.W.mg_of X G c_le⟩, ⟨t4, PySem.W.mg_of X G c_ri⟩⟩
  have Mm : MC K C := ⟨⟨pg, hd, po, sa⟩, nI, nS⟩
  refine ⟨PySem.W.fnOf "law" "law" (defArgs sLaw) (defBody sLaw) (defScope sLaw) .none kV_dL dc_dL pm_dL an_dL cd_dL ct_dL, fun s v => .of_eq rfl, fun base _ _ => ?_⟩
  have F_dI := fun_mk (st := sInit) l_dI c_dI k_dI
  have b_dI := F_dI.binds (ps := ["self", "rows"]) fun _ _ _ _ _ _ us hl => match us, hl with | [_, _], _ => rfl
  have F_d29 := fun_mk (st := sIsSequence) l_d29 c_d29 k_d29
  have b_d29 := F_d29.binds (ps := ["value"]) fun _ _ _ _ _ _ us hl => match us, hl with | [_], _ => rfl
  have x_d29 : Fx l.prog w K mg base 1 "is_sequence" ["value"] SIsSequence := Fx.of (fn_is_sequence F_d29 Z) (PySem.W.mg_of X G a_d29) k_d29 b_d29
  have F_d30 := fun_mk (st := sIsInteger) l_d30 c_d30 k_d30
  have b_d30 := F_d30.binds (ps := ["value"]) fun _ _ _ _ _ _ us hl => match us, hl with | [_], _ => rfl
  have x_d30 : Fx l.prog w K mg base 1 "is_integer" ["value"] SIsInteger := Fx.of (fn_is_integer F_d30 Z) (PySem.W.mg_of X G a_d30) k_d30 b_d30
  have F_d31 := fun_mk (st := sIsEnd) l_d31 c_d31 k_d31
  have b_d31 := F_d31.binds (ps := ["value", "many"]) fun _ _ _ _ _ _ us hl => match us, hl with | [_, _], _ => rfl
  have x_d31 : Fx l.prog w K mg base 2 "is_end" ["value", "many"] SIsEnd := Fx.of (fn_is_end F_d31 Z N (x_d30.mono (by decide))) (PySem.W.mg_of X G a_d31) k_d31 b_d31
  have F_d32 := fun_mk (st := sCheckRows) l_d32 c_d32 k_d32
  have b_d32 := F_d32.binds (ps := ["rows"]) fun _ _ _ _ _ _ us hl => match us, hl with | [_], _ => rfl
  have x_d32 : Fx l.prog w K mg base 3 "check_rows" ["rows"] SCheckRows := Fx.of (fn_check_rows F_d32 Z N (x_d29.mono (by decide)) (x_d31.mono (by decide))) (PySem.W.mg_of X G a_d32) k_d32 b_d32
  have F_d33 := fun_mk (st := sEndsOf) l_d33 c_d33 k_d33
  have b_d33 := F_d33.binds (ps := ["rows", "one", "middle", "other"]) fun _ _ _ _ _ _ us hl => match us, hl with | [_, _, _, _], _ => rfl
  have x_d33 : Fx l.prog w K mg base 1 "ends_of" ["rows", "one", "middle", "other"] SEndsOf := Fx.of (fn_ends_of F_d33 Z N) (PySem.W.mg_of X G a_d33) k_d33 b_d33
  have F_d34 := fun_mk (st := sUnsoundThree) l_d34 c_d34 k_d34
  have b_d34 := F_d34.binds (ps := ["rows"]) fun _ _ _ _ _ _ us hl => match us, hl with | [_], _ => rfl
  have x_d34 : Fx l.prog w K mg base 2 "unsound_three" ["rows"] SUnsoundThree := Fx.of (fn_unsound_three F_d34 Z (x_d33.mono (by decide))) (PySem.W.mg_of X G a_d34) k_d34 b_d34
  have FI : FnOk l.prog w K mg base CX0 4 f_dI _ ["self", "rows"] (SpD K (SInit C)) := fn_init F_dI Z Mm (x_d32.mono (by decide)) (x_d34.mono (by decide))
  have F_d0 := fun_mk (st := sBox) l_d0 c_d0 k_d0
  have b_d0 := F_d0.binds (ps := ["_law_script", "_law_k"]) fun _ _ _ _ _ _ us hl => match us, hl with | [_, _], _ => rfl
  have x_d0 : Fx l.prog w K mg base 1 "_law_box" ["_law_script", "_law_k"] SBox := Fx.of (fn_box F_d0 Z) (PySem.W.mg_of X G a_d0) k_d0 b_d0
  have F_d1 := fun_mk (st := sTake) l_d1 c_d1 k_d1
  have b_d1 := F_d1.binds (ps := ["_law_box_here", "_law_many"]) fun _ _ _ _ _ _ us hl => match us, hl with | [_, _], _ => rfl
  have x_d1 : Fx l.prog w K mg base 1 "_law_take" ["_law_box_here", "_law_many"] STake := Fx.of (fn_take F_d1 Z) (PySem.W.mg_of X G a_d1) k_d1 b_d1
  have F_d2 := fun_mk (st := sPick) l_d2 c_d2 k_d2
  have b_d2 := F_d2.binds (ps := ["_law_box_here", "_law_some"]) fun _ _ _ _ _ _ us hl => match us, hl with | [_, _], _ => rfl
  have x_d2 : Fx l.prog w K mg base 2 "_law_pick" ["_law_box_here", "_law_some"] SPick := Fx.of (fn_pick F_d2 Z (x_d1.mono (by decide))) (PySem.W.mg_of X G a_d2) k_d2 b_d2
  have F_d3 := fun_mk (st := sMeet) l_d3 c_d3 k_d3
  have b_d3 := F_d3.binds (ps := ["_law_rows_here", "_law_one", "_law_other"]) fun _ _ _ _ _ _ us hl => match us, hl with | [_, _, _], _ => rfl
  have x_d3 : Fx l.prog w K mg base 1 "_law_meet" ["_law_rows_here", "_law_one", "_law_other"] SMeet := Fx.of (fn_meet F_d3 Z) (PySem.W.mg_of X G a_d3) k_d3 b_d3
  have F_d4 := fun_mk (st := sUnsound) l_d4 c_d4 k_d4
  have b_d4 := F_d4.binds (ps := ["_law_rows_here"]) fun _ _ _ _ _ _ us hl => match us, hl with | [_], _ => rfl
  have x_d4 : Fx l.prog w K mg base 2 "_law_unsound" ["_law_rows_here"] SUnsound := Fx.of (fn_unsound F_d4 Z (x_d3.mono (by decide))) (PySem.W.mg_of X G a_d4) k_d4 b_d4
  have F_d5 := fun_mk (st := sSparse) l_d5 c_d5 k_d5
  have b_d5 := F_d5.binds (ps := ["_law_box_here"]) fun _ _ _ _ _ _ us hl => match us, hl with | [_], _ => rfl
  have x_d5 : Fx l.prog w K mg base 4 "_law_sparse" ["_law_box_here"] SGen := Fx.of (fn_sparse F_d5 Z (x_d1.mono (by decide)) (x_d2.mono (by decide)) (x_d4.mono (by decide))) (PySem.W.mg_of X G a_d5) k_d5 b_d5
  have F_d6 := fun_mk (st := sDone) l_d6 c_d6 k_d6
  have b_d6 := F_d6.binds (ps := ["_law_one", "_law_other"]) fun _ _ _ _ _ _ us hl => match us, hl with | [_, _], _ => rfl
  have x_d6 : Fx l.prog w K mg base 1 "_law_done" ["_law_one", "_law_other"] SDone := Fx.of (fn_done F_d6 Z) (PySem.W.mg_of X G a_d6) k_d6 b_d6
  have F_d7 := fun_mk (st := sOfMachine) l_d7 c_d7 k_d7
  have b_d7 := F_d7.binds (ps := ["_law_tables_here"]) fun _ _ _ _ _ _ us hl => match us, hl with | [_], _ => rfl
  have x_d7 : Fx l.prog w K mg base 2 "_law_of_machine" ["_law_tables_here"] SOfMachine := Fx.of (fn_of_machine F_d7 Z (x_d6.mono (by decide))) (PySem.W.mg_of X G a_d7) k_d7 b_d7
  have F_d8 := fun_mk (st := sTables) l_d8 c_d8 k_d8
  have b_d8 := F_d8.binds (ps := ["_law_box_here"]) fun _ _ _ _ _ _ us hl => match us, hl with | [_], _ => rfl
  have x_d8 : Fx l.prog w K mg base 4 "_law_tables" ["_law_box_here"] STables := Fx.of (fn_tables F_d8 Z (x_d1.mono (by decide)) (x_d2.mono (by decide)) (x_d6.mono (by decide))) (PySem.W.mg_of X G a_d8) k_d8 b_d8
  have F_d9 := fun_mk (st := sSpecial) l_d9 c_d9 k_d9
  have b_d9 := F_d9.binds (ps := ["_law_box_here"]) fun _ _ _ _ _ _ us hl => match us, hl with | [_], _ => rfl
  have x_d9 : Fx l.prog w K mg base 4 "_law_special" ["_law_box_here"] SGen := Fx.of (fn_special F_d9 Z (x_d1.mono (by decide))) (PySem.W.mg_of X G a_d9) k_d9 b_d9
  have F_d10 := fun_mk (st := sCarry) l_d10 c_d10 k_d10
  have b_d10 := F_d10.binds (ps := ["_law_box_here"]) fun _ _ _ _ _ _ us hl => match us, hl with | [_], _ => rfl
  have x_d10 : Fx l.prog w K mg base 4 "_law_carry" ["_law_box_here"] SGen := Fx.of (fn_carry F_d10 Z (x_d1.mono (by decide)) (x_d2.mono (by decide))) (PySem.W.mg_of X G a_d10) k_d10 b_d10
  have F_d11 := fun_mk (st := sRows) l_d11 c_d11 k_d11
  have b_d11 := F_d11.binds (ps := ["_law_box_here"]) fun _ _ _ _ _ _ us hl => match us, hl with | [_], _ => rfl
  have x_d11 : Fx l.prog w K mg base 5 "_law_rows" ["_law_box_here"] SGen := Fx.of (fn_rows F_d11 Z (x_d1.mono (by decide)) (x_d5.mono (by decide)) (x_d7.mono (by decide)) (x_d8.mono (by decide)) (x_d9.mono (by decide)) (x_d10.mono (by decide))) (PySem.W.mg_of X G a_d11) k_d11 b_d11
  have F_d12 := fun_mk (st := s_kept) l_d12 c_d12 k_d12
  have b_d12 := F_d12.binds (ps := ["_law_made", "_law_lot"]) fun _ _ _ _ _ _ us hl => match us, hl with | [_, _], _ => rfl
  have x_d12 : Fx l.prog w K mg base 1 "_law_kept" ["_law_made", "_law_lot"] SKept := Fx.of (fn_kept F_d12 Z) (PySem.W.mg_of X G a_d12) k_d12 b_d12
  have F_d13 := fun_mk (st := s_few) l_d13 c_d13 k_d13
  have b_d13 := F_d13.binds (ps := ["_law_rows_here", "_law_box_here"]) fun _ _ _ _ _ _ us hl => match us, hl with | [_, _], _ => rfl
  have x_d13 : Fx l.prog w K mg base 4 "_law_few" ["_law_rows_here", "_law_box_here"] SFew := Fx.of (fn_few F_d13 Z Zs (x_d1.mono (by decide)) (x_d12.mono (by decide))) (PySem.W.mg_of X G a_d13) k_d13 b_d13
  have F_d14 := fun_mk (st := s_queues) l_d14 c_d14 k_d14
  have b_d14 := F_d14.binds (ps := ["_law_many", "_law_length"]) fun _ _ _ _ _ _ us hl => match us, hl with | [_, _], _ => rfl
  have x_d14 : Fx l.prog w K mg base 1 "_law_queues" ["_law_many", "_law_length"] SQueues := Fx.of (fn_queues F_d14 Z) (PySem.W.mg_of X G a_d14) k_d14 b_d14
  have F_d15 := fun_mk (st := s_ends) l_d15 c_d15 k_d15
  have b_d15 := F_d15.binds (ps := ["_law_rows_here", "_law_queue", "_law_known"]) fun _ _ _ _ _ _ us hl => match us, hl with | [_, _, _], _ => rfl
  have x_d15_0 : Fx l.prog w K mg base 1 "_law_ends" ["_law_rows_here", "_law_queue", "_law_known"] (SEnds 0) := Fx.of (fn_ends F_d15 Z  0 (by decide) (fun j h => nomatch h)) (PySem.W.mg_of X G a_d15) k_d15 b_d15
  have x_d15_1 : Fx l.prog w K mg base 2 "_law_ends" ["_law_rows_here", "_law_queue", "_law_known"] (SEnds 1) := Fx.of (fn_ends F_d15 Z  1 (by decide) (fun j h => by cases h; exact x_d15_0)) (PySem.W.mg_of X G a_d15) k_d15 b_d15
  have x_d15_2 : Fx l.prog w K mg base 3 "_law_ends" ["_law_rows_here", "_law_queue", "_law_known"] (SEnds 2) := Fx.of (fn_ends F_d15 Z  2 (by decide) (fun j h => by cases h; exact x_d15_1)) (PySem.W.mg_of X G a_d15) k_d15 b_d15
  have x_d15_3 : Fx l.prog w K mg base 4 "_law_ends" ["_law_rows_here", "_law_queue", "_law_known"] (SEnds 3) := Fx.of (fn_ends F_d15 Z  3 (by decide) (fun j h => by cases h; exact x_d15_2)) (PySem.W.mg_of X G a_d15) k_d15 b_d15
  have x_d15_4 : Fx l.prog w K mg base 5 "_law_ends" ["_law_rows_here", "_law_queue", "_law_known"] (SEnds 4) := Fx.of (fn_ends F_d15 Z  4 (by decide) (fun j h => by cases h; exact x_d15_3)) (PySem.W.mg_of X G a_d15) k_d15 b_d15
  have x_d15_5 : Fx l.prog w K mg base 6 "_law_ends" ["_law_rows_here", "_law_queue", "_law_known"] (SEnds 5) := Fx.of (fn_ends F_d15 Z  5 (by decide) (fun j h => by cases h; exact x_d15_4)) (PySem.W.mg_of X G a_d15) k_d15 b_d15
  have x_d15_6 : Fx l.prog w K mg base 7 "_law_ends" ["_law_rows_here", "_law_queue", "_law_known"] (SEnds 6) := Fx.of (fn_ends F_d15 Z  6 (by decide) (fun j h => by cases h; exact x_d15_5)) (PySem.W.mg_of X G a_d15) k_d15 b_d15
  have x_d15 := x_d15_6
  have F_d16 := fun_mk (st := sBags17) l_d16 c_d16 k_d16
  have b_d16 := F_d16.binds (ps := ["_law_rows_here", "_law_queue", "_law_known"]) fun _ _ _ _ _ _ us hl => match us, hl with | [_, _, _], _ => rfl
  have x_d16 : Fx l.prog w K mg base 8 "_law_bags" ["_law_rows_here", "_law_queue", "_law_known"] SBags := Fx.of (fn_bags F_d16 Z Zs (x_d15_6.mono (by decide))) (PySem.W.mg_of X G a_d16) k_d16 b_d16
  have F_d17 := fun_mk (st := sTri17) l_d17 c_d17 k_d17
  have b_d17 := F_d17.binds (ps := ["_law_rows_here"]) fun _ _ _ _ _ _ us hl => match us, hl with | [_], _ => rfl
  have x_d17 : Fx l.prog w K mg base 2 "_law_triples" ["_law_rows_here"] STri := Fx.of (fn_triples F_d17 Z (x_d14.mono (by decide)) (x_d3.mono (by decide))) (PySem.W.mg_of X G a_d17) k_d17 b_d17
  have F_d18 := fun_mk (st := sWord17) l_d18 c_d18 k_d18
  have b_d18 := F_d18.binds (ps := ["_law_rows_here", "_law_known", "_law_due"]) fun _ _ _ _ _ _ us hl => match us, hl with | [_, _, _], _ => rfl
  have x_d18 : Fx l.prog w K mg base 8 "_law_word" ["_law_rows_here", "_law_known", "_law_due"] SWord := Fx.of (fn_word F_d18 Z Zs (x_d14.mono (by decide)) (x_d15_6.mono (by decide)) (x_d17.mono (by decide))) (PySem.W.mg_of X G a_d18) k_d18 b_d18
  have F_d19 := fun_mk (st := sHandTriples) l_d19 c_d19 k_d19
  have b_d19 := F_d19.binds (ps := ["merger"]) fun _ _ _ _ _ _ us hl => match us, hl with | [_], _ => rfl
  have x_d19 : Fx l.prog w K mg base 1 "hand_triples" ["merger"] (SHandTriples C) := Fx.of (fn_hand_triples F_d19 Z Mm) (PySem.W.mg_of X G a_d19) k_d19 b_d19
  have F_d20 := fun_mk (st := sSingleThree) l_d20 c_d20 k_d20
  have b_d20 := F_d20.binds (ps := ["merger"]) fun _ _ _ _ _ _ us hl => match us, hl with | [_], _ => rfl
  have x_d20 : Fx l.prog w K mg base 2 "single_three" ["merger"] (SSingleThree C) := Fx.of (fn_single_three F_d20 Z Mm (x_d19.mono (by decide))) (PySem.W.mg_of X G a_d20) k_d20 b_d20
  have F_d21 := fun_mk (st := sIsSingle) l_d21 c_d21 k_d21
  have b_d21 := F_d21.binds (ps := ["merger"]) fun _ _ _ _ _ _ us hl => match us, hl with | [_], _ => rfl
  have x_d21 : Fx l.prog w K mg base 3 "is_single" ["merger"] (SIsSingle C) := Fx.of (fn_is_single F_d21 Z (x_d20.mono (by decide))) (PySem.W.mg_of X G a_d21) k_d21 b_d21
  have F_d22 := fun_mk (st := sIsHand) l_d22 c_d22 k_d22
  have b_d22 := F_d22.binds (ps := ["rows", "one", "two", "three"]) fun _ _ _ _ _ _ us hl => match us, hl with | [_, _, _, _], _ => rfl
  have x_d22 : Fx l.prog w K mg base 1 "is_hand" ["rows", "one", "two", "three"] SIsHand := Fx.of (fn_is_hand F_d22 Z) (PySem.W.mg_of X G a_d22) k_d22 b_d22
  have F_d23 := fun_mk (st := sKindOfFour) l_d23 c_d23 k_d23
  have b_d23 := F_d23.binds (ps := ["rows", "four"]) fun _ _ _ _ _ _ us hl => match us, hl with | [_, _], _ => rfl
  have x_d23 : Fx l.prog w K mg base 2 "kind_of_four" ["rows", "four"] SKindOfFour := Fx.of (fn_kind_of_four F_d23 Z S (x_d22.mono (by decide))) (PySem.W.mg_of X G a_d23) k_d23 b_d23
  have F_d24 := fun_mk (st := sUnevenFours) l_d24 c_d24 k_d24
  have b_d24 := F_d24.binds (ps := ["merger"]) fun _ _ _ _ _ _ us hl => match us, hl with | [_], _ => rfl
  have x_d24 : Fx l.prog w K mg base 4 "uneven_fours" ["merger"] (SUnevenFours C) := Fx.of (fn_uneven_fours F_d24 Z Mm (x_d19.mono (by decide)) (x_d23.mono (by decide))) (PySem.W.mg_of X G a_d24) k_d24 b_d24
  have F_d25 := fun_mk (st := sUnevenFour) l_d25 c_d25 k_d25
  have b_d25 := F_d25.binds (ps := ["merger"]) fun _ _ _ _ _ _ us hl => match us, hl with | [_], _ => rfl
  have x_d25 : Fx l.prog w K mg base 5 "uneven_four" ["merger"] (SUnevenFour C) := Fx.of (fn_uneven_four F_d25 Z (x_d24.mono (by decide))) (PySem.W.mg_of X G a_d25) k_d25 b_d25
  have F_d26 := fun_mk (st := sBagQueue) l_d26 c_d26 k_d26
  have b_d26 := F_d26.binds (ps := ["merger"]) fun _ _ _ _ _ _ us hl => match us, hl with | [_], _ => rfl
  have x_d26 : Fx l.prog w K mg base 6 "bag_queue" ["merger"] (SBagQueue C) := Fx.of (fn_bag_queue F_d26 Z Mm (x_d19.mono (by decide)) (x_d25.mono (by decide))) (PySem.W.mg_of X G a_d26) k_d26 b_d26
  have F_d27 := fun_mk (st := sIsEven) l_d27 c_d27 k_d27
  have b_d27 := F_d27.binds (ps := ["merger"]) fun _ _ _ _ _ _ us hl => match us, hl with | [_], _ => rfl
  have x_d27 : Fx l.prog w K mg base 6 "is_even" ["merger"] (SIsEven C) := Fx.of (fn_is_even F_d27 Z (x_d25.mono (by decide))) (PySem.W.mg_of X G a_d27) k_d27 b_d27
  have F_d28 := fun_mk (st := sMergerWord) l_d28 c_d28 k_d28
  have b_d28 := F_d28.binds (ps := ["merger"]) fun _ _ _ _ _ _ us hl => match us, hl with | [_], _ => rfl
  have x_d28 : Fx l.prog w K mg base 7 "merger_word" ["merger"] (SMergerWord C) := Fx.of (fn_merger_word F_d28 Z (x_d27.mono (by decide)) (x_d19.mono (by decide)) (x_d21.mono (by decide)) (x_d26.mono (by decide))) (PySem.W.mg_of X G a_d28) k_d28 b_d28
  have y_d20 : FxK l.prog w K mg base 8 "single_three" ["merger"] (SSingleThree C) := ⟨⟨f_d20, _, (fn_single_three F_d20 Z Mm (x_d19.mono (by decide))).mono (by decide), PySem.W.mg_of X G a_d20, k_d20, DH.Fun.bindsK F_d20 fun _ _ _ _ _ _ us hl => match us, hl with | [_], _ => rfl⟩⟩
  have y_d21 : FxK l.prog w K mg base 8 "is_single" ["merger"] (SIsSingle C) := ⟨⟨f_d21, _, (fn_is_single F_d21 Z (x_d20.mono (by decide))).mono (by decide), PySem.W.mg_of X G a_d21, k_d21, DH.Fun.bindsK F_d21 fun _ _ _ _ _ _ us hl => match us, hl with | [_], _ => rfl⟩⟩
  have y_d26 : FxK l.prog w K mg base 8 "bag_queue" ["merger"] (SBagQueue C) := ⟨⟨f_d26, _, (fn_bag_queue F_d26 Z Mm (x_d19.mono (by decide)) (x_d25.mono (by decide))).mono (by decide), PySem.W.mg_of X G a_d26, k_d26, DH.Fun.bindsK F_d26 fun _ _ _ _ _ _ us hl => match us, hl with | [_], _ => rfl⟩⟩
  have y_d19 : FxK l.prog w K mg base 8 "hand_triples" ["merger"] (SHandTriples C) := ⟨⟨f_d19, _, (fn_hand_triples F_d19 Z Mm).mono (by decide), PySem.W.mg_of X G a_d19, k_d19, DH.Fun.bindsK F_d19 fun _ _ _ _ _ _ us hl => match us, hl with | [_], _ => rfl⟩⟩
  have y_d28 : FxK l.prog w K mg base 8 "merger_word" ["merger"] (SMergerWord C) := ⟨⟨f_d28, _, (fn_merger_word F_d28 Z (x_d27.mono (by decide)) (x_d19.mono (by decide)) (x_d21.mono (by decide)) (x_d26.mono (by decide))).mono (by decide), PySem.W.mg_of X G a_d28, k_d28, DH.Fun.bindsK F_d28 fun _ _ _ _ _ _ us hl => match us, hl with | [_], _ => rfl⟩⟩
  have T : LawC l.prog w K mg base C := ⟨(x_d0.mono (by decide)), (x_d11.mono (by decide)), (x_d13.mono (by decide)), (x_d1.mono (by decide)), (x_d2.mono (by decide)), (x_d14.mono (by decide)), (x_d15.mono (by decide)), (x_d16.mono (by decide)), (x_d17.mono (by decide)), (x_d18.mono (by decide)), (x_d20.mono (by decide)), (x_d21.mono (by decide)), (x_d26.mono (by decide)), y_d20, y_d21, y_d26, y_d19, y_d28⟩
  exact fn_law (fun_mk (st := sLaw) l_dL c_dL k_dL) Z Zr Mm T ⟨mk, a_dI, i_dI, kc⟩ FI (PySem.W.mg_of X G aC) b_dI
theorem walk {l : PySem.W.OpenLaw} {q : Program} {loose : List Str} {XP : (Str → Option Value) → Heap → Prop} {YP : World → Heap → Prop} {d : DefRec} {K : Params → PySem.W.Frag} (hn : l.most = some 63) (hdf : d.params.defaults = [])
    (hY : ∀ (w : World) (h : Heap), YP w h → (K w.params).In h)
    (F : ∀ (w : World) (mg : Str → Option Value) (fa : Addr) (h : Heap), (K w.params).In h → h.Ns mainGlobals mg → mg d.name = some (.ref fa) →
      ∃ fd : FuncData, (∀ (s : Shared) (u : Value), BindsTo s fd ⟨[u], []⟩ [("_law_script", u)]) ∧ ∀ base : Heap, (K w.params).In base → base.Ns mainGlobals mg → FnG l.prog w (K w.params) mg base CX0 9 fa fd ["_law_script"] (SpD (K w.params) SLaw)) :
    PySem.W.WalkO q loose XP YP l.row.toRowW d [] (fun f vs => PySem.call f vs) :=
  walkG (n := 63) (k := 9) (x := "_law_script") (sp := fun w => SpD (K w.params) SLaw) hn (by decide) hdf ⟨⟨rfl, by decide, by decide⟩, rfl⟩ hY F (fun w H a ns hl _ hS => by
    refine ⟨[], [.fix (ns.map D.int)], [], fun d _ => d = .bl true, ⟨rfl, List.nodup_nil, (fun k a c h => by simp at h), (fun k a P q h => by simp at h)⟩, .cons (.fix ?_ (Das.ints ns)) .nil, ⟨ns, rfl, rfl, hl, rfl⟩, fun v d B α' H' h g s q => ?_⟩
    · rcases hS with hS | hS
      · exact .inl ⟨by simp, hS⟩
      · exact .inr (.inr hS)
    · subst h
      exact q.bl_inv)
end
end KL
open PySem PySem.W PyProof.Rows in
set_option maxRecDepth 100000 in
set_option maxHeartbeats 0 in
theorem PySem.Challenge.cw_foursfold_k17_whole_one_folded_queue_and_holds : PySem.Challenge.rw_foursfold_k17_whole_one_folded_queue_and.Holds := by
  w_on; o_law; k_head; (case hw => w_witness2)
  k_fill
  refine KL.walk (l := PySem.Challenge.rw_foursfold_k17_whole_one_folded_queue_and) rfl rfl (fun w h Y => PySem.W.kIn_of Y) ?F
  case F =>
    intro w mg fa h KX G hmg
    refine' KL.all_mk KX G hmg ?aC ?a_d0 ?l_d0 ?c_d0 ?k_d0 ?a_d1 ?l_d1 ?c_d1 ?k_d1 ?a_d2 ?l_d2 ?c_d2 ?k_d2 ?a_d3 ?l_d3 ?c_d3 ?k_d3 ?a_d4 ?l_d4 ?c_d4 ?k_d4 ?a_d5 ?l_d5 ?c_d5 ?k_d5 ?a_d6 ?l_d6 ?c_d6 ?k_d6 ?a_d7 ?l_d7 ?c_d7 ?k_d7 ?a_d8 ?l_d8 ?c_d8 ?k_d8 ?a_d9 ?l_d9 ?c_d9 ?k_d9 ?a_d10 ?l_d10 ?c_d10 ?k_d10 ?a_d11 ?l_d11 ?c_d11 ?k_d11 ?a_d12 ?l_d12 ?c_d12 ?k_d12 ?a_d13 ?l_d13 ?c_d13 ?k_d13 ?a_d14 ?l_d14 ?c_d14 ?k_d14 ?a_d15 ?l_d15 ?c_d15 ?k_d15 ?a_d16 ?l_d16 ?c_d16 ?k_d16 ?a_d17 ?l_d17 ?c_d17 ?k_d17 ?a_d18 ?l_d18 ?c_d18 ?k_d18 ?a_d19 ?l_d19 ?c_d19 ?k_d19 ?a_d20 ?l_d20 ?c_d20 ?k_d20 ?a_d21 ?l_d21 ?c_d21 ?k_d21 ?a_d22 ?l_d22 ?c_d22 ?k_d22 ?a_d23 ?l_d23 ?c_d23 ?k_d23 ?a_d24 ?l_d24 ?c_d24 ?k_d24 ?a_d25 ?l_d25 ?c_d25 ?k_d25 ?a_d26 ?l_d26 ?c_d26 ?k_d26 ?a_d27 ?l_d27 ?c_d27 ?k_d27 ?a_d28 ?l_d28 ?c_d28 ?k_d28 ?a_d29 ?l_d29 ?c_d29 ?k_d29 ?a_d30 ?l_d30 ?c_d30 ?k_d30 ?a_d31 ?l_d31 ?c_d31 ?k_d31 ?a_d32 ?l_d32 ?c_d32 ?k_d32 ?a_d33 ?l_d33 ?c_d33 ?k_d33 ?a_d34 ?l_d34 ?c_d34 ?k_d34 ?a_dI ?i_dI ?l_dI ?c_dI ?k_dI ?a_dL ?l_dL ?c_dL ?k_dL ?pg ?hd ?po ?sa ?mk ?kc ?nI ?nS ?z_isinstance ?z_int ?z_bool ?z_list ?z_tuple ?z_len ?z_range ?z_all ?z_abs ?z_min ?z_max ?z_enumerate ?z_sorted ?z_set ?z_repr ?z_zip ?c_mc ?c_gn ?c_mi ?c_le ?c_ri
    (case aC => k_is)
    (case a_d0 => k_is)
    (case l_d0 => k_is)
    (case c_d0 => k_is)
    (case k_d0 => k_is)
    (case a_d1 => k_is)
    (case l_d1 => k_is)
    (case c_d1 => k_is)
    (case k_d1 => k_is)
    (case a_d2 => k_is)
    (case l_d2 => k_is)
    (case c_d2 => k_is)
    (case k_d2 => k_is)
    (case a_d3 => k_is)
    (case l_d3 => k_is)
    (case c_d3 => k_is)
    (case k_d3 => k_is)
    (case a_d4 => k_is)
    (case l_d4 => k_is)
    (case c_d4 => k_is)
    (case k_d4 => k_is)
    (case a_d5 => k_is)
    (case l_d5 => k_is)
    (case c_d5 => k_is)
    (case k_d5 => k_is)
    (case a_d6 => k_is)
    (case l_d6 => k_is)
    (case c_d6 => k_is)
    (case k_d6 => k_is)
    (case a_d7 => k_is)
    (case l_d7 => k_is)
    (case c_d7 => k_is)
    (case k_d7 => k_is)
    (case a_d8 => k_is)
    (case l_d8 => k_is)
    (case c_d8 => k_is)
    (case k_d8 => k_is)
    (case a_d9 => k_is)
    (case l_d9 => k_is)
    (case c_d9 => k_is)
    (case k_d9 => k_is)
    (case a_d10 => k_is)
    (case l_d10 => k_is)
    (case c_d10 => k_is)
    (case k_d10 => k_is)
    (case a_d11 => k_is)
    (case l_d11 => k_is)
    (case c_d11 => k_is)
    (case k_d11 => k_is)
    (case a_d12 => k_is)
    (case l_d12 => k_is)
    (case c_d12 => k_is)
    (case k_d12 => k_is)
    (case a_d13 => k_is)
    (case l_d13 => k_is)
    (case c_d13 => k_is)
    (case k_d13 => k_is)
    (case a_d14 => k_is)
    (case l_d14 => k_is)
    (case c_d14 => k_is)
    (case k_d14 => k_is)
    (case a_d15 => k_is)
    (case l_d15 => k_is)
    (case c_d15 => k_is)
    (case k_d15 => k_is)
    (case a_d16 => k_is)
    (case l_d16 => k_is)
    (case c_d16 => k_is)
    (case k_d16 => k_is)
    (case a_d17 => k_is)
    (case l_d17 => k_is)
    (case c_d17 => k_is)
    (case k_d17 => k_is)
    (case a_d18 => k_is)
    (case l_d18 => k_is)
    (case c_d18 => k_is)
    (case k_d18 => k_is)
    (case a_d19 => k_is)
    (case l_d19 => k_is)
    (case c_d19 => k_is)
    (case k_d19 => k_is)
    (case a_d20 => k_is)
    (case l_d20 => k_is)
    (case c_d20 => k_is)
    (case k_d20 => k_is)
    (case a_d21 => k_is)
    (case l_d21 => k_is)
    (case c_d21 => k_is)
    (case k_d21 => k_is)
    (case a_d22 => k_is)
    (case l_d22 => k_is)
    (case c_d22 => k_is)
    (case k_d22 => k_is)
    (case a_d23 => k_is)
    (case l_d23 => k_is)
    (case c_d23 => k_is)
    (case k_d23 => k_is)
    (case a_d24 => k_is)
    (case l_d24 => k_is)
    (case c_d24 => k_is)
    (case k_d24 => k_is)
    (case a_d25 => k_is)
    (case l_d25 => k_is)
    (case c_d25 => k_is)
    (case k_d25 => k_is)
    (case a_d26 => k_is)
    (case l_d26 => k_is)
    (case c_d26 => k_is)
    (case k_d26 => k_is)
    (case a_d27 => k_is)
    (case l_d27 => k_is)
    (case c_d27 => k_is)
    (case k_d27 => k_is)
    (case a_d28 => k_is)
    (case l_d28 => k_is)
    (case c_d28 => k_is)
    (case k_d28 => k_is)
    (case a_d29 => k_is)
    (case l_d29 => k_is)
    (case c_d29 => k_is)
    (case k_d29 => k_is)
    (case a_d30 => k_is)
    (case l_d30 => k_is)
    (case c_d30 => k_is)
    (case k_d30 => k_is)
    (case a_d31 => k_is)
    (case l_d31 => k_is)
    (case c_d31 => k_is)
    (case k_d31 => k_is)
    (case a_d32 => k_is)
    (case l_d32 => k_is)
    (case c_d32 => k_is)
    (case k_d32 => k_is)
    (case a_d33 => k_is)
    (case l_d33 => k_is)
    (case c_d33 => k_is)
    (case k_d33 => k_is)
    (case a_d34 => k_is)
    (case l_d34 => k_is)
    (case c_d34 => k_is)
    (case k_d34 => k_is)
    (case a_dI => k_is)
    (case i_dI => k_is)
    (case l_dI => k_is)
    (case c_dI => k_is)
    (case k_dI => k_is)
    (case a_dL => k_is)
    (case l_dL => k_is)
    (case c_dL => k_is)
    (case k_dL => k_is)
    (case pg => k_is)
    (case hd => k_is)
    (case po => k_is)
    (case sa => k_is)
    (case mk => k_is)
    (case kc => k_is)
    (case nI => k_is)
    (case nS => k_is)
    (case z_isinstance => k_is)
    (case z_int => k_is)
    (case z_bool => k_is)
    (case z_list => k_is)
    (case z_tuple => k_is)
    (case z_len => k_is)
    (case z_range => k_is)
    (case z_all => k_is)
    (case z_abs => k_is)
    (case z_min => k_is)
    (case z_max => k_is)
    (case z_enumerate => k_is)
    (case z_sorted => k_is)
    (case z_set => k_is)
    (case z_repr => k_is)
    (case z_zip => k_is)
    (case c_mc => k_is)
    (case c_gn => k_is)
    (case c_mi => k_is)
    (case c_le => k_is)
    (case c_ri => k_is)
