import PyProof.Rows.All
import Wide.All
import OpenK.AllK
import Wide.FinOn
import HandS.ForMost
import HandS.SortRule
import HandS.IsInst
import KE.SortData
import HandS.DictComp
import HandS.OwnIter
import HandS.IterVal
import PySem.Challenge.RW_marksandbranches_k76_versions_joined_and
set_option Elab.async false
set_option maxRecDepth 100000
set_option maxHeartbeats 4000000
set_option linter.all false
/-! DL: values as immutable data D; expressions that evaluate to data, whatever the addresses. -/
namespace DL
open PySem L2

/-- immutable data -/
inductive D where
  | non | bl (b : Bool) | int (i : Int) | str (s : Str) | ty (n : String)
  | ob (a : Addr)
  | tup (l : List D) | lst (l : List D) | rdl (l : List D)
  | ins (C : Addr) (fs : List (Str × D))
  | dK (kvs : List (Key × D)) | dT (kvs : List (List Key × D))

mutual
/-- the value v denotes the data d in the heap H -/
inductive DV (K : PySem.W.Frag) (H : Hp) : V → D → Prop
  | non : DV K H .non .non
  | bl (b : Bool) : DV K H (.bl b) (.bl b)
  | int (i : Int) : DV K H (.int i) (.int i)
  | str (s : Str) : DV K H (.str s) (.str s)
  | ty (n : String) : DV K H (.ty n) (.ty n)
  | ob (a : Addr) : DV K H (.ref a) (.ob a)
  | tup {a : Addr} {vs : List V} {ds : List D} : H a = some (.tup vs) → DVs K H vs ds → DV K H (.ref a) (.tup ds)
  | lst {a : Addr} {vs : List V} {ds : List D} : Rd H a (.lst vs) → DVs K H vs ds → DV K H (.ref a) (.lst ds)
  | rdl {a : Addr} {vs : List V} {ds : List D} : SqL K H a vs → DVs K H vs ds → DV K H (.ref a) (.rdl ds)
  | ins {a C dx : Addr} {vs : List (Str × V)} {ds : List (Str × D)} : H a = some (.ins C dx vs) → DFs K H vs ds → DV K H (.ref a) (.ins C ds)
  | dK {a : Addr} {vs : List (Key × V)} {ds : List (Key × D)} : Rd H a (.dK vs) → DFs K H vs ds → DV K H (.ref a) (.dK ds)
  | dT {a : Addr} {vs : List (List Key × V)} {ds : List (List Key × D)} : Rd H a (.dT vs) → DFs K H vs ds → DV K H (.ref a) (.dT ds)
inductive DVs (K : PySem.W.Frag) (H : Hp) : List V → List D → Prop
  | nil : DVs K H [] []
  | cons {v : V} {d : D} {vs : List V} {ds : List D} : DV K H v d → DVs K H vs ds → DVs K H (v :: vs) (d :: ds)
inductive DFs (K : PySem.W.Frag) (H : Hp) : {κ : Type} → List (κ × V) → List (κ × D) → Prop
  | nil {κ : Type} : DFs K H ([] : List (κ × V)) []
  | cons {κ : Type} {n : κ} {v : V} {d : D} {vs : List (κ × V)} {ds : List (κ × D)} : DV K H v d → DFs K H vs ds → DFs K H ((n, v) :: vs) ((n, d) :: ds)
end

/-- every tracked object stays -/
abbrev Ex (H H' : Hp) : Prop := ∀ a o, H a = some o → H' a = some o
theorem Ex.refl (H : Hp) : Ex H H := fun _ _ h => h
theorem Ex.trans {H H1 H2 : Hp} (a : Ex H H1) (b : Ex H1 H2) : Ex H H2 := fun x o h => b x o (a x o h)
theorem Ex.new {H : Hp} {p : Addr} {o : HO} (h : H p = none) : Ex H (upd H p o) := fun a u e => by
  rw [upd_ne (ne_of_none e h)]
  exact e
theorem Ex.back {H H' : Hp} {p : Addr} (e : Ex H H') (h : H' p = none) : H p = none := by
  cases h1 : H p with
  | none => rfl
  | some o => rw [e p o h1] at h; cases h
/-- an object that H does not know may change -/
theorem Ex.mut {H H' : Hp} {p : Addr} {o : HO} (e : Ex H H') (h : H p = none) : Ex H (upd H' p o) := fun a u ha => by
  rw [upd_ne (ne_of_none ha h)]
  exact e a u ha
/-- the same new object on both sides -/
theorem Ex.both {H H' : Hp} {p : Addr} {o : HO} (e : Ex H H') : Ex (upd H p o) (upd H' p o) := fun a u ha => by
  by_cases h : a = p
  · subst h; rw [upd_same] at ha ⊢; exact ha
  · rw [upd_ne h] at ha ⊢; exact e a u ha

theorem Ex.rd {H H' : Hp} {a : Addr} {u : HO} (e : Ex H H') (h : Rd H a u) : Rd H' a u := h.elim (fun h => .inl (e a _ h)) fun ⟨o, h⟩ => .inr ⟨o, e a _ h⟩
theorem Ex.l {K : PySem.W.Frag} {H H' : Hp} {a : Addr} {xs : List V} (e : Ex H H') (h : SqL K H a xs) : SqL K H' a xs := h.elim (fun h => .inl (e.rd h)) .inr
theorem Ex.t {K : PySem.W.Frag} {H H' : Hp} {a : Addr} {xs : List V} (e : Ex H H') (h : SqT K H a xs) : SqT K H' a xs := h.elim (fun h => .inl (e.rd h)) .inr
theorem sl {H : Hp} {a : Addr} {xs : List V} (h : H a = some (.lst xs)) : Rd H a (.lst xs) := .inl h
theorem st {K : PySem.W.Frag} {H : Hp} {a : Addr} {xs : List V} (h : H a = some (.tup xs)) : SqT K H a xs := .inl (.inl h)

section
variable {K : PySem.W.Frag} {H H' : Hp}
mutual
theorem DV.mono (e : Ex H H') : ∀ {v : V} {d : D}, DV K H v d → DV K H' v d
  | _, _, .non => .non
  | _, _, .bl b => .bl b
  | _, _, .int i => .int i
  | _, _, .str s => .str s
  | _, _, .ty n => .ty n
  | _, _, .ob a => .ob a
  | _, _, .tup h hs => .tup (e _ _ h) (DVs.mono e hs)
  | _, _, .dK h hs => .dK (e.rd h) (DFs.mono e hs)
  | _, _, .dT h hs => .dT (e.rd h) (DFs.mono e hs)
  | _, _, .lst h hs => .lst (e.rd h) (DVs.mono e hs)
  | _, _, .rdl h hs => .rdl (e.l h) (DVs.mono e hs)
  | _, _, .ins h hs => .ins (e _ _ h) (DFs.mono e hs)
theorem DVs.mono (e : Ex H H') : ∀ {v : List V} {d : List D}, DVs K H v d → DVs K H' v d
  | _, _, .nil => .nil
  | _, _, .cons h hs => .cons (DV.mono e h) (DVs.mono e hs)
theorem DFs.mono (e : Ex H H') : ∀ {κ : Type} {v : List (κ × V)} {d : List (κ × D)}, DFs K H v d → DFs K H' v d
  | _, _, _, .nil => .nil
  | _, _, _, .cons h hs => .cons (DV.mono e h) (DFs.mono e hs)
end
theorem DVs.length : ∀ {vs : List V} {ds : List D}, DVs K H vs ds → vs.length = ds.length
  | _, _, .nil => rfl
  | _, _, .cons _ hs => by rw [List.length_cons, List.length_cons, DVs.length hs]
theorem DVs.get : ∀ {vs : List V} {ds : List D} {i : Nat} {v : V}, DVs K H vs ds → vs[i]? = some v → ∃ d, ds[i]? = some d ∧ DV K H v d
  | _, _, _, _, .nil, e => by simp at e
  | _, _, 0, _, .cons h _, e => by simp at e; subst e; exact ⟨_, rfl, h⟩
  | _, _, i + 1, v, .cons _ hs, e => by
    obtain ⟨d, h1, h2⟩ := DVs.get (i := i) (v := v) hs (by simpa using e)
    exact ⟨d, by simpa using h1, h2⟩
theorem DVs.getD : ∀ {vs : List V} {ds : List D} {i : Nat} {d : D}, DVs K H vs ds → ds[i]? = some d → ∃ v, vs[i]? = some v ∧ DV K H v d
  | _, _, _, _, .nil, e => by simp at e
  | _, _, 0, _, .cons h _, e => by simp at e; subst e; exact ⟨_, rfl, h⟩
  | _, _, i + 1, d, .cons _ hs, e => by
    obtain ⟨v, h1, h2⟩ := DVs.getD (i := i) (d := d) hs (by simpa using e)
    exact ⟨v, by simpa using h1, h2⟩
theorem DVs.append : ∀ {vs : List V} {ds : List D} {ws : List V} {es : List D}, DVs K H vs ds → DVs K H ws es → DVs K H (vs ++ ws) (ds ++ es)
  | _, _, _, _, .nil, h => h
  | _, _, _, _, .cons h hs, h2 => .cons h (DVs.append hs h2)
theorem DVs.take : ∀ {vs : List V} {ds : List D} (n : Nat), DVs K H vs ds → DVs K H (vs.take n) (ds.take n)
  | _, _, 0, _ => .nil
  | _, _, _ + 1, .nil => .nil
  | _, _, n + 1, .cons h hs => .cons h (DVs.take n hs)
theorem DVs.drop : ∀ {vs : List V} {ds : List D} (n : Nat), DVs K H vs ds → DVs K H (vs.drop n) (ds.drop n)
  | _, _, 0, h => h
  | _, _, _ + 1, .nil => .nil
  | _, _, n + 1, .cons _ hs => DVs.drop n hs
theorem DVs.mem : ∀ {vs : List V} {ds : List D} {v : V}, DVs K H vs ds → v ∈ vs → ∃ d, d ∈ ds ∧ DV K H v d
  | _, _, _, .nil, h => by cases h
  | _, _, v, .cons h hs, m => by
    rcases List.mem_cons.mp m with e | m
    · subst e; exact ⟨_, List.mem_cons_self, h⟩
    · obtain ⟨d, h1, h2⟩ := DVs.mem hs m
      exact ⟨d, List.mem_cons_of_mem _ h1, h2⟩
theorem DFs.lookup : ∀ {vs : List (Str × V)} {ds : List (Str × D)} {n : Str} {d : D}, DFs K H vs ds → ds.lookup n = some d → ∃ v, vs.lookup n = some v ∧ DV K H v d
  | _, _, _, _, .nil, h => by simp [List.lookup] at h
  | _, _, n, d, .cons (n := m) h hs, e => by
    by_cases q : n == m
    · simp only [List.lookup, q] at e ⊢
      cases e; exact ⟨_, rfl, h⟩
    · simp only [List.lookup, Bool.eq_false_iff.mpr q] at e ⊢
      exact DFs.lookup hs e
theorem DFs.lookup_none : ∀ {vs : List (Str × V)} {ds : List (Str × D)} {n : Str}, DFs K H vs ds → ds.lookup n = none → vs.lookup n = none
  | _, _, _, .nil, _ => rfl
  | _, _, n, .cons (n := m) h hs, e => by
    by_cases q : n == m
    · simp only [List.lookup, q] at e; cases e
    · simp only [List.lookup, Bool.eq_false_iff.mpr q] at e ⊢
      exact DFs.lookup_none hs e
end

/-- (Hs, H) has become (Hs', H'): Hs, the part that the data lean on, has grown by new objects alone -/
structure Gr (Hs H Hs' H' : Hp) : Prop where
  ss : Ex Hs Hs'
  sh : Ex Hs' H'
  hh : Ex H H'
  fr : ∀ b, Hs b = none → H b ≠ none → Hs' b = none
theorem Gr.refl {Hs H : Hp} (e : Ex Hs H) : Gr Hs H Hs H := ⟨Ex.refl _, e, Ex.refl _, fun _ h _ => h⟩
theorem Gr.trans {Hs H Hs1 H1 Hs2 H2 : Hp} (a : Gr Hs H Hs1 H1) (b : Gr Hs1 H1 Hs2 H2) : Gr Hs H Hs2 H2 :=
  ⟨a.ss.trans b.ss, b.sh, a.hh.trans b.hh, fun x h1 h2 => b.fr x (a.fr x h1 h2) (fun h => by
    cases e : H x with
    | none => exact h2 e
    | some o => rw [a.hh x o e] at h; cases h)⟩
/-- a new object joins both -/
theorem Gr.new {Hs H : Hp} {p : Addr} {o : HO} (e : Ex Hs H) (h : H p = none) : Gr Hs H (upd Hs p o) (upd H p o) :=
  ⟨Ex.new (e.back h), e.both, Ex.new h, fun b h1 h2 => by
    by_cases hb : b = p
    · subst hb; exact absurd h h2
    · rw [upd_ne hb]; exact h1⟩
/-- H alone has grown -/
theorem Gr.big {Hs H H' : Hp} (e : Ex Hs H) (e2 : Ex H H') : Gr Hs H Hs H' := ⟨Ex.refl _, e.trans e2, e2, fun _ h _ => h⟩

/-- the wish is met by every value that denotes d -/
def Post (K : PySem.W.Frag) (Hs H : Hp) (Q : VK) (d : D) : Prop := ∀ v Hs' H', Gr Hs H Hs' H' → DV K Hs' v d → Q v H'

/-- an object of one's own, what it holds -/
inductive Cell where
  | lst (ds : List D)
  | ins (C : Addr) (fs : List (Str × D))
  | dK (kvs : List (Key × D))
  | dT (kvs : List (List Key × D))
def CellV (K : PySem.W.Frag) (Hs : Hp) : Cell → HO → Prop
  | .lst ds, .lst vs => DVs K Hs vs ds
  | .ins C fs, .ins C' _ vs => C' = C ∧ DFs K Hs vs fs
  | .dK kvs, .dK vs => DFs K Hs vs kvs
  | .dT kvs, .dT vs => DFs K Hs vs kvs
  | _, _ => False
theorem CellV.mono {K : PySem.W.Frag} {H H' : Hp} (e : Ex H H') : ∀ {c : Cell} {o : HO}, CellV K H c o → CellV K H' c o
  | .lst _, .lst _, h => DVs.mono e h
  | .ins _ _, .ins _ _ _, h => ⟨h.1, DFs.mono e h.2⟩
  | .dK _, .dK _, h => DFs.mono e h
  | .dT _, .dT _, h => DFs.mono e h
  | .lst _, .ins _ _ _, h => h.elim
  | .lst _, .dK _, h => h.elim
  | .lst _, .dT _, h => h.elim
  | .lst _, .tup _, h => h.elim
  | .lst _, .own _, h => h.elim
  | .lst _, .frz _ _, h => h.elim
  | .lst _, .ext _, h => h.elim
  | .ins _ _, .lst _, h => h.elim
  | .ins _ _, .dK _, h => h.elim
  | .ins _ _, .dT _, h => h.elim
  | .ins _ _, .tup _, h => h.elim
  | .ins _ _, .own _, h => h.elim
  | .ins _ _, .frz _ _, h => h.elim
  | .ins _ _, .ext _, h => h.elim
  | .dK _, .lst _, h => h.elim
  | .dK _, .ins _ _ _, h => h.elim
  | .dK _, .dT _, h => h.elim
  | .dK _, .tup _, h => h.elim
  | .dK _, .own _, h => h.elim
  | .dK _, .frz _ _, h => h.elim
  | .dK _, .ext _, h => h.elim
  | .dT _, .lst _, h => h.elim
  | .dT _, .ins _ _ _, h => h.elim
  | .dT _, .dK _, h => h.elim
  | .dT _, .tup _, h => h.elim
  | .dT _, .own _, h => h.elim
  | .dT _, .frz _ _, h => h.elim
  | .dT _, .ext _, h => h.elim
theorem CellV.lst {K : PySem.W.Frag} {H : Hp} {ds : List D} {o : HO} (h : CellV K H (.lst ds) o) : ∃ vs, o = .lst vs ∧ DVs K H vs ds := by
  cases o with
  | lst vs => exact ⟨vs, rfl, h⟩
  | _ => exact h.elim
theorem CellV.ins {K : PySem.W.Frag} {H : Hp} {C : Addr} {fs : List (Str × D)} {o : HO} (h : CellV K H (.ins C fs) o) : ∃ dx vs, o = .ins C dx vs ∧ DFs K H vs fs := by
  cases o with
  | ins C' dx vs =>
    obtain ⟨rfl, h⟩ := h
    exact ⟨dx, vs, rfl, h⟩
  | _ => exact h.elim
/-- what a slot holds: data, or an object of one's own (with further own objects to which it may point), or a list that is only read here (ro) -/
inductive Sl where
  | no
  | d (d : D)
  | own (c : Cell) (gs : List (Addr × Cell))
  | obj (a : Addr) (gs : List (Addr × Cell))
  | ro (ds : List D)
/-- a list of one's own, items all data -/
abbrev Sl.acc (ds : List D) : Sl := .own (.lst ds) []
abbrev Rho := List Sl
/-- o stands at a (a list or dict may be locked) -/
def At (H : Hp) (a : Addr) (o : HO) : Prop := H a = some o ∨ ((∃ ob, H a = some (.frz ob o)) ∧ ∀ C dx vs, o ≠ .ins C dx vs)
theorem At.rd {H : Hp} {a : Addr} {o : HO} (h : At H a o) : Rd H a o := h.elim .inl fun h => .inr h.1
theorem At.ex {H H' : Hp} {a : Addr} {o : HO} (h : At H a o) (e : Ex H H') : At H' a o := h.elim (fun h => .inl (e _ _ h)) fun ⟨⟨ob, h⟩, k⟩ => .inr ⟨⟨ob, e _ _ h⟩, k⟩
theorem At.ins {H : Hp} {a C dx : Addr} {vs : List (Str × V)} (h : At H a (.ins C dx vs)) : H a = some (.ins C dx vs) := h.elim id fun h => absurd rfl (h.2 C dx vs)
/-- the slots hold what is told; lists by what they hold now -/
structure En (K : PySem.W.Frag) (Hs H : Hp) (σ : L2.St) (ρ : Rho) : Prop where
  len : σ.length = ρ.length
  at_ : ∀ (i : Nat) (d : D), ρ[i]? = some (.d d) → ∃ v, σ[i]? = some (some v) ∧ DV K Hs v d
  ro_ : ∀ (i : Nat) (ds : List D), ρ[i]? = some (.ro ds) → ∃ a vs, σ[i]? = some (some (.ref a)) ∧ Rd H a (.lst vs) ∧ DVs K Hs vs ds
  own : ∀ (i : Nat) (c : Cell) (gs : List (Addr × Cell)), ρ[i]? = some (.own c gs) → ∃ a, σ[i]? = some (some (.ref a)) ∧ ∀ g ∈ (a, c) :: gs, ∃ o, At H g.1 o ∧ CellV K Hs g.2 o
  obj : ∀ (i : Nat) (a : Addr) (gs : List (Addr × Cell)), ρ[i]? = some (.obj a gs) → σ[i]? = some (some (.ref a)) ∧ ∀ g ∈ gs, ∃ o, At H g.1 o ∧ CellV K Hs g.2 o
theorem En.lis {K : PySem.W.Frag} {Hs H : Hp} {σ : L2.St} {ρ : Rho} (E : En K Hs H σ ρ) (i : Nat) (ds : List D) (h : (∃ gs, ρ[i]? = some (.own (.lst ds) gs)) ∨ ρ[i]? = some (.ro ds)) : ∃ a vs, σ[i]? = some (some (.ref a)) ∧ Rd H a (.lst vs) ∧ DVs K Hs vs ds := by
  rcases h with ⟨gs, h⟩ | h
  · obtain ⟨a, h1, h2⟩ := E.own i _ gs h
    obtain ⟨o, h3, h4⟩ := h2 _ List.mem_cons_self
    obtain ⟨vs, rfl, h5⟩ := h4.lst
    exact ⟨a, vs, h1, h3.rd, h5⟩
  · exact E.ro_ i ds h
theorem En.step {K : PySem.W.Frag} {Hs H Hs' H' : Hp} {σ : L2.St} {ρ : Rho} (h : En K Hs H σ ρ) (g : Gr Hs H Hs' H') : En K Hs' H' σ ρ :=
  ⟨h.len, fun i d hd => let ⟨v, h1, h2⟩ := h.at_ i d hd; ⟨v, h1, h2.mono g.ss⟩, fun i ds hd => let ⟨a, vs, h1, h2, h3⟩ := h.ro_ i ds hd; ⟨a, vs, h1, g.hh.rd h2, h3.mono g.ss⟩,
    fun i c gs hd => let ⟨a, h1, h2⟩ := h.own i c gs hd; ⟨a, h1, fun x hx => let ⟨o, h3, h4⟩ := h2 x hx; ⟨o, h3.ex g.hh, h4.mono g.ss⟩⟩,
    fun i a gs hd => let ⟨h1, h2⟩ := h.obj i a gs hd; ⟨h1, fun x hx => let ⟨o, h3, h4⟩ := h2 x hx; ⟨o, h3.ex g.hh, h4.mono g.ss⟩⟩⟩
theorem get_set {α : Type} {l : List α} {i j : Nat} {a b : α} (h : (l.set i a)[j]? = some b) : (i = j ∧ b = a) ∨ (i ≠ j ∧ l[j]? = some b) := by
  by_cases e : i = j
  · subst e
    have hlt : i < l.length := by
      obtain ⟨h1, _⟩ := List.getElem?_eq_some_iff.mp h
      simpa using h1
    rw [List.getElem?_set_self hlt] at h
    exact .inl ⟨rfl, (Option.some.inj h).symm⟩
  · rw [List.getElem?_set_ne e] at h
    exact .inr ⟨e, h⟩
theorem set_at {α β : Type} {l : List α} {m : List β} {i : Nat} {a : α} {b c : β} (hl : l.length = m.length) (h : (m.set i b)[i]? = some c) : (l.set i a)[i]? = some a := by
  have hlt : i < m.length := by
    obtain ⟨h1, _⟩ := List.getElem?_eq_some_iff.mp h
    simpa using h1
  exact List.getElem?_set_self (by omega)
theorem En.set {K : PySem.W.Frag} {Hs H : Hp} {σ : L2.St} {ρ : Rho} {i : Nat} {v : V} {d : D} (h : En K Hs H σ ρ) (hv : DV K Hs v d) : En K Hs H (σ.set i (some v)) (ρ.set i (.d d)) := by
  refine ⟨by simp [h.len], fun j e hj => ?_, fun j ds hj => ?_, fun j ds gs hj => ?_, fun j ds gs hj => ?_⟩
  · rcases get_set hj with ⟨rfl, q⟩ | ⟨q, hj'⟩
    · cases q; exact ⟨v, set_at h.len hj, hv⟩
    · rw [List.getElem?_set_ne q]; exact h.at_ j e hj'
  · rcases get_set hj with ⟨rfl, q⟩ | ⟨q, hj'⟩
    · cases q
    · rw [List.getElem?_set_ne q]
      exact h.ro_ j ds hj'
  · rcases get_set hj with ⟨rfl, q⟩ | ⟨q, hj'⟩
    · cases q
    · rw [List.getElem?_set_ne q]
      exact h.own j ds gs hj'
  · rcases get_set hj with ⟨rfl, q⟩ | ⟨q, hj'⟩
    · cases q
    · rw [List.getElem?_set_ne q]
      exact h.obj j ds gs hj'

/-! ### the whole of what a part of the text may be read as -/
def wE (X : Cx) (e : Expr) : TE := fun σ H Q => ∃ t, PE X e t ∧ t σ H Q
def wT (X : Cx) (e : Expr) : TT := fun σ H Q => ∃ t, PT X e t ∧ t σ H Q
def wW (X : Cx) (e : Expr) : TT := fun σ H Q => ∃ t, PW X e t ∧ t σ H Q
def wA (X : Cx) (es : List Expr) : TA := fun σ H Q => ∃ t, PA X es t ∧ t σ H Q
def wS (X : Cx) (st : Stmt) : TS := fun D σ H => ∃ t, PS X st t ∧ t D σ H
def wB (X : Cx) (sts : List Stmt) : TS := fun D σ H => ∃ t, PSs X sts t ∧ t D σ H
theorem pe_w {X : Cx} {e : Expr} : PE X e (wE X e) := ⟨fun pins s σ H Q I ⟨_, p, h⟩ => p.run pins s σ H Q I h⟩
theorem pt_w {X : Cx} {e : Expr} : PT X e (wT X e) := ⟨fun pins s σ H Q I ⟨_, p, h⟩ => p.run pins s σ H Q I h⟩
theorem pw_w {X : Cx} {e : Expr} : PW X e (wW X e) := ⟨fun wh pins s σ H Q I ⟨_, p, h⟩ => p.run wh pins s σ H Q I h⟩
theorem pa_w {X : Cx} {es : List Expr} : PA X es (wA X es) := ⟨fun pos pins s σ H Q I ⟨_, p, h⟩ => p.run pos pins s σ H Q I h⟩
theorem ps_w {X : Cx} {st : Stmt} : PS X st (wS X st) := ⟨fun pins s σ H D I ⟨_, p, h⟩ => p.run pins s σ H D I h⟩
theorem pss_w {X : Cx} {sts : List Stmt} : PSs X sts (wB X sts) := ⟨fun pins s σ H D I ⟨_, p, h⟩ => p.run pins s σ H D I h⟩

/-! ### evaluation to data -/
def EvD (X : Cx) (e : Expr) (ρ : Rho) (d : D) : Prop := ∀ σ Hs H, En X.K Hs H σ ρ → Ex Hs H → ∀ Q : VK, Post X.K Hs H Q d → wE X e σ H Q
def EvT (X : Cx) (e : Expr) (ρ : Rho) (b : Bool) : Prop := ∀ σ Hs H, En X.K Hs H σ ρ → Ex Hs H → ∀ Q : Bool → Hp → Prop, (∀ Hs' H', Gr Hs H Hs' H' → Q b H') → wT X e σ H Q
def EvW (X : Cx) (e : Expr) (ρ : Rho) (b : Bool) : Prop := ∀ σ Hs H, En X.K Hs H σ ρ → Ex Hs H → ∀ Q : Bool → Hp → Prop, (∀ Hs' H', Gr Hs H Hs' H' → Q b H') → wW X e σ H Q
def EvA (X : Cx) (es : List Expr) (ρ : Rho) (ds : List D) : Prop := ∀ σ Hs H, En X.K Hs H σ ρ → Ex Hs H → ∀ Q : List V → Hp → Prop, (∀ vs Hs' H', Gr Hs H Hs' H' → DVs X.K Hs' vs ds → Q vs H') → wA X es σ H Q
/-- evaluation to a list (wherever it stands) of such data -/
def EvL (X : Cx) (e : Expr) (ρ : Rho) (ds : List D) : Prop := ∀ σ Hs H, En X.K Hs H σ ρ → Ex Hs H → ∀ Q : VK, (∀ a vs Hs' H', Gr Hs H Hs' H' → Rd H' a (.lst vs) → DVs X.K Hs' vs ds → Q (.ref a) H') → wE X e σ H Q
/-- evaluation to a new list that nothing else leans on -/
def EvO (X : Cx) (e : Expr) (ρ : Rho) (ds : List D) : Prop := ∀ σ Hs H, En X.K Hs H σ ρ → Ex Hs H → ∀ Q : VK, (∀ a vs Hs' H', Gr Hs H Hs' H' → H' a = some (.lst vs) → H a = none → Hs' a = none → DVs X.K Hs' vs ds → Q (.ref a) H') → wE X e σ H Q
/-- operations by data -/
def RvD (K : PySem.W.Frag) (r : R2) (x y z : D) : Prop := ∀ Hs H u v, Ex Hs H → DV K Hs u x → DV K Hs v y → ∀ Q : VK, Post K Hs H Q z → r u v H Q
def RuD (K : PySem.W.Frag) (r : V → Hp → VK → Prop) (x z : D) : Prop := ∀ Hs H u, Ex Hs H → DV K Hs u x → ∀ Q : VK, Post K Hs H Q z → r u H Q
def RcD (K : PySem.W.Frag) (r : List V → Hp → VK → Prop) (xs : List D) (z : D) : Prop := ∀ Hs H us, Ex Hs H → DVs K Hs us xs → ∀ Q : VK, Post K Hs H Q z → r us H Q

section
variable {X : Cx} {ρ : Rho} {a b c e : Expr} {es : List Expr} {x y z d : D} {ds : List D} {pos p : Pos}

theorem EvD.to (h : EvD X e ρ d) (q : d = z) : EvD X e ρ z := q ▸ h
/-- the new list joins the part that data lean on -/
theorem Gr.join {Hs H Hs' H' : Hp} {a : Addr} {o : HO} (g : Gr Hs H Hs' H') (h : H' a = some o) (n : H a = none) (ns : Hs' a = none) : Gr Hs H (upd Hs' a o) H' :=
  ⟨g.ss.trans (Ex.new ns), fun b x hb => by
    by_cases e : b = a
    · subst e; rw [upd_same] at hb; cases hb; exact h
    · rw [upd_ne e] at hb; exact g.sh _ _ hb, g.hh, fun b h1 h2 => by
    rw [upd_ne]
    · exact g.fr b h1 h2
    · intro z; subst z; exact h2 n⟩
theorem EvO.dd (h : EvO X e ρ ds) : EvD X e ρ (.lst ds) := fun σ Hs H E ex Q k => h σ Hs H E ex Q fun a vs Hs' H' g h1 h2 h3 dv => k _ _ _ (g.join h1 h2 h3) (.lst (sl upd_same) (dv.mono (Ex.new h3)))
theorem EvO.l (h : EvO X e ρ ds) : EvL X e ρ ds := fun σ Hs H E ex Q k => h σ Hs H E ex Q fun a vs Hs' H' g h1 h2 h3 dv => k a vs Hs' H' g (sl h1) dv
theorem EvD.l (h : EvD X e ρ (.lst ds)) : EvL X e ρ ds := fun σ Hs H E ex Q k => h σ Hs H E ex Q fun v Hs' H' g dv => by
  cases dv with
  | lst h1 h2 => exact k _ _ Hs' H' g (g.sh.rd h1) h2
/-- a name of a list -/
theorem nl (i : Nat) {n : Str} {pos : Pos} (hd : (∃ gs, ρ[i]? = some (.own (.lst ds) gs)) ∨ ρ[i]? = some (.ro ds)) (hN : X.N[i]? = some n) (hv : Vis X.env.scope n := by first | exact .inl rfl | exact .inr (.inl rfl) | exact .inr (.inr rfl))
    (h1 : (n == ("__debug__" : Str)) = false := by decide) (h2 : (n == ("__classdict__" : Str)) = false := by decide) : EvL X (.Name n pos) ρ ds := fun σ Hs H E e Q k => by
  obtain ⟨a, vs, hv', hr, dv⟩ := E.lis i ds hd
  exact ⟨tVar i, pe_var hN hv h1 h2, .ref a, hv', k a vs Hs H (Gr.refl e) hr dv⟩
/-- an own list by its address -/
theorem lob (i : Nat) {fs : Cell} {gs : List (Addr × Cell)} {a : Addr} (he : EvD X e ρ (.ob a)) (hd : ρ[i]? = some (.own fs gs)) (hg : (a, .lst ds) ∈ gs) : EvL X e ρ ds := fun σ Hs H E ex Q k =>
  he σ Hs H E ex Q fun v Hs' H' g dv => by
    obtain ⟨_, _, h⟩ := (E.step g).own i fs gs hd
    obtain ⟨o, h1, h2⟩ := h _ (List.mem_cons_of_mem _ hg)
    obtain ⟨vs, rfl, h2⟩ := h2.lst
    cases dv
    exact k a vs Hs' H' g h1.rd h2
/-- an own list by its address -/
theorem lobj (i : Nat) {b : Addr} {gs : List (Addr × Cell)} {a : Addr} (he : EvD X e ρ (.ob a)) (hd : ρ[i]? = some (.obj b gs)) (hg : (a, .lst ds) ∈ gs) : EvL X e ρ ds := fun σ Hs H E ex Q k =>
  he σ Hs H E ex Q fun v Hs' H' g dv => by
    obtain ⟨_, h⟩ := (E.step g).obj i b gs hd
    obtain ⟨o, h1, h2⟩ := h _ hg
    obtain ⟨vs, rfl, h2⟩ := h2.lst
    cases dv
    exact k a vs Hs' H' g h1.rd h2
/-- the name of an own object -/
theorem nmO (i : Nat) {n : Str} {pos : Pos} {a : Addr} {gs : List (Addr × Cell)} (hd : ρ[i]? = some (.obj a gs)) (hN : X.N[i]? = some n) (hv : Vis X.env.scope n := by first | exact .inl rfl | exact .inr (.inl rfl) | exact .inr (.inr rfl))
    (h1 : (n == ("__debug__" : Str)) = false := by decide) (h2 : (n == ("__classdict__" : Str)) = false := by decide) : EvD X (.Name n pos) ρ (.ob a) := fun σ Hs H E e Q k =>
  ⟨tVar i, pe_var hN hv h1 h2, .ref a, (E.obj i a gs hd).1, k _ Hs H (Gr.refl e) (.ob a)⟩
/-- lists as if they were data: for what comes out bare -/
def frz1 : Sl → Sl
  | .own (.lst ds) _ => .d (.lst ds)
  | .own _ _ => .no
  | .obj a _ => .d (.ob a)
  | .ro ds => .d (.lst ds)
  | x => x
def frz (ρ : Rho) : Rho := ρ.map frz1
theorem frz_at {i : Nat} {x : Sl} (h : (frz ρ)[i]? = some x) : (∃ ds, x = .d (.lst ds) ∧ ((∃ gs, ρ[i]? = some (.own (.lst ds) gs)) ∨ ρ[i]? = some (.ro ds))) ∨ x = .no ∨ (∃ a gs, x = .d (.ob a) ∧ ρ[i]? = some (.obj a gs)) ∨ (ρ[i]? = some x ∧ ∀ c ds gs a, x ≠ .own c gs ∧ x ≠ .ro ds ∧ x ≠ .obj a gs) := by
  unfold frz at h
  rw [List.getElem?_map] at h
  cases e : ρ[i]? with
  | none => rw [e] at h; cases h
  | some y =>
    rw [e] at h
    have h' : frz1 y = x := Option.some.inj h
    subst h'
    cases y with
    | no => exact .inr (.inl rfl)
    | d y => exact .inr (.inr (.inr ⟨rfl, fun c ds gs a => ⟨(fun z => nomatch z), (fun z => nomatch z), fun z => nomatch z⟩⟩))
    | obj a gs => exact .inr (.inr (.inl ⟨a, gs, rfl, rfl⟩))
    | own c gs =>
      cases c with
      | lst es => exact .inl ⟨es, rfl, .inl ⟨gs, rfl⟩⟩
      | _ => exact .inr (.inl rfl)
    | ro es => exact .inl ⟨es, rfl, .inr rfl⟩
open Classical in
/-- the part of the heap with the lists that the slots hold -/
noncomputable def withL (Hs H : Hp) (σ : L2.St) (ρ : Rho) : Hp := fun b => match Hs b with
  | some o => some o
  | none => if ∃ (i : Nat) (ds : List D), ((∃ gs, ρ[i]? = some (.own (.lst ds) gs)) ∨ ρ[i]? = some (.ro ds)) ∧ σ[i]? = some (some (.ref b)) then H b else none
theorem En.withL {K : PySem.W.Frag} {Hs H : Hp} {σ : L2.St} (E : En K Hs H σ ρ) (ex : Ex Hs H) : Ex Hs (withL Hs H σ ρ) ∧ Ex (DL.withL Hs H σ ρ) H ∧ En K (DL.withL Hs H σ ρ) H σ (frz ρ) := by
  have e1 : Ex Hs (DL.withL Hs H σ ρ) := fun a o h => by unfold DL.withL; rw [h]
  have e2 : Ex (DL.withL Hs H σ ρ) H := fun a o h => by
    unfold DL.withL at h
    cases q : Hs a with
    | some u => rw [q] at h; cases h; exact ex _ _ q
    | none =>
      rw [q] at h
      simp only at h
      split at h
      · exact h
      · cases h
  refine ⟨e1, e2, by unfold frz; rw [List.length_map]; exact E.len, fun i d h => ?_, fun i ds h => ?_, fun i ds gs h => ?_, fun i ds gs h => ?_⟩
  · rcases frz_at h with ⟨ds, q, h'⟩ | q | ⟨a, gs, q, h'⟩ | ⟨h', _⟩
    · cases q
      obtain ⟨a, vs, h1, h2, h3⟩ := E.lis i ds h'
      refine ⟨_, h1, .lst ?_ (h3.mono e1)⟩
      cases q : Hs a with
      | some u =>
        have := ex _ _ q
        rcases h2 with h2 | ⟨o, h2⟩
        · rw [this] at h2; cases h2; exact .inl (e1 _ _ q)
        · rw [this] at h2; cases h2; exact .inr ⟨o, e1 _ _ q⟩
      | none =>
        have ew : DL.withL Hs H σ ρ a = H a := by
          unfold DL.withL
          rw [q]
          simp only
          rw [if_pos ⟨i, ds, h', h1⟩]
        unfold Rd
        rw [ew]
        exact h2
    · cases q
    · cases q
      exact ⟨_, (E.obj i a gs h').1, .ob a⟩
    · obtain ⟨v, h1, h2⟩ := E.at_ i d h'
      exact ⟨v, h1, h2.mono e1⟩
  · rcases frz_at h with ⟨es, q, _⟩ | q | ⟨_, _, q, _⟩ | ⟨_, q⟩
    · cases q
    · cases q
    · cases q
    · exact absurd rfl (q (.lst []) ds [] 0).2.1
  · rcases frz_at h with ⟨es, q, _⟩ | q | ⟨_, _, q, _⟩ | ⟨_, q⟩
    · cases q
    · cases q
    · cases q
    · exact absurd rfl (q ds [] gs 0).1
  · rcases frz_at h with ⟨es, q, _⟩ | q | ⟨_, _, q, _⟩ | ⟨_, q⟩
    · cases q
    · cases q
    · cases q
    · exact absurd rfl (q (.lst []) [] gs ds).2.2
/-- a test may read the lists as data -/
theorem EvT.frz {k : Bool} (h : EvT X e (frz ρ) k) : EvT X e ρ k := fun σ Hs H E ex Q q =>
  let ⟨_, e2, en⟩ := E.withL ex
  h σ _ H en e2 Q fun Hs' H' g => q Hs H' (Gr.big ex g.hh)
/-- data that lean on no object -/
def bare : D → Bool
  | .non => true
  | .bl _ => true
  | .int _ => true
  | .str _ => true
  | .ty _ => true
  | .ob _ => true
  | _ => false
theorem dv_bare {K : PySem.W.Frag} {H H' : Hp} {v : V} (h : DV K H v d) (hb : bare d = true) : DV K H' v d := by
  cases h with
  | non => exact .non
  | bl b => exact .bl b
  | int i => exact .int i
  | str s => exact .str s
  | ty n => exact .ty n
  | ob a => exact .ob a
  | _ => cases hb
theorem EvD.frz (h : EvD X e (frz ρ) d) (hb : bare d = true := by rfl) : EvD X e ρ d := fun σ Hs H E ex Q q =>
  let ⟨_, e2, en⟩ := E.withL ex
  h σ _ H en e2 Q fun v Hs' H' g dv => q v Hs H' (Gr.big ex g.hh) (dv_bare dv hb)
theorem EvL.to {es : List D} (h : EvL X e ρ ds) (q : ds = es) : EvL X e ρ es := q ▸ h
theorem EvO.to {es : List D} (h : EvO X e ρ ds) (q : ds = es) : EvO X e ρ es := q ▸ h
theorem EvT.to {k m : Bool} (h : EvT X e ρ k) (q : k = m) : EvT X e ρ m := q ▸ h

/-- a name -/
theorem nm (i : Nat) {n : Str} {pos : Pos} (hd : ρ[i]? = some (.d d)) (hN : X.N[i]? = some n) (hv : Vis X.env.scope n := by first | exact .inl rfl | exact .inr (.inl rfl) | exact .inr (.inr rfl))
    (h1 : (n == ("__debug__" : Str)) = false := by decide) (h2 : (n == ("__classdict__" : Str)) = false := by decide) : EvD X (.Name n pos) ρ d := fun σ Hs H E e Q k => by
  obtain ⟨v, hv', dv⟩ := E.at_ i d hd
  exact ⟨tVar i, pe_var hN hv h1 h2, v, hv', k v Hs H (Gr.refl e) dv⟩
theorem ci {i : Int} {j : Nat} : EvD X (.Constant (.int i) j pos) ρ (.int i) := fun _ _ _ _ e _ k => ⟨_, pe_int, k _ _ _ (Gr.refl e) (.int i)⟩
theorem cb {i : Bool} {j : Nat} : EvD X (.Constant (.bool i) j pos) ρ (.bl i) := fun _ _ _ _ e _ k => ⟨_, pe_bl, k _ _ _ (Gr.refl e) (.bl i)⟩
theorem cn {j : Nat} : EvD X (.Constant .none j pos) ρ .non := fun _ _ _ _ e _ k => ⟨_, pe_non, k _ _ _ (Gr.refl e) .non⟩
theorem cs {s : Str} {j : Nat} : EvD X (.Constant (.str s) j pos) ρ (.str s) := fun _ _ _ _ e _ k => ⟨_, pe_str, k _ _ _ (Gr.refl e) (.str s)⟩
/-- a built-in type's name -/
theorem cty {n : Str} {T : String} (hm : X.mg n = none) (hv : bootBuiltins n = some (.type T)) (hg : Gl X n := by rfl) (hn : n ≠ "__name__" := by decide) (hd : (n == ("__debug__" : Str)) = false := by decide) : EvD X (.Name n pos) ρ (.ty T) :=
  fun _ _ _ _ e _ k => ⟨_, pe_bltn hg hm hv (show RelV (.ty T) (.type T) from rfl) hn hd, k _ _ _ (Gr.refl e) (.ty T)⟩

theorem ea_nil : EvA X [] ρ [] := fun _ _ _ _ e _ k => ⟨_, pa_nil, k _ _ _ (Gr.refl e) .nil⟩
theorem ea_cons (ha : EvD X e ρ d) (hs : EvA X es ρ ds) (hst : starEach (e :: es) X.env = (false, eval e X.env) :: starEach es X.env := by rfl) : EvA X (e :: es) ρ (d :: ds) := fun σ Hs H E ex Q k =>
  ⟨_, pa_cons pe_w pa_w (by first | exact hst), ha σ Hs H E ex _ fun v Hs1 H1 g dv => hs σ Hs1 H1 (E.step g) g.sh _ fun vs Hs2 H2 g2 dvs => k _ _ _ (g.trans g2) (.cons (dv.mono g2.ss) dvs)⟩

theorem e_op {op : Operator} {r : R2} (ho : OpR X (binaryOp op) r) (ha : EvD X a ρ x) (hb : EvD X b ρ y) (hr : RvD X.K r x y z) : EvD X (.BinOp a op b pos) ρ z := fun σ Hs H E ex Q k =>
  ⟨_, pe_op ho pe_w pe_w, ha σ Hs H E ex _ fun u Hs1 H1 g1 d1 => hb σ Hs1 H1 (E.step g1) g1.sh _ fun v Hs2 H2 g2 d2 =>
    hr Hs2 H2 u v g2.sh (d1.mono g2.ss) d2 Q fun w Hs3 H3 g3 d3 => k w Hs3 H3 ((g1.trans g2).trans g3) d3⟩
theorem e_un {op : UnaryOp} {r : V → Hp → VK → Prop} (ho : UnR X (unaryOp op) r) (ha : EvD X a ρ x) (hr : RuD X.K r x z) : EvD X (.UnaryOp op a pos) ρ z := fun σ Hs H E ex Q k =>
  ⟨_, pe_un ho pe_w, ha σ Hs H E ex _ fun u Hs1 H1 g1 d1 => hr Hs1 H1 u g1.sh d1 Q fun w Hs3 H3 g3 d3 => k w Hs3 H3 (g1.trans g3) d3⟩
theorem e_cmp {op : CmpOp} {r : R2} (ho : OpR X (compareOp op) r) (ha : EvD X a ρ x) (hb : EvD X b ρ y) (hr : RvD X.K r x y z) (hm : behindInMarks op b = false := by first | exact nomark _ | rfl) : EvD X (.Compare a [op] [b] pos) ρ z := fun σ Hs H E ex Q k =>
  ⟨_, pe_cmpR ho pe_w pe_w hm, ha σ Hs H E ex _ fun u Hs1 H1 g1 d1 => hb σ Hs1 H1 (E.step g1) g1.sh _ fun v Hs2 H2 g2 d2 =>
    hr Hs2 H2 u v g2.sh (d1.mono g2.ss) d2 Q fun w Hs3 H3 g3 d3 => k w Hs3 H3 ((g1.trans g2).trans g3) d3⟩
theorem t_cmp {op : CmpOp} {r : R2} {k : Bool} (ho : OpR X (compareOp op) r) (ha : EvD X a ρ x) (hb : EvD X b ρ y) (hr : RvD X.K r x y (.bl k)) (hm : behindInMarks op b = false := by first | exact nomark _ | rfl) : EvT X (.Compare a [op] [b] pos) ρ k := fun σ Hs H E ex Q q =>
  ⟨_, pt_cmpR ho pe_w pe_w hm, ha σ Hs H E ex _ fun u Hs1 H1 g1 d1 => hb σ Hs1 H1 (E.step g1) g1.sh _ fun v Hs2 H2 g2 d2 =>
    hr Hs2 H2 u v g2.sh (d1.mono g2.ss) d2 _ fun w Hs3 H3 g3 d3 => by cases d3; exact ⟨k, rfl, q Hs3 H3 ((g1.trans g2).trans g3)⟩⟩
/-- an expression whose value is a bool, as a test -/
theorem t_val {k : Bool} (h : EvD X e ρ (.bl k)) (he : ∀ whole, isTrue e X.env whole = (do let v ← whole; standAt e.pos; holding [v] (truthy v)) := by intro _; rfl) : EvT X e ρ k := fun σ Hs H E ex Q q =>
  ⟨_, pt_val pe_w he, h σ Hs H E ex _ fun w Hs3 H3 g3 d3 => by cases d3; exact ⟨k, rfl, q Hs3 H3 g3⟩⟩
theorem t_not {k : Bool} (h : EvT X a ρ k) : EvT X (.UnaryOp .Not a pos) ρ (!k) := fun σ Hs H E ex Q q => ⟨_, pt_not pt_w, h σ Hs H E ex _ fun Hs' H' g => q Hs' H' g⟩
theorem e_not {k : Bool} (h : EvD X a ρ (.bl k)) : EvD X (.UnaryOp .Not a pos) ρ (.bl (!k)) := fun σ Hs H E ex Q q =>
  ⟨_, pe_not pe_w, h σ Hs H E ex _ fun w Hs3 H3 g3 d3 => by cases d3; exact ⟨k, rfl, q _ Hs3 H3 g3 (.bl _)⟩⟩
theorem w_and1 {k : Bool} (h : EvT X a ρ k) : EvW X (.BoolOp .And [a] pos) ρ k := fun σ Hs H E ex Q q => ⟨_, pw_and1 pt_w, h σ Hs H E ex Q q⟩
theorem w_or1 {k : Bool} (h : EvT X a ρ k) : EvW X (.BoolOp .Or [a] pos) ρ k := fun σ Hs H E ex Q q => ⟨_, pw_or1 pt_w, h σ Hs H E ex Q q⟩
theorem w_and {k m : Bool} (h : EvT X a ρ k) (h2 : k = true → EvW X (.BoolOp .And (b :: es) pos) ρ m) : EvW X (.BoolOp .And (a :: b :: es) pos) ρ (k && m) := fun σ Hs H E ex Q q =>
  ⟨_, pw_and pt_w pw_w, h σ Hs H E ex _ fun Hs1 H1 g1 => by
    cases k with
    | true => exact h2 rfl σ Hs1 H1 (E.step g1) g1.sh Q fun Hs2 H2 g2 => q Hs2 H2 (g1.trans g2)
    | false => exact q Hs1 H1 g1⟩
theorem w_or {k m : Bool} (h : EvT X a ρ k) (h2 : k = false → EvW X (.BoolOp .Or (b :: es) pos) ρ m) : EvW X (.BoolOp .Or (a :: b :: es) pos) ρ (k || m) := fun σ Hs H E ex Q q =>
  ⟨_, pw_or pt_w pw_w, h σ Hs H E ex _ fun Hs1 H1 g1 => by
    cases k with
    | false => exact h2 rfl σ Hs1 H1 (E.step g1) g1.sh Q fun Hs2 H2 g2 => q Hs2 H2 (g1.trans g2)
    | true => exact q Hs1 H1 g1⟩
theorem t_w {k : Bool} (h : EvW X e ρ k) : EvT X e ρ k := fun σ Hs H E ex Q q => by
  obtain ⟨t, pw, ht⟩ := h σ Hs H E ex Q q
  exact ⟨t, pw.pt, ht⟩
theorem e_one {op : BoolOp} (h : EvD X a ρ d) : EvD X (.BoolOp op [a] pos) ρ d := fun σ Hs H E ex Q q => ⟨_, pe_one pe_w, h σ Hs H E ex Q q⟩
theorem e_and {k m : Bool} (h : EvD X a ρ (.bl k)) (h2 : k = true → EvD X (.BoolOp .And (b :: es) pos) ρ (.bl m)) : EvD X (.BoolOp .And (a :: b :: es) pos) ρ (.bl (k && m)) := fun σ Hs H E ex Q q =>
  ⟨_, pe_and pe_w pe_w, h σ Hs H E ex _ fun w Hs1 H1 g1 d1 => by
    cases d1
    refine ⟨k, rfl, ?_⟩
    cases k with
    | true => exact h2 rfl σ Hs1 H1 (E.step g1) g1.sh Q fun w2 Hs2 H2 g2 d2 => q w2 Hs2 H2 (g1.trans g2) d2
    | false => exact q _ Hs1 H1 g1 (.bl _)⟩
theorem e_or {k m : Bool} (h : EvD X a ρ (.bl k)) (h2 : k = false → EvD X (.BoolOp .Or (b :: es) pos) ρ (.bl m)) : EvD X (.BoolOp .Or (a :: b :: es) pos) ρ (.bl (k || m)) := fun σ Hs H E ex Q q =>
  ⟨_, pe_or pe_w pe_w, h σ Hs H E ex _ fun w Hs1 H1 g1 d1 => by
    cases d1
    refine ⟨k, rfl, ?_⟩
    cases k with
    | false => exact h2 rfl σ Hs1 H1 (E.step g1) g1.sh Q fun w2 Hs2 H2 g2 d2 => q w2 Hs2 H2 (g1.trans g2) d2
    | true => exact q _ Hs1 H1 g1 (.bl _)⟩
theorem e_if {k : Bool} (h : EvT X c ρ k) (h1 : k = true → EvD X a ρ x) (h2 : k = false → EvD X b ρ x) : EvD X (.IfExp c a b pos) ρ x := fun σ Hs H E ex Q q =>
  ⟨_, pe_ifExp pt_w pe_w pe_w, h σ Hs H E ex _ fun Hs1 H1 g1 => by
    cases k with
    | true => exact h1 rfl σ Hs1 H1 (E.step g1) g1.sh Q fun w2 Hs2 H2 g2 d2 => q w2 Hs2 H2 (g1.trans g2) d2
    | false => exact h2 rfl σ Hs1 H1 (E.step g1) g1.sh Q fun w2 Hs2 H2 g2 d2 => q w2 Hs2 H2 (g1.trans g2) d2⟩
theorem small {n : Nat} (h : n ≤ 1000000) : n ≤ sizeLine := Nat.le_trans h (by decide)
theorem e_tup {k : Nat} (h : EvA X es ρ ds) (hl : ds.length ≤ 1000000 := by simp only [List.length_cons, List.length_nil]; omega) : EvD X (.Tuple es k pos) ρ (.tup ds) := fun σ Hs H E ex Q q =>
  ⟨_, pe_tup pa_w, h σ Hs H E ex _ fun vs Hs1 H1 g1 d1 => ⟨by rw [d1.length]; exact small hl, fun p hp =>
    q _ (upd Hs1 p (.tup vs)) _ (g1.trans (Gr.new g1.sh hp)) (.tup upd_same (d1.mono (Ex.new (g1.sh.back hp))))⟩⟩
/-- a new list at p -/
theorem Gr.fresh {Hs H Hs1 H1 : Hp} {p : Addr} {o : HO} (g : Gr Hs H Hs1 H1) (hp : H1 p = none) : Gr Hs H Hs1 (upd H1 p o) ∧ H p = none ∧ Hs1 p = none :=
  ⟨⟨g.ss, g.sh.trans (Ex.new hp), g.hh.trans (Ex.new hp), g.fr⟩, g.hh.back hp, g.sh.back hp⟩
theorem eo_lst (h : EvA X es ρ ds) (hl : ds.length ≤ 1000000 := by simp only [List.length_cons, List.length_nil]; omega) : EvO X (.List es pos) ρ ds := fun σ Hs H E ex Q q =>
  ⟨_, pe_lst pa_w, h σ Hs H E ex _ fun vs Hs1 H1 g1 d1 => ⟨by rw [d1.length]; exact small hl, fun p hp =>
    let ⟨a, b, c⟩ := g1.fresh hp
    q p vs Hs1 _ a upd_same b c d1⟩⟩
theorem e_lst (h : EvA X es ρ ds) (hl : ds.length ≤ 1000000 := by simp only [List.length_cons, List.length_nil]; omega) : EvD X (.List es pos) ρ (.lst ds) := (eo_lst h hl).dd
end

/-- list + list, each tracked or locked -/
def rCatR : R2 := fun x y H Q => ∃ l b xs zs, x = .ref l ∧ y = .ref b ∧ Rd H l (.lst xs) ∧ Rd H b (.lst zs) ∧ xs.length + zs.length ≤ sizeLine ∧ ∀ p, H p = none → Q (.ref p) (upd H p (.lst (xs ++ zs)))
theorem op_catR {X : Cx} : OpR X (binaryOp .Add) rCatR := by
  intro pins s σ H x y v u Q I rx ry h
  obtain ⟨l, b, xs, zs, rfl, rfl, hH, hB, hz, q⟩ := h
  cases rx
  cases ry
  obtain ⟨z, its, n, r, e⟩ := hH.ok I.hok
  obtain ⟨z2, its2, n2, r2, e2⟩ := hB.ok I.hok
  have hl := r.length
  have hl2 := r2.length
  refine PySem.P.add_list e e2 ?_ (by rw [List.size_toArray, List.size_toArray]; omega)
  have ea : its.toArray ++ its2.toArray = (its ++ its2).toArray := by simp
  rw [ea]
  exact ⟨.ref _, _, I.lnew (t' := s.toks) (r.append r2) (by rw [List.length_append]; omega), rfl, q _ I.fresh⟩
theorem OpR.or {X : Cx} {f : Value → Value → Sem Value} {r r' : R2} (h : OpR X f r) (h' : OpR X f r') : OpR X f (fun x y H Q => r x y H Q ∨ r' x y H Q) := by
  intro pins s σ H x y v u Q I rx ry q
  rcases q with q | q
  · exact h pins s σ H x y v u Q I rx ry q
  · exact h' pins s σ H x y v u Q I rx ry q

/-! ### operations by data -/
section
variable {K : PySem.W.Frag} {X : Cx} {ρ : Rho} {x y z d : D} {i j : Int}
theorem rv_i {g : Int → Int → V} (hz : ∀ H, DV K H (g i j) z) : RvD K (rI0 g) (.int i) (.int j) z := fun Hs H u v e h1 h2 Q k => by
  cases h1; cases h2
  exact ⟨i, j, rfl, rfl, k _ _ _ (Gr.refl e) (hz _)⟩
theorem rv_ic {C : Int → Int → Prop} {g : Int → Int → V} (hc : C i j) (hz : ∀ H, DV K H (g i j) z) : RvD K (rI C g) (.int i) (.int j) z := fun Hs H u v e h1 h2 Q k => by
  cases h1; cases h2
  exact ⟨i, j, rfl, rfl, hc, k _ _ _ (Gr.refl e) (hz _)⟩
theorem rv_add : RvD K (rI0 fun i j => .int (i + j)) (.int i) (.int j) (.int (i + j)) := rv_i fun _ => .int _
theorem rv_sub : RvD K (rI0 fun i j => .int (i - j)) (.int i) (.int j) (.int (i - j)) := rv_i fun _ => .int _
theorem rv_mul (h : CMul i j) : RvD K (rI CMul fun i j => .int (i * j)) (.int i) (.int j) (.int (i * j)) := rv_ic h fun _ => .int _
theorem rv_div (h : 0 < j) (h2 : j < 1073741824) : RvD K (rI CDiv fun i j => .int (i / j)) (.int i) (.int j) (.int (i / j)) := rv_ic ⟨h, h2⟩ fun _ => .int _
theorem rv_mod (h : 0 < j) : RvD K (rI (fun _ j => 0 < j) fun i j => .int (i % j)) (.int i) (.int j) (.int (i % j)) := rv_ic h fun _ => .int _
theorem rv_cmp {p : Int → Int → Bool} : RvD K (rI0 fun i j => .bl (p i j)) (.int i) (.int j) (.bl (p i j)) := rv_i fun _ => .bl _
theorem rv_eqI : RvD K rEq (.int i) (.int j) (.bl (decide (i = j))) := fun Hs H u v e h1 h2 Q k => by
  cases h1; cases h2
  refine ⟨rfl, ?_⟩
  rw [show decide (V.int i = V.int j) = decide (i = j) from decide_eq_decide.mpr ⟨fun h => V.int.inj h, fun h => by rw [h]⟩]
  exact k _ _ _ (Gr.refl e) (.bl _)
theorem rv_neI : RvD K rNe (.int i) (.int j) (.bl (!decide (i = j))) := fun Hs H u v e h1 h2 Q k => by
  cases h1; cases h2
  refine ⟨rfl, ?_⟩
  rw [show decide (V.int i = V.int j) = decide (i = j) from decide_eq_decide.mpr ⟨fun h => V.int.inj h, fun h => by rw [h]⟩]
  exact k _ _ _ (Gr.refl e) (.bl _)
theorem rv_eqS {s t : Str} : RvD K rEq (.str s) (.str t) (.bl (decide (s = t))) := fun Hs H u v e h1 h2 Q k => by
  cases h1; cases h2
  refine ⟨rfl, ?_⟩
  rw [show decide (V.str s = V.str t) = decide (s = t) from decide_eq_decide.mpr ⟨fun h => V.str.inj h, fun h => by rw [h]⟩]
  exact k _ _ _ (Gr.refl e) (.bl _)
theorem rv_eqB {s t : Bool} : RvD K rEq (.bl s) (.bl t) (.bl (decide (s = t))) := fun Hs H u v e h1 h2 Q k => by
  cases h1; cases h2
  refine ⟨rfl, ?_⟩
  rw [show decide (V.bl s = V.bl t) = decide (s = t) from decide_eq_decide.mpr ⟨fun h => V.bl.inj h, fun h => by rw [h]⟩]
  exact k _ _ _ (Gr.refl e) (.bl _)
def isNon : D → Bool
  | .non => true
  | _ => false
theorem dv_non {H : Hp} {v : V} (h : DV K H v x) : decide (v = .non) = isNon x := by
  cases h <;> rfl
theorem rv_isN : RvD K (fun x y H Q => y = .non ∧ Q (.bl (decide (x = .non))) H) x .non (.bl (isNon x)) := fun Hs H u v e h1 h2 Q k => by
  cases h2
  refine ⟨rfl, ?_⟩
  rw [dv_non h1]
  exact k _ _ _ (Gr.refl e) (.bl _)
theorem rv_notN : RvD K (fun x y H Q => y = .non ∧ Q (.bl (!decide (x = .non))) H) x .non (.bl (!isNon x)) := fun Hs H u v e h1 h2 Q k => by
  cases h2
  refine ⟨rfl, ?_⟩
  rw [dv_non h1]
  exact k _ _ _ (Gr.refl e) (.bl _)
theorem ru_neg : RuD K (rU fun i => .int (-i)) (.int i) (.int (-i)) := fun Hs H u e h1 Q k => by
  cases h1
  exact ⟨i, rfl, k _ _ _ (Gr.refl e) (.int _)⟩
theorem atI_dv {H : Hp} {vs : List V} {ds : List D} {n : Int} (h : DVs K H vs ds) (e : atI ds n = some d) : ∃ v, atI vs n = some v ∧ DV K H v d := by
  unfold atI at e ⊢
  rw [h.length]
  cases q : ixN ds.length n with
  | none => rw [q] at e; cases e
  | some j =>
    rw [q] at e
    exact h.getD e
theorem rv_ixL {ds : List D} (h : atI ds i = some d) : RvD K (rIx K) (.lst ds) (.int i) d := fun Hs H u v e h1 h2 Q k => by
  cases h1 with
  | lst hl hs =>
    cases h2
    obtain ⟨w, hw, dw⟩ := atI_dv hs h
    exact .inl ⟨_, _, i, w, rfl, rfl, .inl (e.rd hl), hw, k _ _ _ (Gr.refl e) dw⟩
theorem rv_ixR {ds : List D} (h : atI ds i = some d) : RvD K (rIx K) (.rdl ds) (.int i) d := fun Hs H u v e h1 h2 Q k => by
  cases h1 with
  | rdl hl hs =>
    cases h2
    obtain ⟨w, hw, dw⟩ := atI_dv hs h
    exact .inl ⟨_, _, i, w, rfl, rfl, e.l hl, hw, k _ _ _ (Gr.refl e) dw⟩
theorem rv_ixT {ds : List D} (h : atI ds i = some d) : RvD K (rIx K) (.tup ds) (.int i) d := fun Hs H u v e h1 h2 Q k => by
  cases h1 with
  | tup hl hs =>
    cases h2
    obtain ⟨w, hw, dw⟩ := atI_dv hs h
    exact .inr (.inl ⟨_, _, i, w, rfl, rfl, st (e _ _ hl), hw, k _ _ _ (Gr.refl e) dw⟩)
theorem rv_ixS {s : Str} {c : Nat} (hl : s.length ≤ 1000000) (h : atI s.cps.toList i = some c) : RvD K (rIx K) (.str s) (.int i) (.str ⟨#[c]⟩) := fun Hs H u v e h1 h2 Q k => by
  cases h1; cases h2
  exact .inr (.inr ⟨_, i, c, rfl, rfl, small hl, h, k _ _ _ (Gr.refl e) (.str _)⟩)
/-- a + b of lists -/
theorem rv_cat {xs ys : List D} (hl : xs.length + ys.length ≤ 1000000) : RvD K rCatR (.lst xs) (.lst ys) (.lst (xs ++ ys)) := fun Hs H u v e h1 h2 Q k => by
  cases h1 with
  | lst h1 s1 =>
    cases h2 with
    | lst h2 s2 =>
      refine ⟨_, _, _, _, rfl, rfl, e.rd h1, e.rd h2, by rw [s1.length, s2.length]; exact small hl, fun p hp => k _ (upd Hs p (.lst _)) _ (Gr.new e hp) (.lst (sl upd_same) ?_)⟩
      exact (s1.mono (Ex.new (e.back hp))).append (s2.mono (Ex.new (e.back hp)))

/-! calls of built-ins -/
def vlen : D → Option Nat
  | .lst l => some l.length
  | .tup l => some l.length
  | .rdl l => some l.length
  | _ => none
theorem rc_len {n : Nat} (h : vlen x = some n) : RcD K (fun xs H Q => ∃ x n, xs = [x] ∧ LenV K x H n ∧ Q (.int n) H) [x] (.int (n : Int)) := fun Hs H us e hs Q k => by
  cases hs with
  | cons h1 hn =>
    cases hn
    cases h1 with
    | lst hl hs =>
      cases h
      exact ⟨_, _, rfl, .inl ⟨_, .inl (e.rd hl), hs.length.symm⟩, k _ _ _ (Gr.refl e) (.int _)⟩
    | rdl hl hs =>
      cases h
      exact ⟨_, _, rfl, .inl ⟨_, e.l hl, hs.length.symm⟩, k _ _ _ (Gr.refl e) (.int _)⟩
    | tup hl hs =>
      cases h
      exact ⟨_, _, rfl, .inr ⟨_, st (e _ _ hl), hs.length.symm⟩, k _ _ _ (Gr.refl e) (.int _)⟩
    | _ => cases h
theorem rc_lenS {s : Str} (h : s.length ≤ 1000000) : RcD K (fun xs H Q => ∃ x n, xs = [x] ∧ LenV K x H n ∧ Q (.int n) H) [.str s] (.int (s.length : Int)) := fun Hs H us e hs Q k => by
  cases hs with
  | cons h1 hn =>
    cases hn
    cases h1
    exact ⟨_, s.length, rfl, ⟨small h, rfl⟩, k _ _ _ (Gr.refl e) (.int _)⟩
theorem rc_int : RcD K (fun xs H Q => (∃ i, xs = [.int i] ∧ Q (.int i) H) ∨ ∃ k, xs = [.bl k] ∧ Q (.int (if k then 1 else 0)) H) [.int i] (.int i) := fun Hs H us e hs Q k => by
  cases hs with
  | cons h1 hn =>
    cases hn; cases h1
    exact .inl ⟨i, rfl, k _ _ _ (Gr.refl e) (.int _)⟩
theorem rc_max : RcD K (fun xs H Q => ∃ i j, xs = [.int i, .int j] ∧ Q (.int (if j > i then j else i)) H) [.int i, .int j] (.int (max i j)) := fun Hs H us e hs Q k => by
  cases hs with
  | cons h1 hn =>
    cases hn with
    | cons h2 hn =>
      cases hn; cases h1; cases h2
      refine ⟨i, j, rfl, ?_⟩
      rw [show (if j > i then j else i) = max i j by rw [Int.max_def]; split <;> split <;> omega]
      exact k _ _ _ (Gr.refl e) (.int _)
theorem rc_min : RcD K (fun xs H Q => ∃ i j, xs = [.int i, .int j] ∧ Q (.int (if j < i then j else i)) H) [.int i, .int j] (.int (min i j)) := fun Hs H us e hs Q k => by
  cases hs with
  | cons h1 hn =>
    cases hn with
    | cons h2 hn =>
      cases hn; cases h1; cases h2
      refine ⟨i, j, rfl, ?_⟩
      rw [show (if j < i then j else i) = min i j by rw [Int.min_def]; split <;> split <;> omega]
      exact k _ _ _ (Gr.refl e) (.int _)
theorem rc_list {ds : List D} : RcD K (fun xs H Q => ∃ p ys, xs = [.ref p] ∧ (SqL K H p ys ∨ SqT K H p ys) ∧ ∀ l, H l = none → Q (.ref l) (upd H l (.lst ys))) [.lst ds] (.lst ds) := fun Hs H us e hs Q k => by
  cases hs with
  | cons h1 hn =>
    cases hn
    cases h1 with
    | lst hl hs =>
      exact ⟨_, _, rfl, .inl (.inl (e.rd hl)), fun l hl' => k _ (upd Hs l (.lst _)) _ (Gr.new e hl') (.lst (sl upd_same) (hs.mono (Ex.new (e.back hl'))))⟩

variable {e : Expr} {es : List Expr} {n : Str} {p pos : Pos} {ds : List D} {a b : Expr}
theorem e_ix (ha : EvD X a ρ x) (hb : EvD X b ρ y) (hr : RvD X.K (rIx X.K) x y z) (hs : PlainIx b := by exact fun _ _ => rfl) : EvD X (.Subscript a b pos) ρ z := fun σ Hs H E ex Q k =>
  ⟨_, pe_ix ix_seq pe_w pe_w hs, ha σ Hs H E ex _ fun u Hs1 H1 g1 d1 => hb σ Hs1 H1 (E.step g1) g1.sh _ fun v Hs2 H2 g2 d2 =>
    hr Hs2 H2 u v g2.sh (d1.mono g2.ss) d2 Q fun w Hs3 H3 g3 d3 => k w Hs3 H3 ((g1.trans g2).trans g3) d3⟩
/-- xs[i] of a list -/
theorem e_ixL {i : Int} (ha : EvL X a ρ ds) (hb : EvD X b ρ (.int i)) (h : atI ds i = some z) (hs : PlainIx b := by exact fun _ _ => rfl) : EvD X (.Subscript a b pos) ρ z := fun σ Hs H E ex Q k =>
  ⟨_, pe_ix ix_seq pe_w pe_w hs, ha σ Hs H E ex _ fun x vs Hs1 H1 g1 hl hv => hb σ Hs1 H1 (E.step g1) g1.sh _ fun v Hs2 H2 g2 d2 => by
    cases d2
    obtain ⟨w, hw, dw⟩ := atI_dv hv h
    exact .inl ⟨_, _, i, w, rfl, rfl, .inl (g2.hh.rd hl), hw, k _ _ _ (g1.trans g2) (dw.mono g2.ss)⟩⟩
/-- a + b of lists -/
theorem eo_cat {xs ys : List D} (ha : EvL X a ρ xs) (hb : EvL X b ρ ys) (hl : xs.length + ys.length ≤ 1000000) : EvO X (.BinOp a .Add b pos) ρ (xs ++ ys) := fun σ Hs H E ex Q k =>
  ⟨_, pe_op op_catR pe_w pe_w, ha σ Hs H E ex _ fun x vs Hs1 H1 g1 hl1 hv1 => hb σ Hs1 H1 (E.step g1) g1.sh _ fun y ws Hs2 H2 g2 hl2 hv2 =>
    ⟨_, _, _, _, rfl, rfl, g2.hh.rd hl1, hl2, by rw [hv1.length, hv2.length]; exact small hl, fun p hp => let ⟨a, b, c⟩ := (g1.trans g2).fresh hp; k p _ Hs2 _ a upd_same b c ((hv1.mono g2.ss).append hv2)⟩⟩
theorem e_callB {id : String} {r : List V → Hp → VK → Prop} (hc : CallR X (.builtin id) r) (hm : X.mg n = none) (hv : bootBuiltins n = some (.builtin id)) (ha : EvA X (e :: es) ρ ds) (hr : RcD X.K r ds z) (hg : Gl X n := by rfl) (hn : n ≠ "__name__" := by decide) (hdb : (n == ("__debug__" : Str)) = false := by decide)
    (he : starEach (e :: es) X.env = (false, eval e X.env) :: starEach es X.env := by rfl) (hpl : (backTo pos (starEach es X.env)).any (·.1) = false := by rfl) : EvD X (.Call (.Name n p) (e :: es) [] pos) ρ z := fun σ Hs H E ex Q k =>
  ⟨_, pe_callB hc hg hm hv pa_w hn hdb he hpl, ha σ Hs H E ex _ fun us Hs1 H1 g1 d1 => hr Hs1 H1 us g1.sh d1 Q fun w Hs3 H3 g3 d3 => k w Hs3 H3 (g1.trans g3) d3⟩
/-- len(xs) -/
theorem e_len (hm : X.mg "len" = none) (ha : EvL X e ρ ds) (hg : Gl X "len" := by rfl) (he : starEach [e] X.env = (false, eval e X.env) :: starEach [] X.env := by rfl) (hpl : (backTo pos (starEach [] X.env)).any (·.1) = false := by rfl) :
    EvD X (.Call (.Name "len" p) [e] [] pos) ρ (.int (ds.length : Int)) := fun σ Hs H E ex Q k =>
  ⟨_, pe_callB call_len hg hm PySem.boot_len (pa_cons pe_w pa_nil he) (by decide) (by decide) he hpl, ha σ Hs H E ex _ fun x vs Hs1 H1 g1 hl hv => ⟨_, _, rfl, .inl ⟨_, .inl hl, hv.length.symm⟩, k _ _ _ g1 (.int _)⟩⟩
/-- list(xs) -/
theorem eo_list (hm : X.mg "list" = none) (ha : EvL X e ρ ds) (hg : Gl X "list" := by rfl) (he : starEach [e] X.env = (false, eval e X.env) :: starEach [] X.env := by rfl) (hpl : (backTo pos (starEach [] X.env)).any (·.1) = false := by rfl) :
    EvO X (.Call (.Name "list" p) [e] [] pos) ρ ds := fun σ Hs H E ex Q k =>
  ⟨_, pe_callTy call_list_of hg hm (by decide +kernel) (pa_cons pe_w pa_nil he) (by decide) (by decide) he hpl, ha σ Hs H E ex _ fun x vs Hs1 H1 g1 hl hv => ⟨_, _, rfl, .inl (.inl hl), fun p hp => let ⟨a, b, c⟩ := g1.fresh hp; k p _ Hs1 _ a upd_same b c hv⟩⟩
theorem e_callTy {T : String} {r : List V → Hp → VK → Prop} (hc : CallR X (.type T) r) (hm : X.mg n = none) (hv : bootBuiltins n = some (.type T)) (ha : EvA X (e :: es) ρ ds) (hr : RcD X.K r ds z) (hg : Gl X n := by rfl) (hn : n ≠ "__name__" := by decide) (hdb : (n == ("__debug__" : Str)) = false := by decide)
    (he : starEach (e :: es) X.env = (false, eval e X.env) :: starEach es X.env := by rfl) (hpl : (backTo pos (starEach es X.env)).any (·.1) = false := by rfl) : EvD X (.Call (.Name n p) (e :: es) [] pos) ρ z := fun σ Hs H E ex Q k =>
  ⟨_, pe_callTy hc hg hm hv pa_w hn hdb he hpl, ha σ Hs H E ex _ fun us Hs1 H1 g1 d1 => hr Hs1 H1 us g1.sh d1 Q fun w Hs3 H3 g3 d3 => k w Hs3 H3 (g1.trans g3) d3⟩
end

/-! ### defs of one's own -/
/-- the promise of a def of data: n arguments; G says what comes out -/
def spD (K : PySem.W.Frag) (n : Nat) (G : List D → D → Prop) : Sp := fun vs H Q _ => ∃ Hs ds d, Ex Hs H ∧ DVs K Hs vs ds ∧ ds.length = n ∧ G ds d ∧ Post K Hs H Q d
/-- a def by its global name -/
structure GFn (P : Program) (w : World) (K : PySem.W.Frag) (mg : Str → Option Value) (base : Heap) (k : Nat) (x : Str) (ps : List Str) (sp : Sp) : Prop where
  ex : ∃ (f : Addr) (fd : FuncData), FnOk P w K mg base CX0 k f fd ps sp ∧ mg x = some (.ref f) ∧ PySem.W.keepIn K (.ref f) = true ∧ Binds K fd ps []
theorem GFn.mono {P : Program} {w : World} {K : PySem.W.Frag} {mg : Str → Option Value} {base : Heap} {j k : Nat} {x : Str} {ps : List Str} {sp : Sp} (G : GFn P w K mg base j x ps sp) (h : j ≤ k) : GFn P w K mg base k x ps sp :=
  let ⟨f, fd, F, a, b, c⟩ := G.ex
  ⟨f, fd, F.mono h, a, b, c⟩
theorem GFn.imp {P : Program} {w : World} {K : PySem.W.Frag} {mg : Str → Option Value} {base : Heap} {k : Nat} {x : Str} {ps : List Str} {sp sp' : Sp} (G : GFn P w K mg base k x ps sp) (h : ∀ vs H Q E, sp' vs H Q E → sp vs H Q E) : GFn P w K mg base k x ps sp' :=
  let ⟨f, fd, F, a, b, c⟩ := G.ex
  ⟨f, fd, F.imp h, a, b, c⟩
section
variable {X : Cx} {ρ : Rho} {z d : D} {e : Expr} {es : List Expr} {n : Str} {p pos : Pos} {ds : List D} {k m : Nat} {ps : List Str} {G : List D → D → Prop} {sp : Sp}
theorem pe_g (F : GFn X.prog X.w X.K X.mg X.base k n ps sp) (hr : Room k X.A) {t : TA} (ha : PA X (e :: es) t) (hg : Gl X n := by rfl) (hdb : (n == ("__debug__" : Str)) = false := by decide)
    (he : starEach (e :: es) X.env = (false, eval e X.env) :: starEach es X.env := by rfl) (hpl : (backTo pos (starEach es X.env)).any (·.1) = false := by rfl) : PE X (.Call (.Name n p) (e :: es) [] pos) (tCall sp [] E0 t) := by
  obtain ⟨f, fd, F, h1, h2, h3⟩ := F.ex
  exact pe_call F hr hg h1 h2 h3 .nil pass0 ha hdb he hpl
theorem e_call (F : GFn X.prog X.w X.K X.mg X.base k n ps (spD X.K m G)) (hr : Room k X.A) (ha : EvA X (e :: es) ρ ds) (hG : G ds z) (hl : ds.length = m := by rfl) (hg : Gl X n := by rfl) (hdb : (n == ("__debug__" : Str)) = false := by decide)
    (he : starEach (e :: es) X.env = (false, eval e X.env) :: starEach es X.env := by rfl) (hpl : (backTo pos (starEach es X.env)).any (·.1) = false := by rfl) : EvD X (.Call (.Name n p) (e :: es) [] pos) ρ z := fun σ Hs H E ex Q q =>
  ⟨_, pe_g F hr pa_w hg hdb he hpl, ha σ Hs H E ex _ fun us Hs1 H1 g1 d1 => ⟨Hs1, ds, z, g1.sh, by rw [List.append_nil]; exact d1, hl, hG, fun w Hs3 H3 g3 d3 => q w Hs3 H3 (g1.trans g3) d3⟩⟩
end

/-! ### kinds of data -/
/-- the built-in type of data -/
def tyD : D → Option String
  | .non => some "NoneType"
  | .bl _ => some "bool"
  | .int _ => some "int"
  | .str _ => some "str"
  | .tup _ => some "tuple"
  | .lst _ => some "list"
  | _ => none
/-- isinstance(x, T) for the built-in types of data -/
def isD (x : D) (T : String) : Bool := match x with
  | .bl _ => T == "bool" || T == "int"
  | .int _ => T == "int"
  | .str _ => T == "str"
  | .tup _ => T == "tuple"
  | .lst _ => T == "list"
  | _ => false
theorem kit_tab : ∀ a ∈ ["NoneType", "bool", "int", "str", "tuple", "list"], ∀ b ∈ ["bool", "int", "str", "tuple", "list"],
    kitB a b = some ((a == b) || (a == "bool" && b == "int")) := by decide +kernel
section
variable {K : PySem.W.Frag} {X : Cx} {ρ : Rho} {x y z d : D}
theorem ty_dv {H : Hp} {v : V} {T : String} (h : DV K H v x) (e : tyD x = some T) : TyX K H v (.type T) := by
  cases h with
  | non => cases e; exact .base .non
  | bl b => cases e; exact .base (.bl _)
  | int i => cases e; exact .base (.int _)
  | str s => cases e; exact .base (.str _)
  | tup h1 _ =>
    cases e
    exact .base (.tup h1)
  | lst h1 _ =>
    cases e
    rcases h1 with h1 | ⟨o, h1⟩
    · exact .base (.lst h1)
    · exact .base (.frz h1)
  | _ => cases e
theorem rc_isi {T S : String} (e : tyD x = some T) (hk : kitB T S = some k) : RcD K (rIsi K) [x, .ty S] (.bl k) := fun Hs H us ex hs Q q => by
  cases hs with
  | cons h1 hn =>
    cases hn with
    | cons h2 hn =>
      cases hn; cases h2
      exact ⟨_, _, .type T, .type S, k, rfl, .ty S, ty_dv (h1.mono ex) e, kit_ty hk, q _ _ _ (Gr.refl ex) (.bl _)⟩
end

/-! ### data as the library's data: == -/
mutual
def py : D → PyData
  | .non => .none
  | .bl b => .bool b
  | .int i => .int i
  | .str s => .str s
  | .tup l => .tuple (pys l)
  | .lst l => .list (pys l)
  | _ => .none
def pys : List D → List PyData
  | [] => []
  | d :: ds => py d :: pys ds
end
mutual
/-- no objects within -/
def flat : D → Bool
  | .tup l => flats l
  | .lst l => flats l
  | .non => true
  | .bl _ => true
  | .int _ => true
  | .str _ => true
  | _ => false
def flats : List D → Bool
  | [] => true
  | d :: ds => flat d && flats ds
end
section
variable {K : PySem.W.Frag} {X : Cx} {ρ : Rho} {x y z d : D}
mutual
theorem dp_dv {H : Hp} : ∀ {v : V} {d : D}, DV K H v d → flat d = true → Dp K H v (py d)
  | _, _, .non, _ => by rw [py]; exact .non
  | _, _, .bl b, _ => by rw [py]; exact .bl b
  | _, _, .int i, _ => by rw [py]; exact .int i
  | _, _, .str s, _ => by rw [py]; exact .str s
  | _, _, .tup h hs, e => by rw [py]; rw [flat] at e; exact .tup (st h) (dp_dvs hs e)
  | _, _, .lst h hs, e => by rw [py]; rw [flat] at e; exact .lst (.inl h) (dp_dvs hs e)
  | _, _, .ty n, e => by rw [flat] at e <;> first | cases e | (intros; contradiction)
  | _, _, .ob a, e => by rw [flat] at e <;> first | cases e | (intros; contradiction)
  | _, _, .rdl h hs, e => by rw [flat] at e <;> first | cases e | (intros; contradiction)
  | _, _, .ins h hs, e => by rw [flat] at e <;> first | cases e | (intros; contradiction)
  | _, _, .dK h hs, e => by rw [flat] at e <;> first | cases e | (intros; contradiction)
  | _, _, .dT h hs, e => by rw [flat] at e <;> first | cases e | (intros; contradiction)
theorem dp_dvs {H : Hp} : ∀ {v : List V} {d : List D}, DVs K H v d → flats d = true → DpAll K H v (pys d)
  | _, _, .nil, _ => by rw [pys]; exact .nil
  | _, _, .cons h hs, e => by
    rw [flats, Bool.and_eq_true] at e
    rw [pys]
    exact .cons (dp_dv h e.1) (dp_dvs hs e.2)
end
theorem rv_eqD (hx : flat x = true) (hy : flat y = true) (sx : SeqAt.shaped (py x) = true) (sy : SeqAt.shaped (py y) = true) : RvD K (rEqD K) x y (.bl (PyData.eqv (py x) (py y))) := fun Hs H u v e h1 h2 Q k =>
  ⟨_, _, dp_dv (h1.mono e) hx, dp_dv (h2.mono e) hy, sx, sy, k _ _ _ (Gr.refl e) (.bl _)⟩
theorem rv_neD (hx : flat x = true) (hy : flat y = true) (sx : SeqAt.shaped (py x) = true) (sy : SeqAt.shaped (py y) = true) : RvD K (rNeD K) x y (.bl (!PyData.eqv (py x) (py y))) := fun Hs H u v e h1 h2 Q k =>
  ⟨_, _, dp_dv (h1.mono e) hx, dp_dv (h2.mono e) hy, sx, sy, k _ _ _ (Gr.refl e) (.bl _)⟩
end

/-! ### slices -/
section
variable {X : Cx} {ρ : Rho} {a b c : Expr} {x y z d : D} {ds : List D} {pos p : Pos} {i j : Int}
def cutD {α : Type} (xs : List α) (lo hi : Option Int) : List α := (xs.drop (HT.sIx xs.length 0 lo)).take (HT.sIx xs.length xs.length hi - HT.sIx xs.length 0 lo)
theorem dvs_cut {K : PySem.W.Frag} {H : Hp} {vs : List V} {ds : List D} {lo hi : Option Int} (h : DVs K H vs ds) : DVs K H (cutV vs lo hi) (cutD ds lo hi) := by
  unfold cutV cutD
  rw [h.length]
  exact (h.drop _).take _
/-- xs[:e] -/
theorem eo_sl0 (ha : EvL X a ρ ds) (hb : EvD X b ρ (.int j)) : EvO X (.Subscript a (.Slice none (some b) none p) pos) ρ (cutD ds none (some j)) := fun σ Hs H E ex Q k =>
  ⟨_, pe_slice sl_list pe_w po_none (po_some pe_w), ha σ Hs H E ex _ fun x vs Hs1 H1 g1 hl hs => hb σ Hs1 H1 (E.step g1) g1.sh _ fun v Hs2 H2 g2 d2 => by
    cases d2
    exact ⟨j, rfl, _, _, rfl, .inl (g2.hh.rd hl), fun p hp => let ⟨a, b, c⟩ := (g1.trans g2).fresh hp; k p _ Hs2 _ a upd_same b c (dvs_cut (hs.mono g2.ss))⟩⟩
/-- xs[e:] -/
theorem eo_sl1 (ha : EvL X a ρ ds) (hb : EvD X b ρ (.int j)) : EvO X (.Subscript a (.Slice (some b) none none p) pos) ρ (cutD ds (some j) none) := fun σ Hs H E ex Q k =>
  ⟨_, pe_slice sl_list pe_w (po_some pe_w) po_none, ha σ Hs H E ex _ fun x vs Hs1 H1 g1 hl hs => hb σ Hs1 H1 (E.step g1) g1.sh _ fun v Hs2 H2 g2 d2 => by
    cases d2
    exact ⟨j, rfl, _, _, rfl, .inl (g2.hh.rd hl), fun p hp => let ⟨a, b, c⟩ := (g1.trans g2).fresh hp; k p _ Hs2 _ a upd_same b c (dvs_cut (hs.mono g2.ss))⟩⟩
/-- xs[e:f] -/
theorem eo_sl2 (ha : EvL X a ρ ds) (hb : EvD X b ρ (.int i)) (hc : EvD X c ρ (.int j)) : EvO X (.Subscript a (.Slice (some b) (some c) none p) pos) ρ (cutD ds (some i) (some j)) := fun σ Hs H E ex Q k =>
  ⟨_, pe_slice sl_list pe_w (po_some pe_w) (po_some pe_w), ha σ Hs H E ex _ fun x vs Hs1 H1 g1 hl hs => hb σ Hs1 H1 (E.step g1) g1.sh _ fun v Hs2 H2 g2 d2 => by
    cases d2
    refine ⟨i, rfl, hc σ Hs2 H2 ((E.step g1).step g2) g2.sh _ fun w Hs3 H3 g3 d3 => ?_⟩
    cases d3
    exact ⟨j, rfl, _, _, rfl, .inl (g3.hh.rd (g2.hh.rd hl)), fun p hp => let ⟨a, b, c⟩ := ((g1.trans g2).trans g3).fresh hp; k p _ Hs3 _ a upd_same b c (dvs_cut ((hs.mono g2.ss).mono g3.ss))⟩⟩
end

/-! ### sorted of any alike data -/
open PySem.W in
/-- sorted(xs), the items alike data without objects -/
def rSortD (K : PySem.W.Frag) : List V → Hp → VK → Prop := fun vs H Q => ∃ (Hs : Hp) (α : Type) (g : α → D) (bs : List α) (a : Addr) (xs : List V), vs = [.ref a] ∧ Ex Hs H ∧ Rd H a (.lst xs) ∧ DVs K Hs xs (bs.map g) ∧ (∀ b ∈ bs, flat (g b) = true) ∧
  AllAlike (bs.map fun b => py (g b)) ∧ Sortable (bs.map fun b => py (g b)) ∧ bs.length ≤ sizeLine ∧ (∀ b ∈ bs, (py (g b)).depth ≤ 50) ∧
  ∀ ys p, DVs K Hs ys ((bs.mergeSort (dataLe false fun b => py (g b))).map g) → H p = none → Q (.ref p) (upd H p (.lst ys))
open PySem.W in
theorem each_of {K : PySem.W.Frag} {Hs : Hp} {α : Type} {g : α → D} : ∀ {vs : List V} {us : List Value} {bs : List α}, Vals vs us → DVs K Hs vs (bs.map g) → EachIs (fun u b => ∃ v, RelV v u ∧ DV K Hs v (g b)) us bs
  | _, _, [], .nil, .nil => .nil
  | _, _, _ :: _, .cons r rs, .cons h hs => .cons ⟨_, r, h⟩ (each_of rs hs)
open PySem.W in
theorem of_each {K : PySem.W.Frag} {Hs : Hp} {α : Type} {g : α → D} : ∀ {us : List Value} {bs : List α}, EachIs (fun u b => ∃ v, RelV v u ∧ DV K Hs v (g b)) us bs → ∃ vs, Vals vs us ∧ DVs K Hs vs (bs.map g)
  | _, _, .nil => ⟨[], .nil, .nil⟩
  | _, _, .cons ⟨v, r, h⟩ t => let ⟨vs, rs, hs⟩ := of_each t; ⟨v :: vs, .cons r rs, .cons h hs⟩
open PySem.W in
theorem each_mem2 {α β : Type} {R : α → β → Prop} : ∀ {us : List α} {bs : List β}, EachIs R us bs → EachIs (fun u b => R u b ∧ b ∈ bs) us bs
  | _, _, .nil => .nil
  | _, _, .cons h t => .cons ⟨h, List.mem_cons_self⟩ ((each_mem2 t).mono fun _ _ ⟨a, b⟩ => ⟨a, List.mem_cons_of_mem _ b⟩)
open PySem.W PyProof.Rows in
theorem cr_sortD {X : Cx} (hu : X.A.units + 64 < cLine) : CallR X (.builtin "sorted") (rSortD X.K) := by
  intro pins s σ H vs us Q I r h
  obtain ⟨Hs, α, g, bs, a, xs, rfl, ex, hl0, hs, hf, hal, hk, hL, hd, q⟩ := h
  obtain ⟨w, rfl, ru⟩ := vals1 r
  cases ru
  obtain ⟨its, rv, hl, hz⟩ := I.list (.inl hl0)
  have e1 := each_of rv hs
  refine sorted_data (R := fun u b => ∃ v, RelV v u ∧ DV X.K Hs v (g b)) (enc := fun b => py (g b)) hl.isList e1 ((each_mem2 e1).mono fun u b ⟨⟨v, rv, dv⟩, hb⟩ => Dp.reads I _ v u (dp_dv (dv.mono ex) (hf b hb)) rv) hal hk hL (fun b hb => by have := hd b hb; omega) fun out ho e2 => ?_
  obtain ⟨ys, ry, dy⟩ := of_each e2
  obtain ⟨c, hc⟩ := sortedAll_at s.heap its (List.toArray out)
  have hlen := ry.length
  exact ⟨.ref (s.heap.objs.size + 1), upd H (s.heap.objs.size + 1) (.lst ys), I.laid (t' := s.toks) (fun b o e => sortedAll_old e) (Nat.le_succ _) ⟨by omega, out, c, ry, hc⟩, rfl, q ys _ dy (I.hok.fresh (Nat.le_succ _))⟩
section
variable {X : Cx} {ρ : Rho} {e : Expr} {p pos : Pos} {α : Type} {g : α → D} {bs cs : List α}
open PySem.W in
/-- sorted(xs) -/
theorem eo_sort (hu : X.A.units + 64 < cLine) (hm : X.mg "sorted" = none) (ha : EvL X e ρ (bs.map g)) (hf : ∀ b ∈ bs, flat (g b) = true) (hal : AllAlike (bs.map fun b => py (g b))) (hk : Sortable (bs.map fun b => py (g b))) (hL : bs.length ≤ 1000000) (hd : ∀ b ∈ bs, (py (g b)).depth ≤ 50) (hc : bs.mergeSort (dataLe false fun b => py (g b)) = cs)
    (hg : Gl X "sorted" := by rfl) (he : starEach [e] X.env = (false, eval e X.env) :: starEach [] X.env := by rfl) (hpl : (backTo pos (starEach [] X.env)).any (·.1) = false := by rfl) : EvO X (.Call (.Name "sorted" p) [e] [] pos) ρ (cs.map g) := fun σ Hs H E ex Q q => by
  subst hc
  exact ⟨_, pe_callB (cr_sortD hu) hg hm (by decide +kernel) (pa_cons pe_w pa_nil he) (by decide) (by decide) he hpl, ha σ Hs H E ex _ fun x vs Hs1 H1 g1 hl hv =>
    ⟨Hs1, α, g, bs, x, vs, rfl, g1.sh, hl, hv, hf, hal, hk, small hL, hd, fun ys p dy hp => let ⟨a, b, c⟩ := g1.fresh hp; q p ys Hs1 _ a upd_same b c dy⟩⟩
end
/-- a pair of ints -/
@[reducible] def dP (p : Int × Int) : D := .tup [.int p.1, .int p.2]
/-- pairs in their order -/
def leP (p q : Int × Int) : Bool := decide (p.1 < q.1 ∨ (p.1 = q.1 ∧ p.2 ≤ q.2))
theorem leP_trans (a b c : Int × Int) (h1 : leP a b = true) (h2 : leP b c = true) : leP a c = true := by
  unfold leP at *
  simp only [decide_eq_true_eq] at *
  omega
theorem leP_total (a b : Int × Int) : (leP a b || leP b a) = true := by
  unfold leP
  rw [Bool.or_eq_true]
  simp only [decide_eq_true_eq]
  omega
theorem leP_anti {a b : Int × Int} (h1 : leP a b = true) (h2 : leP b a = true) : a = b := by
  unfold leP at *
  simp only [decide_eq_true_eq] at *
  apply Prod.ext <;> omega
abbrev sortP (ps : List (Int × Int)) : List (Int × Int) := ps.mergeSort leP
/-- two sorted arrangements of the same pairs are one -/
theorem sortP_uniq {l m : List (Int × Int)} (h1 : l.Pairwise fun a b => leP a b = true) (h2 : m.Pairwise fun a b => leP a b = true) (p : l.Perm m) : l = m :=
  List.Perm.eq_of_pairwise (fun a b _ _ h1 h2 => leP_anti h1 h2) h1 h2 p
theorem sortP_pw (ps : List (Int × Int)) : (sortP ps).Pairwise fun a b => leP a b = true := List.pairwise_mergeSort leP_trans leP_total ps
theorem sortP_perm (ps : List (Int × Int)) : (sortP ps).Perm ps := List.mergeSort_perm ps leP
section
variable {X : Cx} {ρ : Rho} {e : Expr} {p pos : Pos}
open PySem.W in
theorem eo_sortP {ps : List (Int × Int)} (hu : X.A.units + 64 < cLine) (hm : X.mg "sorted" = none) (ha : EvL X e ρ (ps.map dP)) (hL : ps.length ≤ 1000000)
    (hg : Gl X "sorted" := by rfl) (he : starEach [e] X.env = (false, eval e X.env) :: starEach [] X.env := by rfl) (hpl : (backTo pos (starEach [] X.env)).any (·.1) = false := by rfl) : EvO X (.Call (.Name "sorted" p) [e] [] pos) ρ ((sortP ps).map dP) := by
  have hp : ∀ b : Int × Int, py (dP b) = .tuple [.int b.1, .int b.2] := fun b => by simp [py, pys]
  refine eo_sort hu hm ha (fun b _ => by simp [flat, flats]) (AllAlike.of fun b b' => by simp [hp, alike, alikeAll]) (Sortable.tuples fun b => ⟨_, _, hp b⟩) hL (fun b _ => by simp [hp, PyData.depth, PyData.depthAll]) ?_ hg he hpl
  have e : (dataLe false fun b : Int × Int => py (dP b)) = leP := by
    rw [show (fun b : Int × Int => py (dP b)) = fun b => .tuple [.int b.1, .int b.2] from funext hp, dataLe_ii]
    all_goals rfl
  rw [e]
open PySem.W in
theorem eo_sortI {ns : List Int} (hu : X.A.units + 64 < cLine) (hm : X.mg "sorted" = none) (ha : EvL X e ρ (ns.map D.int)) (hL : ns.length ≤ 1000000)
    (hg : Gl X "sorted" := by rfl) (he : starEach [e] X.env = (false, eval e X.env) :: starEach [] X.env := by rfl) (hpl : (backTo pos (starEach [] X.env)).any (·.1) = false := by rfl) : EvO X (.Call (.Name "sorted" p) [e] [] pos) ρ ((ns.mergeSort fun a b => decide (a ≤ b)).map D.int) := by
  have hp : ∀ b : Int, py (D.int b) = .int b := fun b => by simp [py]
  refine eo_sort hu hm ha (fun b _ => by simp [flat]) (AllAlike.of fun b b' => by simp [hp, alike]) (Sortable.others fun b => ⟨by simp [hp], fun xs => by simp [hp]⟩) hL (fun b _ => by simp [hp, PyData.depth]) ?_ hg he hpl
  rw [show (fun b : Int => py (D.int b)) = fun b => .int b from funext hp, dataLe_int]
end

/-! ### list comprehensions over a list, one target -/
section
variable {X : Cx} {ρ : Rho} {elt iter c : Expr} {scope : Scope} {pos vp : Pos} {v : Str} {i : Nat} {α : Type} {xs : List α} {g f : α → D} {P : α → Bool}
/-- what stands around the element -/
abbrev InB (X : Cx) (scope : Scope) (J : Cx → Prop) : Prop := ∀ (s : Shared) (H : Hp) (C : Addr) (cl : List (Str × Addr)) (fp : List Addr), J (X.blk s H scope (compEnvC scope cl C X.env) fp)
def bE (X : Cx) (scope : Scope) (e : Expr) : TE := fun σ H Q => InB X scope fun Y => wE Y e σ H Q
def bT (X : Cx) (scope : Scope) (e : Expr) : TT := fun σ H Q => InB X scope fun Y => wT Y e σ H Q
theorem pe_b {e : Expr} (s : Shared) (H : Hp) (C : Addr) (cl : List (Str × Addr)) (fp : List Addr) : PE (X.blk s H scope (compEnvC scope cl C X.env) fp) e (bE X scope e) :=
  ⟨fun pins s1 σ H1 Q I h => let ⟨_, p, h⟩ := h s H C cl fp; p.run pins s1 σ H1 Q I h⟩
theorem pt_b {e : Expr} (s : Shared) (H : Hp) (C : Addr) (cl : List (Str × Addr)) (fp : List Addr) : PT (X.blk s H scope (compEnvC scope cl C X.env) fp) e (bT X scope e) :=
  ⟨fun pins s1 σ H1 Q I h => let ⟨_, p, h⟩ := h s H C cl fp; p.run pins s1 σ H1 Q I h⟩
theorem set_set_none {σ : L2.St} {i : Nat} {x : V} : wipe ((wipe σ [i]).set i (some x)) [i] = wipe σ [i] := by
  simp [wipe]
/-- a reading of a comprehension, also where it is stored at once -/
def PAs (X : Cx) (e : Expr) (t : TE) : Prop := PE X e t ∧ ∀ (i : Nat) (y : Str) (py spos : Pos), X.N[i]? = some y → X.env.scope.names.lookup y = some .local → swapsWith e (some (.Name y py)) spos.line X.env = pure true → PS X (.Assign [.Name y py] e spos) (tAsg t (gName i))
def wC (X : Cx) (e : Expr) : TE := fun σ H Q => ∃ t, PAs X e t ∧ t σ H Q
/-- a comprehension makes such a list -/
def EvC (X : Cx) (e : Expr) (ρ : Rho) (ds : List D) : Prop := ∀ σ Hs H, En X.K Hs H σ ρ → Ex Hs H → ∀ Q : VK, (∀ a vs Hs' H', Gr Hs H Hs' H' → H' a = some (.lst vs) → H a = none → Hs' a = none → DVs X.K Hs' vs ds → Q (.ref a) H') → wC X e σ H Q
theorem EvC.o {e : Expr} {ds : List D} (h : EvC X e ρ ds) : EvO X e ρ ds := fun σ Hs H E ex Q k => let ⟨t, p, q⟩ := h σ Hs H E ex Q k; ⟨t, p.1, q⟩
theorem EvC.l {e : Expr} {ds : List D} (h : EvC X e ρ ds) : EvL X e ρ ds := h.o.l
theorem EvC.dd {e : Expr} {ds : List D} (h : EvC X e ρ ds) : EvD X e ρ (.lst ds) := h.o.dd
theorem pas_lc {elt tg iter : Expr} {ifs : List Expr} {scope : Scope} {own : List (Str × Nat)} {pos : Pos} {wi : TI} {g : TG} {tt : TT} {te : TE} (hc : X.calm = true) (hN : X.N.Nodup) (hi : PI X tg iter wi) (ok : BlkOk X.N X.env.scope scope own)
    (hg : ∀ (s : Shared) (H : Hp) (C : Addr) (cl : List (Str × Addr)) (fp : List Addr), PG (X.blk s H scope (compEnvC scope cl C X.env) fp) tg g) (ht : ∀ (s : Shared) (H : Hp) (C : Addr) (cl : List (Str × Addr)) (fp : List Addr), PTs (X.blk s H scope (compEnvC scope cl C X.env) fp) ifs tt)
    (he : ∀ (s : Shared) (H : Hp) (C : Addr) (cl : List (Str × Addr)) (fp : List Addr), PE (X.blk s H scope (compEnvC scope cl C X.env) fp) elt te) (hs : ∀ x, foldedSetIterable iter X.env x = pure x := by intro _; rfl) :
    PAs X (.ListComp elt [⟨tg, iter, ifs, 0⟩] scope pos) (tLc wi g tt te (own.map (·.2))) :=
  ⟨pe_lc hc hN hi ok hg ht he hs, fun i y py spos hy hyl hsw => ps_setLc hc hN hy hyl hsw hi ok hg ht he hs⟩
/-- the list so far, made of the first m items -/
structure LcAt (K : PySem.W.Frag) (Hs0 H0 : Hp) (A : Addr) (ds : List D) (H : Hp) : Prop where
  ex : ∃ Hs vs, Gr Hs0 H0 Hs H ∧ H A = some (.lst vs) ∧ Hs A = none ∧ DVs K Hs vs ds
theorem filter_take {α : Type} {xs : List α} {P : α → Bool} {m : Nat} {x : α} (h : xs[m]? = some x) : (xs.take (m + 1)).filter P = (xs.take m).filter P ++ (if P x = true then [x] else []) := by
  rw [List.take_add_one, h, List.filter_append]
  congr 1
  by_cases e : P x = true <;> simp [e]
/-- [elt for v in iter if c] -/
theorem eo_lcT (hc : X.calm = true) (hN : X.N.Nodup) (hv : X.N[i]? = some v) (ok : BlkOk X.N X.env.scope scope [(v, i)])
    (hi : EvL X iter ρ (xs.map g)) (hl : xs.length ≤ 1000000)
    (ht : ∀ x ∈ xs, InB X scope fun Y => EvT Y c (ρ.set i (.d (g x))) (P x))
    (he : ∀ x ∈ xs, P x = true → InB X scope fun Y => EvD Y elt (ρ.set i (.d (g x))) (f x)) (hsc : InB X scope fun Y => Y.env.scope.names.lookup v = some .local := by exact fun _ _ _ _ _ => rfl) (hs : ∀ x, foldedSetIterable iter X.env x = pure x := by intro _; rfl) :
    EvC X (.ListComp elt [⟨.Name v vp, iter, [c], 0⟩] scope pos) ρ ((xs.filter P).map f) := fun σ Hs H E ex Q q => by
  refine ⟨_, pas_lc (own := [(v, i)]) hc hN (pi_list pe_w) ok (fun s H C cl fp => pg_name (i := i) hN hv (Or.inl (hsc s H C cl fp)) (Or.inr (hsc s H C cl fp))) (fun s H C cl fp => pts_one (pt_b s H C cl fp)) pe_b hs, ?_⟩
  refine hi σ Hs H E ex _ fun a vs Hs1 H1 g1 hl1 hs1 => ?_
  refine ⟨a, rfl, ⟨_, .inl hl1⟩, fun D hD => ?_⟩
  refine lc_list (K := X.K) (a := a) (xs := vs) (fun m H' => LcAt X.K Hs1 H1 D (((xs.take m).filter P).map f) H' ∧ H' a = H1 a) ?_ ?_ ?_ ?_
  · refine ⟨⟨Hs1, [], ⟨Ex.refl _, g1.sh.trans (Ex.new hD), Ex.new hD, fun _ h _ => h⟩, upd_same, g1.sh.back hD, .nil⟩, ?_⟩
    refine upd_ne ?_
    rcases hl1 with h | ⟨o, h⟩
    · exact ne_of_none h hD
    · exact ne_of_none h hD
  · rintro m H' _ ⟨_, e⟩
    refine .inl ?_
    unfold Rd
    rw [e]
    exact hl1
  · rintro m w H' hm ⟨⟨Hs2, ws, g2, hD2, nD2, dw⟩, ea⟩
    obtain ⟨d, hd, dv⟩ := hs1.get hm
    obtain ⟨x, hx, rfl⟩ : ∃ x, xs[m]? = some x ∧ g x = d := by
      rw [List.getElem?_map] at hd
      cases e : xs[m]? with
      | none => rw [e] at hd; cases hd
      | some x => rw [e] at hd; exact ⟨x, rfl, Option.some.inj hd⟩
    have mx : x ∈ xs := List.mem_of_getElem? hx
    show wipe ((wipe σ [i]).set i (some w)) [i] = wipe σ [i] ∧ bT X scope c ((wipe σ [i]).set i (some w)) H' _
    refine ⟨set_set_none, fun s0 H0 C cl fp => ?_⟩
    have E2 : En X.K Hs2 H' ((wipe σ [i]).set i (some w)) (ρ.set i (.d (g x))) := by
      have e1 := ((E.step g1).step g2).set (i := i) (dv.mono g2.ss)
      have e2 : (wipe σ [i]).set i (some w) = σ.set i (some w) := by simp [wipe]
      rw [e2]
      exact e1
    refine ht x mx s0 H0 C cl fp _ Hs2 H' E2 g2.sh _ fun Hs3 H3 g3 => ?_
    have hD3 : H3 D = some (.lst ws) := g3.hh _ _ hD2
    have nD3 : Hs3 D = none := g3.fr D nD2 (by rw [hD2]; exact fun z => nomatch z)
    have ea3 : ∀ H4, Ex H3 H4 → H4 a = H1 a := fun H4 ex4 => by
      have : ∃ o, H1 a = some o := by
        rcases hl1 with h | ⟨o, h⟩
        · exact ⟨_, h⟩
        · exact ⟨_, h⟩
      obtain ⟨o, ho⟩ := this
      rw [ho]
      exact ex4 _ _ (g3.hh _ _ (by rw [ea]; exact ho))
    rw [filter_take hx]
    cases hP : P x with
    | false =>
      simp only [Bool.false_eq_true, if_false, List.append_nil]
      exact ⟨⟨Hs3, ws, g2.trans g3, hD3, nD3, dw.mono g3.ss⟩, ea3 H3 (Ex.refl _)⟩
    | true =>
      simp only [if_true]
      intro s0 H0 C cl fp
      refine he x mx hP s0 H0 C cl fp _ Hs3 H3 (E2.step g3) g3.sh _ fun y Hs4 H4 g4 d4 => ?_
      have hD4 : H4 D = some (.lst ws) := g4.hh _ _ hD3
      have nD4 : Hs4 D = none := g4.fr D nD3 (by rw [hD3]; exact fun z => nomatch z)
      have hwl : ws.length ≤ xs.length := by
        rw [dw.length, List.length_map]
        exact Nat.le_trans (List.length_filter_le _ _) (by rw [List.length_take]; omega)
      refine ⟨ws, hD4, Nat.lt_of_le_of_lt (Nat.le_trans hwl hl) (by decide), ⟨Hs4, ws ++ [y], ?_, upd_same, nD4, ?_⟩, ?_⟩
      · have G := (g2.trans g3).trans g4
        refine ⟨G.ss, G.sh.mut nD4, G.hh.mut hD, G.fr⟩
      · rw [List.map_append]
        exact ((dw.mono g3.ss).mono g4.ss).append (.cons d4 .nil)
      · rw [upd_ne]
        · exact ea3 H4 g4.hh
        · intro z
          subst z
          rcases hl1 with h | ⟨o, h⟩
          · exact absurd h (by rw [hD]; exact fun z => nomatch z)
          · exact absurd h (by rw [hD]; exact fun z => nomatch z)
  · rintro H' ⟨⟨Hs2, ws, g2, hD2, nD2, dw⟩, _⟩
    have hlen : vs.length = xs.length := by rw [hs1.length, List.length_map]
    rw [hlen, List.take_length] at dw
    exact q D ws Hs2 H' (g1.trans g2) hD2 (g1.hh.back hD) nD2 dw
/-- [elt for v in iter] -/
theorem eo_lc (hc : X.calm = true) (hN : X.N.Nodup) (hv : X.N[i]? = some v) (ok : BlkOk X.N X.env.scope scope [(v, i)])
    (hi : EvL X iter ρ (xs.map g)) (hl : xs.length ≤ 1000000)
    (he : ∀ x ∈ xs, InB X scope fun Y => EvD Y elt (ρ.set i (.d (g x))) (f x)) (hsc : InB X scope fun Y => Y.env.scope.names.lookup v = some .local := by exact fun _ _ _ _ _ => rfl) (hs : ∀ x, foldedSetIterable iter X.env x = pure x := by intro _; rfl) :
    EvC X (.ListComp elt [⟨.Name v vp, iter, [], 0⟩] scope pos) ρ (xs.map f) := fun σ Hs H E ex Q q => by
  refine ⟨_, pas_lc (own := [(v, i)]) hc hN (pi_list pe_w) ok (fun s H C cl fp => pg_name (i := i) hN hv (Or.inl (hsc s H C cl fp)) (Or.inr (hsc s H C cl fp))) (fun s H C cl fp => pts_nil) pe_b hs, ?_⟩
  refine hi σ Hs H E ex _ fun a vs Hs1 H1 g1 hl1 hs1 => ?_
  refine ⟨a, rfl, ⟨_, .inl hl1⟩, fun D hD => ?_⟩
  refine lc_list (K := X.K) (a := a) (xs := vs) (fun m H' => LcAt X.K Hs1 H1 D ((xs.take m).map f) H' ∧ H' a = H1 a) ?_ ?_ ?_ ?_
  · refine ⟨⟨Hs1, [], ⟨Ex.refl _, g1.sh.trans (Ex.new hD), Ex.new hD, fun _ h _ => h⟩, upd_same, g1.sh.back hD, .nil⟩, ?_⟩
    refine upd_ne ?_
    rcases hl1 with h | ⟨o, h⟩
    · exact ne_of_none h hD
    · exact ne_of_none h hD
  · rintro m H' _ ⟨_, e⟩
    refine .inl ?_
    unfold Rd
    rw [e]
    exact hl1
  · rintro m w H' hm ⟨⟨Hs2, ws, g2, hD2, nD2, dw⟩, ea⟩
    obtain ⟨d, hd, dv⟩ := hs1.get hm
    obtain ⟨x, hx, rfl⟩ : ∃ x, xs[m]? = some x ∧ g x = d := by
      rw [List.getElem?_map] at hd
      cases e : xs[m]? with
      | none => rw [e] at hd; cases hd
      | some x => rw [e] at hd; exact ⟨x, rfl, Option.some.inj hd⟩
    have mx : x ∈ xs := List.mem_of_getElem? hx
    show wipe ((wipe σ [i]).set i (some w)) [i] = wipe σ [i] ∧ bE X scope elt ((wipe σ [i]).set i (some w)) H' _
    refine ⟨set_set_none, fun s0 H0 C cl fp => ?_⟩
    have E2 : En X.K Hs2 H' ((wipe σ [i]).set i (some w)) (ρ.set i (.d (g x))) := by
      have e1 := ((E.step g1).step g2).set (i := i) (dv.mono g2.ss)
      have e2 : (wipe σ [i]).set i (some w) = σ.set i (some w) := by simp [wipe]
      rw [e2]
      exact e1
    have ea3 : ∀ H4, Ex H' H4 → H4 a = H1 a := fun H4 ex4 => by
      have : ∃ o, H1 a = some o := by
        rcases hl1 with h | ⟨o, h⟩
        · exact ⟨_, h⟩
        · exact ⟨_, h⟩
      obtain ⟨o, ho⟩ := this
      rw [ho]
      exact ex4 _ _ (by rw [ea]; exact ho)
    refine he x mx s0 H0 C cl fp _ Hs2 H' E2 g2.sh _ fun y Hs4 H4 g4 d4 => ?_
    have hD4 : H4 D = some (.lst ws) := g4.hh _ _ hD2
    have nD4 : Hs4 D = none := g4.fr D nD2 (by rw [hD2]; exact fun z => nomatch z)
    have hwl : ws.length ≤ xs.length := by
      rw [dw.length, List.length_map, List.length_take]; omega
    refine ⟨ws, hD4, Nat.lt_of_le_of_lt (Nat.le_trans hwl hl) (by decide), ⟨Hs4, ws ++ [y], ?_, upd_same, nD4, ?_⟩, ?_⟩
    · have G := g2.trans g4
      refine ⟨G.ss, G.sh.mut nD4, G.hh.mut hD, G.fr⟩
    · rw [List.take_add_one, hx, List.map_append]
      exact (dw.mono g4.ss).append (.cons d4 .nil)
    · rw [upd_ne]
      · exact ea3 H4 g4.hh
      · intro z
        subst z
        rcases hl1 with h | ⟨o, h⟩
        · exact absurd h (by rw [hD]; exact fun z => nomatch z)
        · exact absurd h (by rw [hD]; exact fun z => nomatch z)
  · rintro H' ⟨⟨Hs2, ws, g2, hD2, nD2, dw⟩, _⟩
    have hlen : vs.length = xs.length := by rw [hs1.length, List.length_map]
    rw [hlen, List.take_length] at dw
    exact q D ws Hs2 H' (g1.trans g2) hD2 (g1.hh.back hD) nD2 dw
variable {n : Int} {rp rq : Pos} {F : Nat → D}
/-- [elt for v in range(e)] -/
theorem eo_lcR (hc : X.calm = true) (hN : X.N.Nodup) (hv : X.N[i]? = some v) (ok : BlkOk X.N X.env.scope scope [(v, i)])
    (hm : X.mg "range" = none) (hi : EvD X c ρ (.int n)) (hn : 0 ≤ n) (hl : n ≤ 1000000)
    (he : ∀ k : Nat, (k : Int) < n → InB X scope fun Y => EvD Y elt (ρ.set i (.d (.int k))) (F k)) (hsc : InB X scope fun Y => Y.env.scope.names.lookup v = some .local := by exact fun _ _ _ _ _ => rfl) (hg : Gl X "range" := by rfl) (hs : ∀ x, foldedSetIterable (.Call (.Name "range" rp) [c] [] rq) X.env x = pure x := by intro _; rfl) (hst : starEach [c] X.env = [(false, eval c X.env)] := by rfl) (hst2 : starEach [c] X.env = (false, eval c X.env) :: starEach [] X.env := by rfl) :
    EvC X (.ListComp elt [⟨.Name v vp, .Call (.Name "range" rp) [c] [] rq, [], 0⟩] scope pos) ρ ((List.range n.toNat).map F) := fun σ Hs H E ex Q q => by
  refine ⟨_, pas_lc (own := [(v, i)]) hc hN (pi_range1 hg hm pa_w hst) ok (fun s H C cl fp => pg_name (i := i) hN hv (Or.inl (hsc s H C cl fp)) (Or.inr (hsc s H C cl fp))) (fun s H C cl fp => pts_nil) pe_b hs, ?_⟩
  refine (ea_cons (es := []) hi ea_nil hst2) σ Hs H E ex _ fun us Hs1 H1 g1 d1 => ?_
  cases d1 with
  | cons d1 dn =>
  cases dn
  cases d1
  refine ⟨n, rfl, by omega, by omega, fun D hD => ?_⟩
  refine lc_range (lo := 0) (n := n.toNat) (fun m H' => LcAt X.K Hs1 H1 D ((List.range m).map F) H' ∧ m ≤ n.toNat) ?_ ?_ ?_
  · exact ⟨⟨Hs1, [], ⟨Ex.refl _, g1.sh.trans (Ex.new hD), Ex.new hD, fun _ h _ => h⟩, upd_same, g1.sh.back hD, .nil⟩, Nat.zero_le _⟩
  · rintro m H' hm ⟨⟨Hs2, ws, g2, hD2, nD2, dw⟩, _⟩
    have e0 : (0 : Int) + (m : Int) = (m : Int) := Int.zero_add _
    show wipe ((wipe σ [i]).set i (some (.int ((0 : Int) + (m : Int))))) [i] = wipe σ [i] ∧ bE X scope elt ((wipe σ [i]).set i (some (.int ((0 : Int) + (m : Int))))) H' _
    rw [e0]
    refine ⟨set_set_none, fun s0 H0 C cl fp => ?_⟩
    have dv : DV X.K Hs1 (V.int (m : Int)) (.int (m : Int)) := .int _
    have E2 : En X.K Hs2 H' ((wipe σ [i]).set i (some (.int (m : Int)))) (ρ.set i (.d (.int (m : Int)))) := by
      have e1 := ((E.step g1).step g2).set (i := i) (dv.mono g2.ss)
      have e2 : (wipe σ [i]).set i (some (.int (m : Int))) = σ.set i (some (.int (m : Int))) := by simp [wipe]
      rw [e2]
      exact e1
    refine he m (by omega) s0 H0 C cl fp _ Hs2 H' E2 g2.sh _ fun y Hs4 H4 g4 d4 => ?_
    have hD4 : H4 D = some (.lst ws) := g4.hh _ _ hD2
    have nD4 : Hs4 D = none := g4.fr D nD2 (by rw [hD2]; exact fun z => nomatch z)
    have hwl : ws.length = m := by
      rw [dw.length, List.length_map, List.length_range]
    refine ⟨ws, hD4, Nat.lt_of_le_of_lt (by omega : ws.length ≤ 1000000) (by decide), ⟨Hs4, ws ++ [y], ?_, upd_same, nD4, ?_⟩, hm⟩
    · have G := g2.trans g4
      refine ⟨G.ss, G.sh.mut nD4, G.hh.mut hD, G.fr⟩
    · rw [List.range_succ, List.map_append]
      exact (dw.mono g4.ss).append (.cons d4 .nil)
  · rintro H' ⟨⟨Hs2, ws, g2, hD2, nD2, dw⟩, _⟩
    exact q D ws Hs2 H' (g1.trans g2) hD2 (g1.hh.back hD) nD2 dw
end


/-! ### statements over data -/
/-- an object of one's own at a: nothing that data lean on -/
def OwnL (K : PySem.W.Frag) (H0 Hs H : Hp) (a : Addr) (c : Cell) : Prop := ∃ o, H a = some o ∧ Hs a = none ∧ H0 a = none ∧ CellV K Hs c o
/-- a slot holds what is told -/
def SlOk (K : PySem.W.Frag) (H0 Hs H : Hp) : Sl → Option V → Prop
  | .no, _ => True
  | .d d, v => ∃ u, v = some u ∧ DV K Hs u d
  | .own ds gs, v => ∃ a, v = some (.ref a) ∧ OwnL K H0 Hs H a ds ∧ (∀ g ∈ gs, OwnL K H0 Hs H g.1 g.2) ∧ (a :: gs.map (·.1)).Nodup
  | .obj a gs, v => v = some (.ref a) ∧ (∀ g ∈ gs, OwnL K H0 Hs H g.1 g.2) ∧ (gs.map (·.1)).Nodup
  | .ro ds, v => ∃ a vs, v = some (.ref a) ∧ Rd H0 a (.lst vs) ∧ DVs K Hs vs ds
/-- the lists of one's own that a slot holds -/
def ow1 : Sl → Option V → List Addr
  | .own _ gs, some (.ref a) => a :: gs.map (·.1)
  | .obj _ gs, some (.ref _) => gs.map (·.1)
  | _, _ => []
def ow (σ : L2.St) (ρ : Rho) (i : Nat) : List Addr := match ρ[i]?, σ[i]? with
  | some x, some v => ow1 x v
  | _, _ => []
/-- the slots stand as told; the def was entered at (Hs0, H0) -/
structure Stt (K : PySem.W.Frag) (Hs0 H0 Hs H : Hp) (σ : L2.St) (ρ : List Sl) : Prop where
  gr : Gr Hs0 H0 Hs H
  len : σ.length = ρ.length
  all : ∀ (i : Nat) (x : Sl) (v : Option V), ρ[i]? = some x → σ[i]? = some v → SlOk K H0 Hs H x v
  dis : ∀ (i j : Nat) (b : Addr), b ∈ ow σ ρ i → b ∈ ow σ ρ j → i = j
section
variable {K : PySem.W.Frag} {Hs0 H0 Hs H Hs' H' : Hp} {σ : L2.St} {ρ ρ' : List Sl} {i : Nat} {d : D} {ds : List D} {c : Cell} {gs : List (Addr × Cell)} {v : V} {x : Sl}
theorem OwnL.step {a : Addr} (h : OwnL K H0 Hs H a c) (g : Gr Hs H Hs' H') : OwnL K H0 Hs' H' a c :=
  let ⟨vs, h2, h3, h4, h5⟩ := h
  ⟨vs, g.hh _ _ h2, g.fr a h3 (by rw [h2]; exact fun z => nomatch z), h4, h5.mono g.ss⟩
theorem OwnL.keep {a : Addr} (h : OwnL K H0 Hs H a c) (ss : Ex Hs Hs') (e : H' a = H a) (n : Hs' a = none) : OwnL K H0 Hs' H' a c :=
  let ⟨vs, h2, _, h4, h5⟩ := h
  ⟨vs, e.trans h2, n, h4, h5.mono ss⟩
theorem Stt.at_ (S : Stt K Hs0 H0 Hs H σ ρ) (h : ρ[i]? = some x) : ∃ v, σ[i]? = some v ∧ SlOk K H0 Hs H x v := by
  have hl : i < σ.length := by rw [S.len]; exact (List.getElem?_eq_some_iff.mp h).1
  exact ⟨σ[i], List.getElem?_eq_getElem hl, S.all i x _ h (List.getElem?_eq_getElem hl)⟩
theorem Stt.dat (S : Stt K Hs0 H0 Hs H σ ρ) (i : Nat) (d : D) (h : ρ[i]? = some (.d d)) : ∃ v, σ[i]? = some (some v) ∧ DV K Hs v d := by
  obtain ⟨_, h1, u, rfl, h2⟩ := S.at_ h
  exact ⟨u, h1, h2⟩
theorem Stt.own (S : Stt K Hs0 H0 Hs H σ ρ) (i : Nat) (h : ρ[i]? = some (.own c gs)) : ∃ a, σ[i]? = some (some (.ref a)) ∧ OwnL K H0 Hs H a c ∧ (∀ g ∈ gs, OwnL K H0 Hs H g.1 g.2) ∧ (a :: gs.map (·.1)).Nodup ∧ ow σ ρ i = a :: gs.map (·.1) := by
  obtain ⟨_, h1, a, rfl, h2, h3, h4⟩ := S.at_ h
  exact ⟨a, h1, h2, h3, h4, by unfold ow; rw [h, h1]; rfl⟩
theorem Stt.en (S : Stt K Hs0 H0 Hs H σ ρ) : En K Hs H σ ρ := ⟨S.len, S.dat, fun i ds h => by
  obtain ⟨_, h1, a, vs, rfl, h2, h3⟩ := S.at_ h
  exact ⟨a, vs, h1, S.gr.hh.rd h2, h3⟩, fun i ds gs h => by
  obtain ⟨a, h1, h2, h3, _⟩ := S.own i h
  refine ⟨a, h1, fun g hg => ?_⟩
  rcases List.mem_cons.mp hg with rfl | hg
  · obtain ⟨o, h2, _, _, h4⟩ := h2
    exact ⟨o, .inl h2, h4⟩
  · obtain ⟨vs, h2, _, _, h3⟩ := h3 g hg
    exact ⟨vs, .inl h2, h3⟩, fun i a gs h => by
  obtain ⟨v, h1, h2, h3, _⟩ := S.at_ h
  refine ⟨by rw [h1, h2], fun g hg => ?_⟩
  obtain ⟨vs, h2, _, _, h3⟩ := h3 g hg
  exact ⟨vs, .inl h2, h3⟩⟩
theorem Stt.obj (S : Stt K Hs0 H0 Hs H σ ρ) (i : Nat) {a : Addr} (h : ρ[i]? = some (.obj a gs)) : σ[i]? = some (some (.ref a)) ∧ (∀ g ∈ gs, OwnL K H0 Hs H g.1 g.2) ∧ (gs.map (·.1)).Nodup ∧ ow σ ρ i = gs.map (·.1) := by
  obtain ⟨v, h1, h2, h3, h4⟩ := S.at_ h
  subst h2
  exact ⟨h1, h3, h4, by unfold ow; rw [h, h1]; rfl⟩
theorem SlOk.step {v : Option V} (h : SlOk K H0 Hs H x v) (g : Gr Hs H Hs' H') : SlOk K H0 Hs' H' x v := by
  cases x with
  | no => exact True.intro
  | d d => obtain ⟨u, h1, h2⟩ := h; exact ⟨u, h1, h2.mono g.ss⟩
  | own ds gs => obtain ⟨a, h1, h2, h3, h4⟩ := h; exact ⟨a, h1, h2.step g, fun y hy => (h3 y hy).step g, h4⟩
  | obj a gs => obtain ⟨h1, h3, h4⟩ := h; exact ⟨h1, fun y hy => (h3 y hy).step g, h4⟩
  | ro ds => obtain ⟨a, vs, h1, h2, h3⟩ := h; exact ⟨a, vs, h1, h2, h3.mono g.ss⟩
theorem mem_ow1 {b : Addr} {x : Sl} {v : Option V} (h : b ∈ ow1 x v) : ∃ a, v = some (.ref a) ∧ ((∃ c gs, x = .own c gs ∧ b ∈ a :: gs.map (·.1)) ∨ ∃ a' gs, x = .obj a' gs ∧ b ∈ gs.map (·.1)) := by
  unfold ow1 at h
  split at h
  · exact ⟨_, rfl, .inl ⟨_, _, rfl, h⟩⟩
  · exact ⟨_, rfl, .inr ⟨_, _, rfl, h⟩⟩
  · cases h
theorem SlOk.own {b : Addr} {x : Sl} {v : Option V} (h : SlOk K H0 Hs H x v) (hb : b ∈ ow1 x v) : ∃ es, OwnL K H0 Hs H b es := by
  obtain ⟨a, rfl, ⟨c, gs, rfl, hb⟩ | ⟨a', gs, rfl, hb⟩⟩ := mem_ow1 hb
  · obtain ⟨a', h1, h2, h3, _⟩ := h
    cases h1
    rcases List.mem_cons.mp hb with rfl | hb
    · exact ⟨_, h2⟩
    · obtain ⟨g, hg, rfl⟩ := List.mem_map.mp hb
      exact ⟨_, h3 g hg⟩
  · obtain ⟨g, hg, rfl⟩ := List.mem_map.mp hb
    exact ⟨_, h.2.1 g hg⟩
theorem mem_ow {b : Addr} (h : b ∈ ow σ ρ i) : ∃ x v, ρ[i]? = some x ∧ σ[i]? = some v ∧ b ∈ ow1 x v := by
  unfold ow at h
  split at h
  · rename_i x v h1 h2
    exact ⟨x, v, h1, h2, h⟩
  · cases h
theorem Stt.owner {b : Addr} (S : Stt K Hs0 H0 Hs H σ ρ) (h : b ∈ ow σ ρ i) : ∃ es, OwnL K H0 Hs H b es := by
  obtain ⟨x, v, h1, h2, h3⟩ := mem_ow h
  exact (S.all i x v h1 h2).own h3
theorem SlOk.keep {v : Option V} (h : SlOk K H0 Hs H x v) (ss : Ex Hs Hs') (k : ∀ b ∈ ow1 x v, H' b = H b ∧ Hs' b = none) : SlOk K H0 Hs' H' x v := by
  cases x with
  | no => exact True.intro
  | d d => obtain ⟨u, h1, h2⟩ := h; exact ⟨u, h1, h2.mono ss⟩
  | own ds gs =>
    obtain ⟨a, rfl, h2, h3, h4⟩ := h
    refine ⟨a, rfl, h2.keep ss (k a List.mem_cons_self).1 (k a List.mem_cons_self).2, fun y hy => ?_, h4⟩
    have := k y.1 (List.mem_cons_of_mem _ (List.mem_map_of_mem hy))
    exact (h3 y hy).keep ss this.1 this.2
  | obj a gs =>
    obtain ⟨rfl, h3, h4⟩ := h
    refine ⟨rfl, fun y hy => ?_, h4⟩
    have := k y.1 (List.mem_map_of_mem hy)
    exact (h3 y hy).keep ss this.1 this.2
  | ro ds => obtain ⟨a, vs, h1, h2, h3⟩ := h; exact ⟨a, vs, h1, h2, h3.mono ss⟩
theorem ow_ne {j : Nat} {v : Option V} (h : i ≠ j) : ow (σ.set i v) (ρ.set i x) j = ow σ ρ j := by
  unfold ow
  rw [List.getElem?_set_ne h, List.getElem?_set_ne h]
theorem ow_eq {v : Option V} {b : Addr} (h : b ∈ ow (σ.set i v) (ρ.set i x) i) : b ∈ ow1 x v := by
  obtain ⟨y, u, h1, h2, h3⟩ := mem_ow h
  rcases get_set h1 with ⟨_, rfl⟩ | ⟨q, _⟩
  · rcases get_set h2 with ⟨_, rfl⟩ | ⟨q, _⟩
    · exact h3
    · exact absurd rfl q
  · exact absurd rfl q
/-- a slot is set anew, and the heap with it -/
theorem Stt.put {v : Option V} (S : Stt K Hs0 H0 Hs H σ ρ) (i : Nat) (g : Gr Hs0 H0 Hs' H') (ss : Ex Hs Hs') (k : ∀ j, j ≠ i → ∀ b ∈ ow σ ρ j, H' b = H b ∧ Hs' b = none) (hx : SlOk K H0 Hs' H' x v)
    (n : ∀ j, j ≠ i → ∀ b ∈ ow σ ρ j, b ∉ ow1 x v) : Stt K Hs0 H0 Hs' H' (σ.set i v) (ρ.set i x) := by
  refine ⟨g, by simp [S.len], fun j y u h1 h2 => ?_, fun j m b h1 h2 => ?_⟩
  · rcases get_set h1 with ⟨rfl, rfl⟩ | ⟨q, h1'⟩
    · rcases get_set h2 with ⟨_, rfl⟩ | ⟨q, _⟩
      · exact hx
      · exact absurd rfl q
    · rw [List.getElem?_set_ne q] at h2
      refine (S.all j y u h1' h2).keep ss fun b hb => k j (Ne.symm q) b ?_
      unfold ow
      rw [h1', h2]
      exact hb
  · by_cases e1 : i = j
    · subst e1
      by_cases e2 : i = m
      · exact e2
      · rw [ow_ne e2] at h2
        exact absurd (ow_eq h1) (n m (Ne.symm e2) b h2)
    · rw [ow_ne e1] at h1
      by_cases e2 : i = m
      · subst e2
        exact absurd (ow_eq h2) (n j (Ne.symm e1) b h1)
      · rw [ow_ne e2] at h2
        exact S.dis j m b h1 h2
/-- more has come -/
theorem Stt.step (S : Stt K Hs0 H0 Hs H σ ρ) (g : Gr Hs H Hs' H') : Stt K Hs0 H0 Hs' H' σ ρ := ⟨S.gr.trans g, S.len, fun i x v h1 h2 => (S.all i x v h1 h2).step g, S.dis⟩
theorem Stt.big (S : Stt K Hs0 H0 Hs H σ ρ) (e : Ex H H') : Stt K Hs0 H0 Hs H' σ ρ := S.step (Gr.big S.gr.sh e)
theorem Stt.keep (S : Stt K Hs0 H0 Hs H σ ρ) {b : Addr} {j : Nat} (h : b ∈ ow σ ρ j) : H b = H b ∧ Hs b = none :=
  let ⟨_, _, _, h3, _⟩ := S.owner h
  ⟨rfl, h3⟩
theorem Stt.set (S : Stt K Hs0 H0 Hs H σ ρ) (h : DV K Hs v d) : Stt K Hs0 H0 Hs H (σ.set i (some v)) (ρ.set i (.d d)) :=
  S.put i S.gr (Ex.refl _) (fun j _ b hb => S.keep hb) ⟨v, rfl, h⟩ (fun j _ b _ h => nomatch h)
/-- the part that the data lean on is taken as the entry's -/
theorem Stt.rebase (S : Stt K Hs0 H0 Hs H σ ρ) : Stt K Hs H0 Hs H σ ρ := ⟨⟨Ex.refl _, S.gr.sh, S.gr.hh, fun _ h _ => h⟩, S.len, S.all, S.dis⟩
theorem Gr.under {Hs0 H0 Hs1 H1 Hs2 H2 : Hp} (g : Gr Hs0 H0 Hs1 H1) (k : Gr Hs1 H0 Hs2 H2) : Gr Hs0 H0 Hs2 H2 := ⟨g.ss.trans k.ss, k.sh, k.hh, fun b h1 h2 => k.fr b (g.fr b h1 h2) h2⟩
theorem Stt.under {Hs1 H1 : Hp} (g : Gr Hs0 H0 Hs1 H1) (S : Stt K Hs1 H0 Hs H σ ρ) : Stt K Hs0 H0 Hs H σ ρ := ⟨g.under S.gr, S.len, S.all, S.dis⟩
/-- less is said -/
def Le : List Sl → List Sl → Prop
  | [], [] => True
  | a :: as, b :: bs => (b = .no ∨ b = a) ∧ Le as bs
  | _, _ => False
theorem Le.refl : ∀ ρ : List Sl, Le ρ ρ
  | [] => True.intro
  | _ :: r => ⟨.inr rfl, Le.refl r⟩
theorem Le.len : ∀ {ρ ρ' : List Sl}, Le ρ ρ' → ρ.length = ρ'.length
  | [], [], _ => rfl
  | _ :: _, _ :: _, ⟨_, h⟩ => by rw [List.length_cons, List.length_cons, Le.len h]
theorem Le.at_ : ∀ {ρ ρ' : List Sl} {i : Nat} {x : Sl}, Le ρ ρ' → ρ'[i]? = some x → x = .no ∨ ρ[i]? = some x
  | a :: as, b :: bs, 0, x, ⟨h, _⟩, e => by
    simp at e; subst e
    rcases h with h | h
    · exact .inl h
    · exact .inr (by simp [h])
  | a :: as, b :: bs, i + 1, x, ⟨_, h⟩, e => by
    have := Le.at_ (i := i) (x := x) h (by simpa using e)
    simpa using this
  | [], [], _, _, _, e => by simp at e
theorem Stt.le (S : Stt K Hs0 H0 Hs H σ ρ) (l : Le ρ ρ') : Stt K Hs0 H0 Hs H σ ρ' := by
  refine ⟨S.gr, by rw [S.len, l.len], fun j x v hj hv => ?_, fun i j b h1 h2 => ?_⟩
  · rcases l.at_ hj with rfl | q
    · exact True.intro
    · exact S.all j x v q hv
  · have sub : ∀ i, b ∈ ow σ ρ' i → b ∈ ow σ ρ i := fun i h => by
      obtain ⟨x, v, q1, q2, q3⟩ := mem_ow h
      rcases l.at_ q1 with rfl | q
      · cases q3
      · unfold ow; rw [q, q2]; exact q3
    exact S.dis i j b (sub i h1) (sub j h2)
/-- a new list of one's own at a -/
theorem Stt.newL {a : Addr} {vs : List V} (S : Stt K Hs0 H0 Hs H σ ρ) (g : Gr Hs H Hs' H') (h1 : H' a = some (.lst vs)) (h2 : H a = none) (h3 : Hs' a = none) (dv : DVs K Hs' vs ds) : Stt K Hs0 H0 Hs' H' (σ.set i (some (.ref a))) (ρ.set i (.acc ds)) := by
  have S' := S.step g
  refine S'.put i S'.gr (Ex.refl _) (fun j _ b hb => S'.keep hb) ⟨a, rfl, ⟨.lst vs, h1, h3, S.gr.hh.back h2, dv⟩, fun _ h => (nomatch h), by simp⟩ fun j _ b hb hb' => ?_
  obtain ⟨es, ws, q, _⟩ := S.owner hb
  have : b = a := by simpa [ow1] using hb'
  subst this
  rw [h2] at q
  cases q
theorem set_same {α : Type} {l : List α} {i : Nat} {a : α} (h : l[i]? = some a) : l.set i a = l := by
  obtain ⟨h1, h2⟩ := List.getElem?_eq_some_iff.mp h
  subst h2
  exact List.set_getElem_self h1
/-- what is at an own list's place changes: the slot with it -/
theorem Stt.mut {a p : Addr} {gs' : List (Addr × Cell)} {ds' : Cell} {o : HO} (S : Stt K Hs0 H0 Hs H σ ρ) (hi : ρ[i]? = some (.own c gs)) (hp : p ∈ ow σ ρ i) (ha : σ[i]? = some (some (.ref a)))
    (hx : SlOk K H0 Hs (upd H p o) (.own ds' gs') (some (.ref a))) (hn : gs'.map (·.1) = gs.map (·.1)) : Stt K Hs0 H0 Hs (upd H p o) σ (ρ.set i (.own ds' gs')) := by
  obtain ⟨a', q1, _, _, _, q5⟩ := S.own i hi
  rw [ha] at q1
  cases q1
  obtain ⟨es, ws, z1, z2, z3, z4⟩ := S.owner hp
  have := S.put (i := i) (x := .own ds' gs') (v := some (.ref a)) (Hs' := Hs) (H' := upd H p o) ⟨S.gr.ss, S.gr.sh.mut z2, S.gr.hh.mut z3, S.gr.fr⟩ (Ex.refl _) (fun j hj b hb => ?_) hx (fun j hj b hb hb' => ?_)
  · rwa [set_same ha] at this
  · refine ⟨upd_ne fun z => ?_, (S.keep hb).2⟩
    subst z
    exact hj (S.dis j i b hb hp)
  · refine hj (S.dis j i b hb ?_)
    rw [q5, ← hn]
    exact hb'
end

inductive Out where
  | nx (ρ : List Sl) | rt (d : D) | rl (ds : List D) | bk (ρ : List Sl) | ct (ρ : List Sl)
/-- the wishes E are met by whatever P allows -/
structure Fin (K : PySem.W.Frag) (Hs0 H0 : Hp) (E : Ends) (P : Out → Prop) : Prop where
  nx : ∀ ρ', P (.nx ρ') → ∀ σ' Hs' H', Stt K Hs0 H0 Hs' H' σ' ρ' → E.nx σ' H'
  rt : ∀ d, P (.rt d) → ∀ v Hs' H', Gr Hs0 H0 Hs' H' → DV K Hs' v d → E.rt v H'
  rl : ∀ ds, P (.rl ds) → ∀ a vs Hs' H', Gr Hs0 H0 Hs' H' → H' a = some (.lst vs) → H0 a = none → Hs' a = none → DVs K Hs' vs ds → E.rt (.ref a) H'
  bk : ∀ ρ', P (.bk ρ') → ∀ σ' Hs' H', Stt K Hs0 H0 Hs' H' σ' ρ' → E.bk σ' H'
  ct : ∀ ρ', P (.ct ρ') → ∀ σ' Hs' H', Stt K Hs0 H0 Hs' H' σ' ρ' → E.ct σ' H'
def SxS (X : Cx) (st : Stmt) (ρ : List Sl) (P : Out → Prop) : Prop := ∀ Hs0 H0 σ Hs H, Stt X.K Hs0 H0 Hs H σ ρ → ∀ E, Fin X.K Hs0 H0 E P → wS X st E σ H
def SxB (X : Cx) (sts : List Stmt) (ρ : List Sl) (P : Out → Prop) : Prop := ∀ Hs0 H0 σ Hs H, Stt X.K Hs0 H0 Hs H σ ρ → ∀ E, Fin X.K Hs0 H0 E P → wB X sts E σ H
/-- a body that runs where nothing is raised or handled -/
structure Ok1 (X : Cx) : Prop where
  calm : X.calm = true
  nd : X.N.Nodup
  pass : PassesOwn (model X.prog X.w) X.A X.env X.xe

section
variable {X : Cx} {ρ ρ' : List Sl} {P P' : Out → Prop} {st : Stmt} {rest body sts : List Stmt} {e c a b : Expr} {pos p : Pos} {d : D} {i j : Nat} {n : Str} {ds : List D}
def thenB (X : Cx) (rest : List Stmt) (P : Out → Prop) : Out → Prop
  | .nx ρ' => SxB X rest ρ' P
  | o => P o
theorem sx_nil (h : P (.nx ρ)) : SxB X [] ρ P := fun Hs0 H0 σ Hs H S E F => ⟨_, pss_nil, F.nx ρ h σ Hs H S⟩
theorem sx_cons (h : SxS X st ρ (thenB X rest P)) : SxB X (st :: rest) ρ P := fun Hs0 H0 σ Hs H S E F =>
  ⟨_, pss_cons ps_w pss_w, h Hs0 H0 σ Hs H S { E with nx := wB X rest E } ⟨fun ρ' h' σ' Hs' H' S' => h' Hs0 H0 σ' Hs' H' S' E F, F.rt, F.rl, F.bk, F.ct⟩⟩
theorem sx_le (l : Le ρ ρ') (h : SxB X sts ρ' P) : SxB X sts ρ P := fun Hs0 H0 σ Hs H S E F => h Hs0 H0 σ Hs H (S.le l) E F
theorem sx_one (h : SxS X st ρ P) : SxB X [st] ρ P := fun Hs0 H0 σ Hs H S E F => ⟨_, pss_one ps_w, h Hs0 H0 σ Hs H S E F⟩
/-- between a statement and the rest: Mid is all that the rest has to know -/
def midP (Mid : List Sl → Prop) (P : Out → Prop) : Out → Prop
  | .nx ρ' => ∃ ρ2, Mid ρ2 ∧ Le ρ' ρ2
  | o => P o
theorem sx_cut (Mid : List Sl → Prop) (h : SxS X st ρ (midP Mid P)) (k : ∀ ρ', Mid ρ' → SxB X rest ρ' P) : SxB X (st :: rest) ρ P := fun Hs0 H0 σ Hs H S E F =>
  ⟨_, pss_cons ps_w pss_w, h Hs0 H0 σ Hs H S { E with nx := wB X rest E } ⟨fun ρ' h' σ' Hs' H' S' => let ⟨ρ2, h1, l⟩ := h'; k ρ2 h1 Hs0 H0 σ' Hs' H' (S'.le l) E F, F.rt, F.rl, F.bk, F.ct⟩⟩
/-- a list of one's own is only read from here on -/
theorem sx_frz (i : Nat) (ds : List D) {gs : List (Addr × Cell)} (hi : ρ[i]? = some (.own (.lst ds) gs)) (h : SxB X sts (ρ.set i (.d (.lst ds))) P) : SxB X sts ρ P := fun Hs0 H0 σ Hs H S E F => by
  obtain ⟨a, h1, ⟨o, h2, h3, h4, h5⟩, _, _, h6⟩ := S.own i hi
  obtain ⟨vs, rfl, h5⟩ := h5.lst
  have := S.put (i := i) (x := .d (.lst ds)) (v := some (.ref a)) (Hs' := upd Hs a (.lst vs)) (H' := H) ⟨S.gr.ss.trans (Ex.new h3), fun b o hb => ?_, S.gr.hh, fun b q1 q2 => ?_⟩ (Ex.new h3) (fun j hj b hb => ?_) ⟨_, rfl, .lst (sl upd_same) (h5.mono (Ex.new h3))⟩ (fun j hj b hb hb' => nomatch hb')
  · rw [set_same h1] at this
    exact h Hs0 H0 σ _ H this E F
  · by_cases q : b = a
    · subst q; rw [upd_same] at hb; cases hb; exact h2
    · rw [upd_ne q] at hb; exact S.gr.sh _ _ hb
  · rw [upd_ne]
    · exact S.gr.fr b q1 q2
    · intro z; subst z; exact q2 h4
  · refine ⟨rfl, ?_⟩
    rw [upd_ne]
    · exact (S.keep hb).2
    · intro z
      subst z
      exact hj (S.dis j i b hb (by rw [h6]; exact List.mem_cons_self))
theorem sx_pass (h : P (.nx ρ)) : SxS X (.Pass pos) ρ P := fun Hs0 H0 σ Hs H S E F => ⟨_, ps_pass, F.nx ρ h σ Hs H S⟩
theorem sx_break (h : P (.bk ρ)) : SxS X (.Break pos) ρ P := fun Hs0 H0 σ Hs H S E F => ⟨_, ps_break, F.bk ρ h σ Hs H S⟩
theorem sx_cont (h : P (.ct ρ)) : SxS X (.Continue pos) ρ P := fun Hs0 H0 σ Hs H S E F => ⟨_, ps_continue, F.ct ρ h σ Hs H S⟩
/-- x = e -/
theorem sx_set (i : Nat) {x : Str} {px : Pos} (O : Ok1 X) (h : EvD X e ρ d) (k : P (.nx (ρ.set i (.d d)))) (hi : X.N[i]? = some x := by rfl) (hx : Loc X.env.scope x := by first | exact .inl rfl | exact .inr rfl)
    (hs : swapsWith e (some (.Name x px)) pos.line X.env = pure false := by rfl) (hf : X.fn x = true ∨ X.env.scope.names.lookup x = some .local := by first | exact .inl rfl | exact .inr rfl) : SxS X (.Assign [.Name x px] e pos) ρ P := fun Hs0 H0 σ Hs H S E F =>
  ⟨_, ps_set (i := i) O.nd hi hx pe_w hs hf, h σ Hs H S.en S.gr.sh _ fun v Hs' H' g dv => F.nx _ k _ Hs' H' ((S.step g).set dv)⟩
/-- x = e, a new list -/
theorem sx_setO (i : Nat) {x : Str} {px : Pos} (O : Ok1 X) (h : EvO X e ρ ds) (k : P (.nx (ρ.set i (.acc ds)))) (hi : X.N[i]? = some x := by rfl) (hx : Loc X.env.scope x := by first | exact .inl rfl | exact .inr rfl)
    (hs : swapsWith e (some (.Name x px)) pos.line X.env = pure false := by rfl) (hf : X.fn x = true ∨ X.env.scope.names.lookup x = some .local := by first | exact .inl rfl | exact .inr rfl) : SxS X (.Assign [.Name x px] e pos) ρ P := fun Hs0 H0 σ Hs H S E F =>
  ⟨_, ps_set (i := i) O.nd hi hx pe_w hs hf, h σ Hs H S.en S.gr.sh _ fun a vs Hs' H' g h1 h2 h3 dv => F.nx _ k _ Hs' H' (S.newL g h1 h2 h3 dv)⟩
/-- x = [..], stored at once -/
theorem sx_setC (i : Nat) {x : Str} {px : Pos} (O : Ok1 X) (h : EvC X e ρ ds) (k : P (.nx (ρ.set i (.acc ds)))) (hi : X.N[i]? = some x := by rfl) (hx : X.env.scope.names.lookup x = some .local := by rfl)
    (hs : swapsWith e (some (.Name x px)) pos.line X.env = pure true := by rfl) : SxS X (.Assign [.Name x px] e pos) ρ P := fun Hs0 H0 σ Hs H S E F =>
  let ⟨_, p, q⟩ := h σ Hs H S.en S.gr.sh (fun v H' => gName i v σ H' E.nx) fun a vs Hs' H' g h1 h2 h3 dv => F.nx _ k _ Hs' H' (S.newL g h1 h2 h3 dv)
  ⟨_, p.2 i x px pos hi hx hs, q⟩
/-- xs.append(e), xs a list of one's own -/
theorem sx_app (i : Nat) {x : Str} {px ap cp : Pos} {gs : List (Addr × Cell)} (h : EvD X e ρ d) (hr : ρ[i]? = some (.own (.lst ds) gs)) (k : P (.nx (ρ.set i (.own (.lst (ds ++ [d])) gs)))) (hl : ds.length ≤ 1000000)
    (hi : X.N[i]? = some x := by rfl) (hv : Vis X.env.scope x := by first | exact .inl rfl | exact .inr (.inl rfl) | exact .inr (.inr rfl)) (h1 : (x == ("__debug__" : Str)) = false := by decide) (h2 : (x == ("__classdict__" : Str)) = false := by decide)
    (hbase : attributeBase (.Name x px) ("append" : Str) X.env (eval (.Name x px) X.env) = eval (.Name x px) X.env := by rfl)
    (hfew : ((backTo cp (starEach [e] X.env)).all (fun x => !x.1) && (backToKw cp (keywordEach [] X.env)).all (fun x => x.1.isSome)
      && decide (([e] : List Expr).length + ([] : List Keyword).length + (if ([] : List Keyword).isEmpty then 0 else 1) < 30)) = true := by rfl)
    (hline : (ap.endLine == cp.line) = true := by rfl) (hs : starEach [e] X.env = (false, eval e X.env) :: starEach [] X.env := by rfl) (hplain : (backTo cp (starEach [] X.env)).any (·.1) = false := by rfl)
    (hsw : swapsWith (.Call (.Attribute (.Name x px) "append" ap) [e] [] cp) none pos.line X.env = pure false := by rfl) : SxS X (.Expr (.Call (.Attribute (.Name x px) "append" ap) [e] [] cp) pos) ρ P := fun Hs0 H0 σ Hs H S E F => by
  obtain ⟨a, q1, ⟨o, q2, q3, q4, q5⟩, _, _, q6⟩ := S.own i hr
  obtain ⟨vs, rfl, q5⟩ := q5.lst
  refine ⟨_, ps_expr (pe_bm PySem.F.plainAttrs_list PySem.F.slot_list_append PySem.F.type_list_append mt_append (pe_var hi hv h1 h2) (pa_cons pe_w pa_nil hs) hbase hfew hline hs hplain) hsw, ?_⟩
  refine ⟨_, q1, .inl ⟨rfl, _, .inl (.inl q2)⟩, h σ Hs H S.en S.gr.sh _ fun v Hs' H' g dv => ?_⟩
  have S' := S.step g
  obtain ⟨a', r1, ⟨o', r2, r3, r4, r5⟩, r7, r8, r6⟩ := S'.own i hr
  obtain ⟨vs', rfl, r5⟩ := r5.lst
  rw [q1] at r1
  cases r1
  refine ⟨_, vs', v, rfl, rfl, r2, Nat.lt_of_le_of_lt (by rw [r5.length]; exact hl) (by decide), ?_⟩
  refine F.nx _ k _ Hs' _ (S'.mut hr (by rw [r6]; exact List.mem_cons_self) q1 ⟨a, rfl, ⟨.lst _, upd_same, r3, r4, r5.append (.cons dv .nil)⟩, fun x hx => ?_, r8⟩ rfl)
  refine (r7 x hx).keep (Ex.refl _) (upd_ne fun z => ?_) ?_
  · subst z
    exact (List.nodup_cons.mp r8).1 (List.mem_map_of_mem hx)
  · obtain ⟨_, _, z, _⟩ := r7 x hx
    exact z
theorem sx_drop (h : EvD X e ρ d) (k : P (.nx ρ)) (hs : swapsWith e none pos.line X.env = pure false := by rfl) : SxS X (.Expr e pos) ρ P := fun Hs0 H0 σ Hs H S E F =>
  ⟨_, ps_expr pe_w hs, h σ Hs H S.en S.gr.sh _ fun v Hs' H' g dv => F.nx _ k _ Hs' H' (S.step g)⟩
theorem sx_ret (h : EvD X e ρ d) (k : P (.rt d)) : SxS X (.Return (some e) pos) ρ P := fun Hs0 H0 σ Hs H S E F =>
  ⟨_, ps_ret pe_w, h σ Hs H S.en S.gr.sh _ fun v Hs' H' g dv => F.rt d k v Hs' H' (S.gr.trans g) dv⟩
/-- a new list is handed back -/
theorem sx_retO (h : EvO X e ρ ds) (k : P (.rl ds)) : SxS X (.Return (some e) pos) ρ P := fun Hs0 H0 σ Hs H S E F =>
  ⟨_, ps_ret pe_w, h σ Hs H S.en S.gr.sh _ fun a vs Hs' H' g h1 h2 h3 dv => F.rl ds k a vs Hs' H' (S.gr.trans g) h1 (S.gr.hh.back h2) h3 dv⟩
/-- a list of one's own is handed back -/
theorem sx_retA (i : Nat) {n : Str} {p : Pos} {gs : List (Addr × Cell)} (hd : ρ[i]? = some (.own (.lst ds) gs)) (k : P (.rl ds)) (hN : X.N[i]? = some n := by rfl) (hv : Vis X.env.scope n := by first | exact .inl rfl | exact .inr (.inl rfl) | exact .inr (.inr rfl))
    (h1 : (n == ("__debug__" : Str)) = false := by decide) (h2 : (n == ("__classdict__" : Str)) = false := by decide) : SxS X (.Return (some (.Name n p)) pos) ρ P := fun Hs0 H0 σ Hs H S E F =>
  let ⟨a, q1, ⟨o, q2, q3, q4, q5⟩, _⟩ := S.own i hd
  let ⟨vs, q0, q5⟩ := q5.lst
  ⟨_, ps_ret (pe_var hN hv h1 h2), _, q1, F.rl ds k a vs Hs H S.gr (q0 ▸ q2) q4 q3 q5⟩
theorem sx_retN (k : P (.rt .non)) : SxS X (.Return none pos) ρ P := fun Hs0 H0 σ Hs H S E F => ⟨_, ps_retN, F.rt .non k _ Hs H S.gr .non⟩
theorem sx_if {k : Bool} (h : EvT X c ρ k) (h1 : k = true → SxB X body ρ P) (h2 : k = false → SxB X rest ρ P) : SxS X (.If c body rest pos) ρ P := fun Hs0 H0 σ Hs H S E F =>
  ⟨_, ps_if pt_w pss_w pss_w, h σ Hs H S.en S.gr.sh _ fun Hs' H' g => by
    cases k with
    | true => exact h1 rfl Hs0 H0 σ Hs' H' (S.step g) E F
    | false => exact h2 rfl Hs0 H0 σ Hs' H' (S.step g) E F⟩
theorem sx_skip (h : EvT X c ρ false) (k : P (.nx ρ)) : SxS X (.If c body [] pos) ρ P := sx_if h (fun z => nomatch z) fun _ => sx_nil k
theorem sx_ifT (h : EvT X c ρ true) (k : SxB X body ρ P) : SxS X (.If c body rest pos) ρ P := sx_if h (fun _ => k) (fun z => nomatch z)
theorem sx_ifF (h : EvT X c ρ false) (k : SxB X rest ρ P) : SxS X (.If c body rest pos) ρ P := sx_if h (fun z => nomatch z) (fun _ => k)
/-- what a turn of a loop may end in: on with Iv, or out with P -/
def turnP (Iv : List Sl → Prop) (P : Out → Prop) : Out → Prop
  | .nx ρ' => ∃ ρ2, Iv ρ2 ∧ Le ρ' ρ2
  | .ct ρ' => ∃ ρ2, Iv ρ2 ∧ Le ρ' ρ2
  | .bk ρ' => P (.nx ρ')
  | .rt d => P (.rt d)
  | .rl ds => P (.rl ds)
theorem Fin.under {K : PySem.W.Frag} {Hs0 H0 Hs1 H1 : Hp} {E : Ends} (F : Fin K Hs0 H0 E P) (g : Gr Hs0 H0 Hs1 H1) : Fin K Hs1 H0 E P :=
  ⟨fun ρ' h σ' Hs' H' S => F.nx ρ' h σ' Hs' H' (S.under g), fun d h v Hs' H' k dv => F.rt d h v Hs' H' (g.under k) dv, fun ds h a vs Hs' H' k h1 h2 h3 dv => F.rl ds h a vs Hs' H' (g.under k) h1 h2 h3 dv, fun ρ' h σ' Hs' H' S => F.bk ρ' h σ' Hs' H' (S.under g), fun ρ' h σ' Hs' H' S => F.ct ρ' h σ' Hs' H' (S.under g)⟩
theorem turn_fin {K : PySem.W.Frag} {Hs0 H0 : Hp} {E : Ends} {Iv : List Sl → Prop} (F : Fin K Hs0 H0 E P) {N : L2.St → Hp → Prop} (hN : ∀ ρ', Iv ρ' → ∀ σ' Hs' H', Stt K Hs0 H0 Hs' H' σ' ρ' → N σ' H') :
    Fin K Hs0 H0 { E with nx := N, ct := N, bk := E.nx } (turnP Iv P) :=
  ⟨fun ρ' h σ' Hs' H' S => let ⟨ρ2, h1, l⟩ := h; hN ρ2 h1 σ' Hs' H' (S.le l), F.rt, F.rl, fun ρ' h σ' Hs' H' S => F.nx ρ' h σ' Hs' H' S, fun ρ' h σ' Hs' H' S => let ⟨ρ2, h1, l⟩ := h; hN ρ2 h1 σ' Hs' H' (S.le l)⟩
variable {α : Type} {xs : List α} {g : α → D} {iter : Expr} {v : Str} {vp : Pos}
/-- for v in iter: body, over a list -/
theorem sx_forL (j : Nat) (O : Ok1 X) (Iv : Nat → List Sl → Prop) (h : EvD X iter ρ (.lst (xs.map g))) (h0 : Iv 0 ρ)
    (hs : ∀ m x ρm, xs[m]? = some x → Iv m ρm → SxB X body (ρm.set j (.d (g x))) (turnP (Iv (m + 1)) P)) (hd : ∀ ρm, Iv xs.length ρm → P (.nx ρm))
    (hi : X.N[j]? = some v := by rfl) (hx : Loc X.env.scope v := by first | exact .inl rfl | exact .inr rfl) (hf : X.fn v = true ∨ X.env.scope.names.lookup v = some .local := by first | exact .inl rfl | exact .inr rfl) (hfs : ∀ x, foldedSetIterable iter X.env x = pure x := by intro _; rfl) :
    SxS X (.For (.Name v vp) iter body [] pos) ρ P := fun Hs0 H0 σ Hs H S E F => by
  refine ⟨_, ps_for O.pass O.calm (pi_list pe_w) (pg_name (i := j) O.nd hi hx hf) pss_w hfs, h σ Hs H S.en S.gr.sh _ fun u Hs1 H1 g1 d1 => ?_⟩
  have S1 := S.step g1
  cases d1 with
  | @lst a vs _ hl hv =>
  refine ⟨a, rfl, ⟨_, .inl (g1.sh.rd hl)⟩, for_list (K := X.K) (a := a) (xs := vs) (fun m σ' H' => ∃ Hs' ρ', Stt X.K Hs1 H0 Hs' H' σ' ρ' ∧ Iv m ρ') ⟨Hs1, ρ, S1.rebase, h0⟩ ?_ ?_ ?_⟩
  · rintro m σ' H' _ ⟨Hs', ρ', S', _⟩
    exact .inl (S'.gr.sh.rd (S'.gr.ss.rd hl))
  · rintro m w σ' H' hm ⟨Hs', ρ', S', iv⟩
    obtain ⟨d, hd', dv⟩ := hv.get hm
    obtain ⟨x, hx', rfl⟩ : ∃ x, xs[m]? = some x ∧ g x = d := by
      rw [List.getElem?_map] at hd'
      cases q : xs[m]? with
      | none => rw [q] at hd'; cases hd'
      | some x => rw [q] at hd'; exact ⟨x, rfl, Option.some.inj hd'⟩
    exact hs m x ρ' hx' iv Hs1 H0 _ Hs' H' (S'.set (dv.mono S'.gr.ss)) _ (turn_fin (F.under S1.gr) fun ρ2 h2 σ2 Hs2 H2 S2 => ⟨Hs2, ρ2, S2, h2⟩)
  · rintro σ' H' ⟨Hs', ρ', S', iv⟩
    have hlen : vs.length = xs.length := by rw [hv.length, List.length_map]
    rw [hlen] at iv
    exact F.nx _ (hd _ iv) σ' Hs' H' (S'.under S1.gr)
/-- for v in range(e): body -/
theorem sx_forR (j : Nat) {q : Pos} {N : Int} (O : Ok1 X) (hm : X.mg "range" = none) (Iv : Nat → List Sl → Prop) (h : EvD X e ρ (.int N)) (hn : N ≤ 1000000 ∧ -1000000 ≤ N) (h0 : Iv 0 ρ)
    (hs : ∀ (m : Nat) ρm, (m : Int) < N → Iv m ρm → SxB X body (ρm.set j (.d (.int m))) (turnP (Iv (m + 1)) P)) (hd : ∀ ρm, Iv N.toNat ρm → P (.nx ρm))
    (hi : X.N[j]? = some v := by rfl) (hx : Loc X.env.scope v := by first | exact .inl rfl | exact .inr rfl) (hf : X.fn v = true ∨ X.env.scope.names.lookup v = some .local := by first | exact .inl rfl | exact .inr rfl) (hg : Gl X "range" := by rfl)
    (hfs : ∀ x, foldedSetIterable (.Call (.Name "range" p) [e] [] q) X.env x = pure x := by intro _; rfl) (hst : starEach [e] X.env = [(false, eval e X.env)] := by rfl) (hst2 : starEach [e] X.env = (false, eval e X.env) :: starEach [] X.env := by rfl) :
    SxS X (.For (.Name v vp) (.Call (.Name "range" p) [e] [] q) body [] pos) ρ P := fun Hs0 H0 σ Hs H S E F => by
  refine ⟨_, ps_for O.pass O.calm (pi_range1 hg hm pa_w hst) (pg_name (i := j) O.nd hi hx hf) pss_w hfs, (ea_cons (es := []) h ea_nil hst2) σ Hs H S.en S.gr.sh _ fun us Hs1 H1 g1 d1 => ?_⟩
  have S1 := S.big g1.hh
  cases d1 with
  | cons d1 dn =>
  cases dn
  cases d1
  refine ⟨N, rfl, by omega, by omega, for_range (lo := 0) (n := N.toNat) (fun m σ' H' => ∃ Hs' ρ', Stt X.K Hs0 H0 Hs' H' σ' ρ' ∧ Iv m ρ') ⟨Hs, ρ, S1, h0⟩ ?_ ?_⟩
  · rintro m σ' H' hm ⟨Hs', ρ', S', iv⟩
    have e0 : (0 : Int) + (m : Int) = (m : Int) := Int.zero_add _
    rw [e0]
    exact hs m ρ' (by omega) iv Hs0 H0 _ Hs' H' (S'.set (.int _)) _ (turn_fin F fun ρ2 h2 σ2 Hs2 H2 S2 => ⟨Hs2, ρ2, S2, h2⟩)
  · rintro σ' H' ⟨Hs', ρ', S', iv⟩
    exact F.nx _ (hd _ iv) σ' Hs' H' S'
/-- for v in range(a, b): body -/
theorem sx_forR2 (j : Nat) {q : Pos} {L N : Int} (O : Ok1 X) (hm : X.mg "range" = none) (Iv : Nat → List Sl → Prop) (h1 : EvD X a ρ (.int L)) (h2 : EvD X b ρ (.int N)) (hn : N ≤ 1000000 ∧ -1000000 ≤ N ∧ L ≤ 1000000 ∧ -1000000 ≤ L) (h0 : Iv 0 ρ)
    (hs : ∀ (m : Nat) ρm, L + (m : Int) < N → Iv m ρm → SxB X body (ρm.set j (.d (.int (L + m)))) (turnP (Iv (m + 1)) P)) (hd : ∀ ρm, Iv (N - L).toNat ρm → P (.nx ρm))
    (hi : X.N[j]? = some v := by rfl) (hx : Loc X.env.scope v := by first | exact .inl rfl | exact .inr rfl) (hf : X.fn v = true ∨ X.env.scope.names.lookup v = some .local := by first | exact .inl rfl | exact .inr rfl) (hg : Gl X "range" := by rfl)
    (hfs : ∀ x, foldedSetIterable (.Call (.Name "range" p) [a, b] [] q) X.env x = pure x := by intro _; rfl) (hst : starEach [a, b] X.env = [(false, eval a X.env), (false, eval b X.env)] := by rfl) (hst1 : starEach [b] X.env = [(false, eval b X.env)] := by rfl)
    (hst2 : starEach [a, b] X.env = (false, eval a X.env) :: starEach [b] X.env := by rfl) (hst3 : starEach [b] X.env = (false, eval b X.env) :: starEach [] X.env := by rfl) :
    SxS X (.For (.Name v vp) (.Call (.Name "range" p) [a, b] [] q) body [] pos) ρ P := fun Hs0 H0 σ Hs H S E F => by
  refine ⟨_, ps_for O.pass O.calm (pi_range2 hg hm pa_w hst hst1) (pg_name (i := j) O.nd hi hx hf) pss_w hfs, (ea_cons (es := [b]) h1 (ea_cons (es := []) h2 ea_nil hst3) hst2) σ Hs H S.en S.gr.sh _ fun us Hs1 H1 g1 d1 => ?_⟩
  have S1 := S.big g1.hh
  cases d1 with
  | cons d1 dn =>
  cases dn with
  | cons d2 dn =>
  cases dn
  cases d1
  cases d2
  refine ⟨L, N, rfl, by omega, for_range (lo := L) (n := (N - L).toNat) (fun m σ' H' => ∃ Hs' ρ', Stt X.K Hs0 H0 Hs' H' σ' ρ' ∧ Iv m ρ') ⟨Hs, ρ, S1, h0⟩ ?_ ?_⟩
  · rintro m σ' H' hm ⟨Hs', ρ', S', iv⟩
    exact hs m ρ' (by omega) iv Hs0 H0 _ Hs' H' (S'.set (.int _)) _ (turn_fin F fun ρ2 h2 σ2 Hs2 H2 S2 => ⟨Hs2, ρ2, S2, h2⟩)
  · rintro σ' H' ⟨Hs', ρ', S', iv⟩
    exact F.nx _ (hd _ iv) σ' Hs' H' S'
/-- while c: body; m falls -/
theorem sx_while (O : Ok1 X) (Iv : Nat → List Sl → Prop) (m0 : Nat) (h0 : Iv m0 ρ)
    (hs : ∀ m ρm, Iv m ρm → ∃ k, EvT X c ρm k ∧ (k = true → SxB X body ρm (turnP (fun ρ' => ∃ m', m' < m ∧ Iv m' ρ') P)) ∧ (k = false → P (.nx ρm))) : SxS X (.While c body [] pos) ρ P := fun Hs0 H0 σ Hs H S E F => by
  refine ⟨_, ps_while O.pass pt_w pss_w, fun m σ' H' => ∃ Hs' ρ', Stt X.K Hs0 H0 Hs' H' σ' ρ' ∧ Iv m ρ', ⟨m0, Hs, ρ, S, h0⟩, ?_⟩
  rintro m σ' H' ⟨Hs', ρ', S', iv⟩
  obtain ⟨k, h, h1, h2⟩ := hs m ρ' iv
  refine h σ' _ H' S'.en S'.gr.sh _ fun Hs1 H1 g1 => ?_
  have S1 := S'.big g1.hh
  cases k with
  | true =>
    exact ⟨fun σ2 H2 => ∃ m', m' < m ∧ ∃ Hs2 ρ2, Stt X.K Hs0 H0 Hs2 H2 σ2 ρ2 ∧ Iv m' ρ2, fun σ2 H2 h => h, h1 rfl Hs0 H0 σ' Hs' H1 S1 _ (turn_fin F fun ρ2 ⟨m', hm, h2⟩ σ2 Hs2 H2 S2 => ⟨m', hm, Hs2, ρ2, S2, h2⟩)⟩
  | false => exact F.nx _ (h2 rfl) σ' Hs' H1 S1
end

/-! ### a def of data, by its body -/
/-- the slots at the entry -/
def slots0 (N : List Str) (ds : List D) : List Sl := ds.map .d ++ List.replicate (N.length - ds.length) .no
/-- the body comes back with d -/
def Ret (d : D) : Out → Prop
  | .rt x => x = d
  | .rl ds => d = .lst ds
  | .nx _ => d = .non
  | _ => False
theorem start_stt {K : PySem.W.Frag} {Hs H : Hp} {N : List Str} {vs : List V} {ds : List D} (e : Ex Hs H) (h : DVs K Hs vs ds) : Stt K Hs H Hs H (L2.start N vs) (slots0 N ds) := by
  have hl := h.length
  refine ⟨Gr.refl e, ?_, fun i x v q q2 => ?_, fun i j b h1 h2 => ?_⟩
  · unfold L2.start slots0
    simp [hl]
  · unfold slots0 at q
    by_cases hi : i < ds.length
    · rw [List.getElem?_append_left (by simpa using hi), List.getElem?_map] at q
      cases z : ds[i]? with
      | none => rw [z] at q; cases q
      | some x =>
        rw [z] at q
        cases q
        obtain ⟨u, h1, h2⟩ := h.getD z
        refine ⟨u, ?_, h2⟩
        unfold L2.start at q2
        rw [List.getElem?_append_left (by simpa [hl] using hi), List.getElem?_map, h1] at q2
        exact (Option.some.inj q2).symm
    · rw [List.getElem?_append_right (by simpa using hi), List.getElem?_replicate] at q
      split at q
      · cases q; exact True.intro
      · cases q
  · obtain ⟨x, v, q1, _, q3⟩ := mem_ow h1
    have m := List.mem_of_getElem? q1
    unfold slots0 at m
    rcases List.mem_append.mp m with z | z
    · obtain ⟨y, _, e⟩ := List.mem_map.mp z
      obtain ⟨a, _, ⟨c, gs, rfl, _⟩ | ⟨a', gs, rfl, _⟩⟩ := mem_ow1 q3 <;> cases e
    · rw [List.mem_replicate] at z
      obtain ⟨a, _, ⟨c, gs, rfl, _⟩ | ⟨a', gs, rfl, _⟩⟩ := mem_ow1 q3 <;> exact nomatch z.2
theorem fn_sx {P : Program} {w : World} {K : PySem.W.Frag} {mg : Str → Option Value} {base : Heap} {x qual : Str} {st : Stmt} {f : Addr} {fd : FuncData} {N ps : List Str} {k n : Nat} {G : List D → D → Prop} (F : Fun K x qual st f fd) (S : FnScope N ps (defScope st)) (hn : ps.length = n)
    (hb : ∀ cdv A outer s H E ds d, Room k (A.deeper (PyProof.Rows.envOfC qual (defScope st) s.heap.objs.size f cdv)) → ds.length = n → G ds d → SxB ((cxOf CX0 P w K mg base N qual (defScope st) f cdv A outer s H E).nox) (defBody st) (slots0 N ds) (Ret d)) :
    FnOk P w K mg base CX0 (k + 1) f fd ps (spD K n G) := by
  refine F.ok S (fun vs H Q E h => ?_) (fun cdv A outer s H vs Q E hr h => ?_)
  · obtain ⟨Hs, ds, d, e, dv, hl, _⟩ := h
    rw [dv.length, hl, hn]
  · obtain ⟨Hs, ds, d, e, dv, hl, hG, hQ⟩ := h
    refine hb cdv A outer s H E ds d hr hl hG Hs H _ Hs H (start_stt e dv) _ ⟨fun ρ' h' σ' Hs' H' S' => ?_, fun d' h' v Hs' H' g dv' => ?_, fun es h' a vs Hs' H' g q1 q2 q3 dv' => ?_, fun _ h => False.elim h, fun _ h => False.elim h⟩
    · have h' : d = .non := h'
      subst h'
      exact hQ _ Hs' H' S'.gr .non
    · have h' : d' = d := h'
      subst h'
      exact hQ v Hs' H' g dv'
    · have h' : d = .lst es := h'
      subst h'
      exact hQ _ _ H' (g.join q1 q2 q3) (.lst (sl upd_same) (dv'.mono (Ex.new q3)))

end DL
namespace DL
open PySem L2
/-- the promise of a def of data whose answer is known by Rel -/
def spR (K : PySem.W.Frag) (n : Nat) (Pre : List D → Prop) (Rel : List D → D → Prop) : Sp := fun vs H Q _ => ∃ Hs ds, Ex Hs H ∧ DVs K Hs vs ds ∧ ds.length = n ∧ Pre ds ∧ ∀ d, Rel ds d → Post K Hs H Q d
/-- the body comes back with such data -/
def RetR (R : D → Prop) : Out → Prop
  | .rt x => R x
  | .rl ds => R (.lst ds)
  | .nx _ => R .non
  | _ => False
theorem fn_sxR {P : Program} {w : World} {K : PySem.W.Frag} {mg : Str → Option Value} {base : Heap} {x qual : Str} {st : Stmt} {f : Addr} {fd : FuncData} {N ps : List Str} {k n : Nat} {Pre : List D → Prop} {Rel : List D → D → Prop} (F : Fun K x qual st f fd) (S : FnScope N ps (defScope st)) (hn : ps.length = n)
    (hb : ∀ cdv A outer s H E ds, Room k (A.deeper (PyProof.Rows.envOfC qual (defScope st) s.heap.objs.size f cdv)) → ds.length = n → Pre ds → SxB ((cxOf CX0 P w K mg base N qual (defScope st) f cdv A outer s H E).nox) (defBody st) (slots0 N ds) (RetR (Rel ds))) :
    FnOk P w K mg base CX0 (k + 1) f fd ps (spR K n Pre Rel) := by
  refine F.ok S (fun vs H Q E h => ?_) (fun cdv A outer s H vs Q E hr h => ?_)
  · obtain ⟨Hs, ds, e, dv, hl, _⟩ := h
    rw [dv.length, hl, hn]
  · obtain ⟨Hs, ds, e, dv, hl, hG, hQ⟩ := h
    exact hb cdv A outer s H E ds hr hl hG Hs H _ Hs H (start_stt e dv) _ ⟨fun ρ' h' σ' Hs' H' S' => hQ .non h' _ Hs' H' S'.gr .non, fun d' h' v Hs' H' g dv' => hQ d' h' v Hs' H' g dv', fun es h' a vs Hs' H' g q1 q2 q3 dv' => hQ _ h' _ _ H' (g.join q1 q2 q3) (.lst (sl upd_same) (dv'.mono (Ex.new q3))), fun _ h => False.elim h, fun _ h => False.elim h⟩
section
variable {X : Cx} {ρ : List Sl} {P : Out → Prop} {e : Expr} {es : List Expr} {n : Str} {p pos q : Pos} {ds : List D} {k m : Nat} {ps : List Str} {Pre : List D → Prop} {Rel : List D → D → Prop}
/-- x = f(..), f's answer known by Rel -/
theorem sx_setR (i : Nat) {x : Str} {px : Pos} (O : Ok1 X) (F : GFn X.prog X.w X.K X.mg X.base k n ps (spR X.K m Pre Rel)) (hr : Room k X.A) (ha : EvA X (e :: es) ρ ds) (hP : Pre ds) (kk : ∀ d, Rel ds d → P (.nx (ρ.set i (.d d)))) (hl : ds.length = m := by rfl)
    (hg : Gl X n := by rfl) (hdb : (n == ("__debug__" : Str)) = false := by decide) (he : starEach (e :: es) X.env = (false, eval e X.env) :: starEach es X.env := by rfl) (hpl : (backTo pos (starEach es X.env)).any (·.1) = false := by rfl)
    (hi : X.N[i]? = some x := by rfl) (hx : Loc X.env.scope x := by first | exact .inl rfl | exact .inr rfl)
    (hs : swapsWith (.Call (.Name n p) (e :: es) [] pos) (some (.Name x px)) q.line X.env = pure false := by rfl) (hf : X.fn x = true ∨ X.env.scope.names.lookup x = some .local := by first | exact .inl rfl | exact .inr rfl) :
    SxS X (.Assign [.Name x px] (.Call (.Name n p) (e :: es) [] pos) q) ρ P := fun Hs0 H0 σ Hs H S E Fi =>
  ⟨_, ps_set (i := i) O.nd hi hx (pe_g F hr pa_w hg hdb he hpl) hs hf, ha σ Hs H S.en S.gr.sh _ fun us Hs1 H1 g1 d1 => ⟨Hs1, ds, g1.sh, by rw [List.append_nil]; exact d1, hl, hP, fun d hd v Hs2 H2 g2 dv => Fi.nx _ (kk d hd) _ Hs2 H2 ((S.step (g1.trans g2)).set dv)⟩⟩
end
/-- where a def of the top stands -/
def DefAt (K : PySem.W.Frag) (mg : Str → Option Value) (x : Str) (st : Stmt) : Prop := ∃ (f : Addr) (fd : FuncData), Fun K x x st f fd ∧ mg x = some (.ref f)
theorem DefAt.gfn {P : Program} {w : World} {K : PySem.W.Frag} {mg : Str → Option Value} {base : Heap} {x : Str} {st : Stmt} {ps : List Str} {k : Nat} {sp : Sp} (T : DefAt K mg x st)
    (hb : ∀ (kV doc pm : Value) (an : Option Addr) (cdv ct : Value) (us : List Value), us.length = ps.length → bindArgs (PySem.W.fnOf x x (defArgs st) (defBody st) (defScope st) .none kV doc pm an cdv ct) ⟨us, []⟩ = pure (ps.zip us))
    (h : ∀ f fd, Fun K x x st f fd → FnOk P w K mg base CX0 k f fd ps sp) : GFn P w K mg base k x ps sp :=
  let ⟨f, fd, F, m⟩ := T
  ⟨f, fd, h f fd F, m, F.kp, F.binds hb⟩
/-- a def of data -/
theorem DefAt.sx {P : Program} {w : World} {K : PySem.W.Frag} {mg : Str → Option Value} {base : Heap} {x : Str} {st : Stmt} {N ps : List Str} {k n : Nat} {G : List D → D → Prop} (T : DefAt K mg x st)
    (hb : ∀ (kV doc pm : Value) (an : Option Addr) (cdv ct : Value) (us : List Value), us.length = ps.length → bindArgs (PySem.W.fnOf x x (defArgs st) (defBody st) (defScope st) .none kV doc pm an cdv ct) ⟨us, []⟩ = pure (ps.zip us))
    (S : FnScope N ps (defScope st)) (hn : ps.length = n)
    (h : ∀ f cdv A outer s H E ds d, Room k (A.deeper (PyProof.Rows.envOfC x (defScope st) s.heap.objs.size f cdv)) → ds.length = n → G ds d → Ok1 ((cxOf CX0 P w K mg base N x (defScope st) f cdv A outer s H E).nox) →
      SxB ((cxOf CX0 P w K mg base N x (defScope st) f cdv A outer s H E).nox) (defBody st) (slots0 N ds) (Ret d)) : GFn P w K mg base (k + 1) x ps (spD K n G) :=
  T.gfn hb fun f fd F => fn_sx F S hn fun cdv A outer s H E ds d hr hl hG => h f cdv A outer s H E ds d hr hl hG ⟨rfl, S.nd, PassesOwn.never⟩
/-- a def of data whose answer is known by Rel -/
theorem DefAt.sxR {P : Program} {w : World} {K : PySem.W.Frag} {mg : Str → Option Value} {base : Heap} {x : Str} {st : Stmt} {N ps : List Str} {k n : Nat} {Pre : List D → Prop} {Rel : List D → D → Prop} (T : DefAt K mg x st)
    (hb : ∀ (kV doc pm : Value) (an : Option Addr) (cdv ct : Value) (us : List Value), us.length = ps.length → bindArgs (PySem.W.fnOf x x (defArgs st) (defBody st) (defScope st) .none kV doc pm an cdv ct) ⟨us, []⟩ = pure (ps.zip us))
    (S : FnScope N ps (defScope st)) (hn : ps.length = n)
    (h : ∀ f cdv A outer s H E ds, Room k (A.deeper (PyProof.Rows.envOfC x (defScope st) s.heap.objs.size f cdv)) → ds.length = n → Pre ds → Ok1 ((cxOf CX0 P w K mg base N x (defScope st) f cdv A outer s H E).nox) →
      SxB ((cxOf CX0 P w K mg base N x (defScope st) f cdv A outer s H E).nox) (defBody st) (slots0 N ds) (RetR (Rel ds))) : GFn P w K mg base (k + 1) x ps (spR K n Pre Rel) :=
  T.gfn hb fun f fd F => fn_sxR F S hn fun cdv A outer s H E ds hr hl hG => h f cdv A outer s H E ds hr hl hG ⟨rfl, S.nd, PassesOwn.never⟩
end DL

set_option Elab.async false
set_option maxRecDepth 100000
set_option maxHeartbeats 400000
set_option linter.all false
/-! DDict: dicts as data -/
namespace DL
open PySem L2
/-! ### a value for a key, among data -/
section
variable {κ : Type} [DecidableEq κ]
def valG {β : Type} (kvs : List (κ × β)) (k : κ) : Option β := (kvs.find? fun kv => decide (kv.1 = k)).map (·.2)
def putG {β : Type} (kvs : List (κ × β)) (k : κ) (v : β) : List (κ × β) :=
  if (kvs.any fun kv => decide (kv.1 = k)) = true then kvs.map (fun kv => if kv.1 = k then (kv.1, v) else kv) else kvs ++ [(k, v)]
abbrev valD (kvs : List (κ × D)) (k : κ) : Option D := valG kvs k
abbrev putD (kvs : List (κ × D)) (k : κ) (v : D) : List (κ × D) := putG kvs k v
variable {K : PySem.W.Frag} {H : Hp}
theorem DFs.length {κ : Type} : ∀ {vs : List (κ × V)} {ds : List (κ × D)}, DFs K H vs ds → vs.length = ds.length
  | _, _, .nil => rfl
  | _, _, .cons _ hs => by rw [List.length_cons, List.length_cons, DFs.length hs]
theorem DFs.append {κ : Type} : ∀ {vs : List (κ × V)} {ds : List (κ × D)} {ws : List (κ × V)} {es : List (κ × D)}, DFs K H vs ds → DFs K H ws es → DFs K H (vs ++ ws) (ds ++ es)
  | _, _, _, _, .nil, h => h
  | _, _, _, _, .cons h hs, h2 => .cons h (DFs.append hs h2)
theorem DFs.any {κ : Type} [DecidableEq κ] (k : κ) : ∀ {vs : List (κ × V)} {ds : List (κ × D)}, DFs K H vs ds → (vs.any fun kv => decide (kv.1 = k)) = (ds.any fun kv => decide (kv.1 = k))
  | _, _, .nil => rfl
  | _, _, .cons _ hs => by rw [List.any_cons, List.any_cons, DFs.any k hs]
theorem DFs.map {κ : Type} [DecidableEq κ] {k : κ} {v : V} {d : D} (h : DV K H v d) : ∀ {vs : List (κ × V)} {ds : List (κ × D)}, DFs K H vs ds → DFs K H (vs.map fun kv => if kv.1 = k then (kv.1, v) else kv) (ds.map fun kv => if kv.1 = k then (kv.1, d) else kv)
  | _, _, .nil => .nil
  | _, _, .cons (n := n) h1 hs => by
    rw [List.map_cons, List.map_cons]
    by_cases e : n = k
    · simp only [e, if_true]
      exact .cons h (DFs.map h hs)
    · simp only [e, if_false]
      exact .cons h1 (DFs.map h hs)
theorem DFs.put {κ : Type} [DecidableEq κ] {k : κ} {v : V} {d : D} (h : DV K H v d) {vs : List (κ × V)} {ds : List (κ × D)} (hs : DFs K H vs ds) : DFs K H (putK vs k v) (putD ds k d) := by
  unfold putK putD putG
  rw [DFs.any k hs]
  split
  · exact DFs.map h hs
  · exact hs.append (.cons h .nil)
theorem DFs.val {κ : Type} [DecidableEq κ] {k : κ} : ∀ {vs : List (κ × V)} {ds : List (κ × D)}, DFs K H vs ds → (valV vs k = none ∧ valD ds k = none) ∨ ∃ v d, valV vs k = some v ∧ valD ds k = some d ∧ DV K H v d
  | _, _, .nil => .inl ⟨rfl, rfl⟩
  | _, _, .cons (n := n) (v := v) (d := d) h hs => by
    unfold valV valD valG
    rw [List.find?_cons, List.find?_cons]
    by_cases e : n = k
    · simp only [e, decide_true]
      exact .inr ⟨v, d, rfl, rfl, h⟩
    · simp only [e, decide_false]
      exact DFs.val hs
theorem DFs.keys {κ : Type} : ∀ {vs : List (κ × V)} {ds : List (κ × D)}, DFs K H vs ds → vs.map (·.1) = ds.map (·.1)
  | _, _, .nil => rfl
  | _, _, .cons _ hs => by rw [List.map_cons, List.map_cons, DFs.keys hs]
theorem putD_len {κ : Type} [DecidableEq κ] (kvs : List (κ × D)) (k : κ) (v : D) : (putD kvs k v).length ≤ kvs.length + 1 := by
  unfold putD putG
  split
  · rw [List.length_map]; omega
  · rw [List.length_append, List.length_singleton]; omega
/-- a key as data -/
def kD : Key → D
  | .inl i => .int i
  | .inr s => .str s
theorem dv_key {K : PySem.W.Frag} {H : Hp} (k : Key) : DV K H (kV k) (kD k) := by
  cases k with
  | inl i => exact .int i
  | inr s => exact .str s
theorem key_dv {K : PySem.W.Frag} {H : Hp} {v : V} {k : Key} (h : DV K H v (kD k)) : v = kV k := by
  cases k with
  | inl i => cases h; rfl
  | inr s => cases h; rfl
theorem keys_dv {K : PySem.W.Frag} {H : Hp} : ∀ {vs : List V} {ks : List Key}, DVs K H vs (ks.map kD) → vs = ks.map kV
  | _, [], .nil => rfl
  | _, _ :: _, .cons h hs => by rw [List.map_cons, key_dv h, keys_dv hs]
end
section
variable {X : Cx} {ρ : Rho} {a b : Expr} {d : D} {pos : Pos}
/-- d[k], an int or a text -/
theorem e_dget {kvs : List (Key × D)} {k : Key} (hu : X.A.units + 1 < cLine) (ha : EvD X a ρ (.dK kvs)) (hb : EvD X b ρ (kD k)) (hk : valD kvs k = some d) (hs : NoSl b := by exact fun _ _ => rfl) : EvD X (.Subscript a b pos) ρ d := fun σ Hs H E ex Q q =>
  ⟨_, pe_dget hu pe_w pe_w hs, ha σ Hs H E ex _ fun u Hs1 H1 g1 d1 => hb σ Hs1 H1 (E.step g1) g1.sh _ fun v Hs2 H2 g2 d2 => by
    cases d1 with
    | dK hr hf =>
      rcases hf.val (k := k) with ⟨h1, h2⟩ | ⟨w, d', h1, h2, dv⟩
      · rw [h2] at hk; cases hk
      · rw [h2] at hk; cases hk
        exact ⟨_, w, rfl, .inl ⟨_, k, g2.sh.rd (g2.ss.rd hr), key_dv d2, h1.symm⟩, q w Hs2 H2 (g1.trans g2) (dv.mono g2.ss)⟩⟩
/-- d[k], a tuple -/
theorem e_dgetT {kvs : List (List Key × D)} {k : List Key} (hu : X.A.units + 1 < cLine) (ha : EvD X a ρ (.dT kvs)) (hb : EvD X b ρ (.tup (k.map kD))) (hk : valD kvs k = some d) (hs : NoSl b := by exact fun _ _ => rfl) : EvD X (.Subscript a b pos) ρ d := fun σ Hs H E ex Q q =>
  ⟨_, pe_dget hu pe_w pe_w hs, ha σ Hs H E ex _ fun u Hs1 H1 g1 d1 => hb σ Hs1 H1 (E.step g1) g1.sh _ fun v Hs2 H2 g2 d2 => by
    cases d1 with
    | dT hr hf =>
      cases d2 with
      | tup ht hts =>
        rw [keys_dv hts] at ht
        rcases hf.val (k := k) with ⟨h1, h2⟩ | ⟨w, d', h1, h2, dv⟩
        · rw [h2] at hk; cases hk
        · rw [h2] at hk; cases hk
          exact ⟨_, w, rfl, .inr ⟨_, k, _, g2.sh.rd (g2.ss.rd hr), rfl, g2.sh _ _ ht, h1.symm⟩, q w Hs2 H2 (g1.trans g2) (dv.mono g2.ss)⟩⟩
end

/-! ### {k: v for x in list} -/
section
variable {X : Cx} {ρ : Rho} {kx vx elt iter c : Expr} {scope : Scope} {pos vp : Pos} {v : Str} {i : Nat} {α : Type} {xs : List α} {g f : α → D} {kf : α → Key}
theorem e_dcK (hc : X.calm = true) (hN : X.N.Nodup) (hv : X.N[i]? = some v) (ok : BlkOk X.N X.env.scope scope [(v, i)])
    (hi : EvL X iter ρ (xs.map g)) (hl : xs.length ≤ 1000000)
    (hk : ∀ x ∈ xs, InB X scope fun Y => EvD Y kx (ρ.set i (.d (g x))) (kD (kf x)))
    (he : ∀ x ∈ xs, InB X scope fun Y => EvD Y vx (ρ.set i (.d (g x))) (f x)) (hsc : InB X scope fun Y => Y.env.scope.names.lookup v = some .local := by exact fun _ _ _ _ _ => rfl) (hs : ∀ x, foldedSetIterable iter X.env x = pure x := by intro _; rfl) :
    EvD X (.DictComp kx vx [⟨.Name v vp, iter, [], 0⟩] scope pos) ρ (.dK (xs.foldl (fun acc x => putD acc (kf x) (f x)) [])) := fun σ Hs H E ex Q q => by
  refine ⟨_, pe_dc (own := [(v, i)]) hc hN (pi_list pe_w) ok (fun s H C cl fp => pg_name (i := i) hN hv (Or.inl (hsc s H C cl fp)) (Or.inr (hsc s H C cl fp))) (fun s H C cl fp => pts_nil) pe_b pe_b hs, ?_⟩
  refine hi σ Hs H E ex _ fun a vs Hs1 H1 g1 hl1 hs1 => ?_
  refine ⟨a, rfl, ⟨_, .inl hl1⟩, fun D hD => ?_⟩
  have hlen : vs.length = xs.length := by rw [hs1.length, List.length_map]
  have haD : a ≠ D := by
    intro z
    subst z
    rcases hl1 with h | ⟨o, h⟩
    · exact absurd h (by rw [hD]; exact fun z => nomatch z)
    · exact absurd h (by rw [hD]; exact fun z => nomatch z)
  refine ⟨fun m n H' => m + n = xs.length ∧ H' a = H1 a ∧ ∃ Hs2 ws, Gr Hs1 H1 Hs2 H' ∧ H' D = some (.dK ws) ∧ Hs2 D = none ∧ DFs X.K Hs2 ws ((xs.take m).foldl (fun acc x => putD acc (kf x) (f x)) []) ∧ ws.length ≤ m, ⟨xs.length, Nat.zero_add _, upd_ne haD, Hs1, [], ⟨Ex.refl _, g1.sh.trans (Ex.new hD), Ex.new hD, fun _ h _ => h⟩, upd_same, g1.sh.back hD, .nil, Nat.zero_le _⟩, ?_⟩
  rintro m n H' ⟨hmn, ea, Hs2, ws, g2, hD2, nD2, dw, hwl⟩
  have hla : Rd H' a (.lst vs) := by unfold Rd; rw [ea]; exact hl1
  by_cases hlt : m < xs.length
  · have hm : vs[m]? = some vs[m] := List.getElem?_eq_getElem (by omega)
    refine .inr ⟨⟨vs, vs[m], .inl hla, hm⟩, fun H2 => H2 a = H1 a ∧ ∃ Hs2 ws, Gr Hs1 H1 Hs2 H2 ∧ H2 D = some (.dK ws) ∧ Hs2 D = none ∧ DFs X.K Hs2 ws ((xs.take (m + 1)).foldl (fun acc x => putD acc (kf x) (f x)) []) ∧ ws.length ≤ m + 1, fun H2 h2 => ⟨n - 1, by omega, by omega, h2⟩, fun w H2 hy => ?_⟩
    obtain ⟨rfl, hy⟩ := hy
    obtain ⟨d, hd, dv⟩ := hs1.get (hy _ (.inl hla))
    obtain ⟨x, hx, rfl⟩ : ∃ x, xs[m]? = some x ∧ g x = d := by
      rw [List.getElem?_map] at hd
      cases e : xs[m]? with
      | none => rw [e] at hd; cases hd
      | some x => rw [e] at hd; exact ⟨x, rfl, Option.some.inj hd⟩
    have mx : x ∈ xs := List.mem_of_getElem? hx
    have E2 : En X.K Hs2 H2 ((wipe σ [i]).set i (some w)) (ρ.set i (.d (g x))) := by
      have e1 := ((E.step g1).step g2).set (i := i) (dv.mono g2.ss)
      have e2 : (wipe σ [i]).set i (some w) = σ.set i (some w) := by simp [wipe]
      rw [e2]
      exact e1
    show wipe ((wipe σ [i]).set i (some w)) [i] = wipe σ [i] ∧ bE X scope kx ((wipe σ [i]).set i (some w)) H2 _
    refine ⟨set_set_none, fun s0 H0 C cl fp => ?_⟩
    refine hk x mx s0 H0 C cl fp _ Hs2 H2 E2 g2.sh _ fun y Hs3 H3 g3 d3 => ?_
    intro s0 H0 C cl fp
    refine he x mx s0 H0 C cl fp _ Hs3 H3 (E2.step g3) g3.sh _ fun z Hs4 H4 g4 d4 => ?_
    have G := (g2.trans g3).trans g4
    have hD4 : H4 D = some (.dK ws) := g4.hh _ _ (g3.hh _ _ hD2)
    have nD4 : Hs4 D = none := (g3.trans g4).fr D nD2 (by rw [hD2]; exact fun z => nomatch z)
    refine ⟨ws, kf x, key_dv d3, hD4, Nat.lt_of_le_of_lt (Nat.le_trans (Nat.le_trans hwl (Nat.le_of_lt hlt)) hl) (by decide), ?_, Hs4, putK ws (kf x) z, ⟨G.ss, G.sh.mut nD4, G.hh.mut hD, G.fr⟩, upd_same, nD4, ?_, ?_⟩
    · rw [upd_ne haD]
      have : ∃ o, H1 a = some o := by
        rcases hl1 with h | ⟨o, h⟩
        · exact ⟨_, h⟩
        · exact ⟨_, h⟩
      obtain ⟨o, ho⟩ := this
      rw [ho]
      exact G.hh _ _ ho
    · rw [List.take_add_one, hx, List.foldl_append]
      exact DFs.put d4 (dw.mono (g3.trans g4).ss)
    · have e := (DFs.put (k := kf x) d4 (dw.mono (g3.trans g4).ss)).length
      have e2 := putD_len ((xs.take m).foldl (fun acc x => putD acc (kf x) (f x)) []) (kf x) (f x)
      have e3 := dw.length
      omega
  · refine .inl ⟨⟨vs, .inl hla, by omega⟩, ?_⟩
    have em : m = xs.length := by omega
    subst em
    rw [List.take_length] at dw
    refine q _ (upd Hs2 D (.dK ws)) H' (g1.trans ⟨g2.ss.trans (Ex.new nD2), fun b o hb => ?_, g2.hh, fun b h1 h2 => ?_⟩) (.dK (.inl upd_same) (dw.mono (Ex.new nD2)))
    · by_cases e : b = D
      · subst e; rw [upd_same] at hb; cases hb; exact hD2
      · rw [upd_ne e] at hb; exact g2.sh _ _ hb
    · rw [upd_ne]
      · exact g2.fr b h1 h2
      · intro z
        subst z
        exact h2 hD
end

/-! ### a dict is locked while it is walked -/
/-- a dict's content -/
inductive IsDic : HO → Prop
  | k (kvs) : IsDic (.dK kvs)
  | t (kvs) : IsDic (.dT kvs)
section
variable {K : PySem.W.Frag} {H : Hp} {p : Addr} {u : HO} {o : Obj}
theorem rd_lock {a : Addr} {x : HO} (hu : IsDic u) (hp : H p = some u) (h : Rd H a x) : Rd (upd H p (.frz o u)) a x := by
  unfold Rd
  by_cases e : a = p
  · subst e
    rw [upd_same]
    rcases h with h | ⟨o', h⟩
    · rw [hp] at h
      cases h
      exact .inr ⟨o, rfl⟩
    · rw [hp] at h
      cases h
      cases hu
  · rw [upd_ne e]
    exact h
mutual
theorem dv_lock (hu : IsDic u) (hp : H p = some u) : ∀ {v : V} {d : D}, DV K H v d → DV K (upd H p (.frz o u)) v d
  | _, _, .non => .non
  | _, _, .bl b => .bl b
  | _, _, .int i => .int i
  | _, _, .str s => .str s
  | _, _, .ty n => .ty n
  | _, _, .ob a => .ob a
  | _, _, .tup h hs => .tup (by rw [upd_ne (fun e => by subst e; rw [hp] at h; cases h; cases hu)]; exact h) (dvs_lock hu hp hs)
  | _, _, .lst h hs => .lst (rd_lock hu hp h) (dvs_lock hu hp hs)
  | _, _, .rdl h hs => .rdl (h.elim (fun h => .inl (rd_lock hu hp h)) .inr) (dvs_lock hu hp hs)
  | _, _, .ins h hs => .ins (by rw [upd_ne (fun e => by subst e; rw [hp] at h; cases h; cases hu)]; exact h) (dfs_lock hu hp hs)
  | _, _, .dK h hs => .dK (rd_lock hu hp h) (dfs_lock hu hp hs)
  | _, _, .dT h hs => .dT (rd_lock hu hp h) (dfs_lock hu hp hs)
theorem dvs_lock (hu : IsDic u) (hp : H p = some u) : ∀ {v : List V} {d : List D}, DVs K H v d → DVs K (upd H p (.frz o u)) v d
  | _, _, .nil => .nil
  | _, _, .cons h hs => .cons (dv_lock hu hp h) (dvs_lock hu hp hs)
theorem dfs_lock (hu : IsDic u) (hp : H p = some u) : ∀ {κ : Type} {v : List (κ × V)} {d : List (κ × D)}, DFs K H v d → DFs K (upd H p (.frz o u)) v d
  | _, _, _, .nil => .nil
  | _, _, _, .cons h hs => .cons (dv_lock hu hp h) (dfs_lock hu hp hs)
end
theorem rd_unlock {a : Addr} {x : HO} (hu : IsDic u) (hp : H p = some (.frz o u)) (h : Rd H a x) (hx : ∀ o', x ≠ .frz o' u) : Rd (upd H p u) a x := by
  unfold Rd
  by_cases e : a = p
  · subst e
    rw [upd_same]
    rcases h with h | ⟨o', h⟩
    · rw [hp] at h
      cases h
      exact absurd rfl (hx o)
    · rw [hp] at h
      cases h
      exact .inl rfl
  · rw [upd_ne e]
    exact h
mutual
theorem dv_unlock (hu : IsDic u) (hp : H p = some (.frz o u)) : ∀ {v : V} {d : D}, DV K H v d → DV K (upd H p u) v d
  | _, _, .non => .non
  | _, _, .bl b => .bl b
  | _, _, .int i => .int i
  | _, _, .str s => .str s
  | _, _, .ty n => .ty n
  | _, _, .ob a => .ob a
  | _, _, .tup h hs => .tup (by rw [upd_ne (fun e => by subst e; rw [hp] at h; cases h)]; exact h) (dvs_unlock hu hp hs)
  | _, _, .lst h hs => .lst (rd_unlock hu hp h fun _ z => nomatch z) (dvs_unlock hu hp hs)
  | _, _, .rdl h hs => .rdl (h.elim (fun h => .inl (rd_unlock hu hp h fun _ z => nomatch z)) .inr) (dvs_unlock hu hp hs)
  | _, _, .ins h hs => .ins (by rw [upd_ne (fun e => by subst e; rw [hp] at h; cases h)]; exact h) (dfs_unlock hu hp hs)
  | _, _, .dK h hs => .dK (rd_unlock hu hp h fun _ z => nomatch z) (dfs_unlock hu hp hs)
  | _, _, .dT h hs => .dT (rd_unlock hu hp h fun _ z => nomatch z) (dfs_unlock hu hp hs)
theorem dvs_unlock (hu : IsDic u) (hp : H p = some (.frz o u)) : ∀ {v : List V} {d : List D}, DVs K H v d → DVs K (upd H p u) v d
  | _, _, .nil => .nil
  | _, _, .cons h hs => .cons (dv_unlock hu hp h) (dvs_unlock hu hp hs)
theorem dfs_unlock (hu : IsDic u) (hp : H p = some (.frz o u)) : ∀ {κ : Type} {v : List (κ × V)} {d : List (κ × D)}, DFs K H v d → DFs K (upd H p u) v d
  | _, _, _, .nil => .nil
  | _, _, _, .cons h hs => .cons (dv_unlock hu hp h) (dfs_unlock hu hp hs)
end
theorem cell_lock (hu : IsDic u) (hp : H p = some u) {c : Cell} {x : HO} (h : CellV K H c x) : CellV K (upd H p (.frz o u)) c x := by
  cases c <;> cases x
  case lst.lst => exact dvs_lock hu hp h
  case ins.ins => exact ⟨h.1, dfs_lock hu hp h.2⟩
  case dK.dK => exact dfs_lock hu hp h
  case dT.dT => exact dfs_lock hu hp h
  all_goals exact h.elim
theorem IsDic.mut {u : HO} (h : IsDic u) : Mut (some u) := by cases h <;> exact True.intro
theorem en_lock {Hs : Hp} {σ : L2.St} {ρ : Rho} (hu : IsDic u) (hp : Hs p = some u) {H : Hp} (ex : Ex Hs H) (E : En K Hs H σ ρ) : En K (upd Hs p (.frz o u)) (upd H p (.frz o u)) σ ρ := by
  have hH := ex _ _ hp
  have key : ∀ (a : Addr) (x : HO), Rd H a x → Rd (upd H p (.frz o u)) a x := fun a x h => by
    by_cases e : a = p
    · subst e
      rcases h with h | ⟨q, h⟩
      · rw [hH] at h; cases h
        exact .inr ⟨o, upd_same⟩
      · rw [hH] at h; cases h; cases hu
    · unfold Rd
      rw [upd_ne e]
      exact h
  have key2 : ∀ (a : Addr) (x : HO), At H a x → At (upd H p (.frz o u)) a x := fun a x h => by
    by_cases e : a = p
    · subst e
      rcases h with h | ⟨⟨q, h⟩, _⟩
      · rw [hH] at h; cases h
        exact .inr ⟨⟨o, upd_same⟩, fun C dx vs z => by subst z; cases hu⟩
      · rw [hH] at h; cases h; cases hu
    · unfold At
      rw [upd_ne e]
      exact h
  exact ⟨E.len, fun i d h => let ⟨v, h1, h2⟩ := E.at_ i d h; ⟨v, h1, dv_lock hu hp h2⟩,
    fun i ds h => let ⟨a, vs, h1, h2, h3⟩ := E.ro_ i ds h; ⟨a, vs, h1, key a _ h2, dvs_lock hu hp h3⟩,
    fun i ds gs h => let ⟨a, h0, h⟩ := E.own i ds gs h; ⟨a, h0, fun x hx => let ⟨o', h2, h3⟩ := h x hx; ⟨o', key2 _ _ h2, cell_lock hu hp h3⟩⟩,
    fun i a gs h => let ⟨h0, h⟩ := E.obj i a gs h; ⟨h0, fun x hx => let ⟨o', h2, h3⟩ := h x hx; ⟨o', key2 _ _ h2, cell_lock hu hp h3⟩⟩⟩
/-- locked, grown, unlocked -/
theorem Gr.lock {Hs H Hs' H' : Hp} (hu : IsDic u) (e : Ex Hs H) (hp : Hs p = some u) (g : Gr (upd Hs p (.frz o u)) (upd H p (.frz o u)) Hs' H') : Gr Hs H (upd Hs' p u) (upd H' p u) ∧ Hs' p = some (.frz o u) ∧ H' p = some (.frz o u) := by
  refine ⟨⟨fun b x hb => ?_, g.sh.both, fun b x hb => ?_, fun b h1 h2 => ?_⟩, g.ss _ _ upd_same, g.hh _ _ upd_same⟩
  · by_cases q : b = p
    · subst q; rw [hp] at hb; cases hb; exact upd_same
    · rw [upd_ne q]; exact g.ss b x (by rw [upd_ne q]; exact hb)
  · by_cases q : b = p
    · subst q; rw [e _ _ hp] at hb; cases hb; exact upd_same
    · rw [upd_ne q]; exact g.hh b x (by rw [upd_ne q]; exact hb)
  · by_cases q : b = p
    · subst q; rw [hp] at h1; cases h1
    · rw [upd_ne q]; exact g.fr b (by rw [upd_ne q]; exact h1) (by rw [upd_ne q]; exact h2)
end

/-! ### [elt for v in d], d a name -/
section
variable {X : Cx} {ρ : Rho} {elt c : Expr} {scope : Scope} {pos vp np : Pos} {v nn : Str} {i i0 : Nat} {kvs : List (Key × D)} {F : Key → D}
theorem lc_dk (hc : X.calm = true) (hN : X.N.Nodup) (hv : X.N[i]? = some v) (ok : BlkOk X.N X.env.scope scope [(v, i)])
    (hn : X.N[i0]? = some nn) (hnv : Vis X.env.scope nn) (h1 : (nn == ("__debug__" : Str)) = false) (h2 : (nn == ("__classdict__" : Str)) = false)
    (he : ∀ k ∈ kvs.map (·.1), InB X scope fun Y => EvD Y elt (ρ.set i (.d (kD k))) (F k)) (hsc : InB X scope fun Y => Y.env.scope.names.lookup v = some .local) (hs : ∀ x, foldedSetIterable (.Name nn np) X.env x = pure x)
    {σ : L2.St} {Hs H : Hp} (E : En X.K Hs H σ ρ) (ex : Ex Hs H) {a : Addr} {vs : List (Key × V)} {o : Obj} (ha : σ[i0]? = some (some (.ref a))) (hf : Hs a = some (.frz o (.dK vs))) (hk : vs.map (·.1) = kvs.map (·.1)) (hl : vs.length ≤ 1000000) {Q : VK}
    (q : Post X.K Hs H Q (.lst ((kvs.map (·.1)).map F))) : ∃ t, PE X (.ListComp elt [⟨.Name v vp, .Name nn np, [], 0⟩] scope pos) t ∧ t σ H Q := by
  refine ⟨_, pe_lc (own := [(v, i)]) hc hN (pi_keys (pe_var hn hnv h1 h2)) ok (fun s H C cl fp => pg_name (i := i) hN hv (Or.inl (hsc s H C cl fp)) (Or.inr (hsc s H C cl fp))) (fun s H C cl fp => pts_nil) pe_b hs, ?_⟩
  refine ⟨_, ha, a, o, rfl, .inl ⟨vs, ex _ _ hf, fun D hD => ?_⟩⟩
  have haD : a ≠ D := fun z => by subst z; rw [ex _ _ hf] at hD; cases hD
  have hlen : vs.length = (kvs.map (·.1)).length := by rw [← hk, List.length_map]
  refine ⟨fun m n H' => m + n = vs.length ∧ LcAt X.K Hs H D (((kvs.map (·.1)).take m).map F) H', ⟨vs.length, Nat.zero_add _, Hs, [], ⟨Ex.refl _, ex.trans (Ex.new hD), Ex.new hD, fun _ h _ => h⟩, upd_same, ex.back hD, .nil⟩, ?_⟩
  rintro m n H' ⟨hmn, Hs2, ws, g2, hD2, nD2, dw⟩
  have hfa : H' a = some (.frz o (.dK vs)) := g2.sh _ _ (g2.ss _ _ hf)
  by_cases hlt : m < vs.length
  · refine .inr ⟨⟨hfa, hlt⟩, fun H2 => LcAt X.K Hs H D (((kvs.map (·.1)).take (m + 1)).map F) H2, fun H2 h2 => ⟨n - 1, by omega, by omega, h2⟩, fun w H2 hy => ?_⟩
    obtain ⟨rfl, k, y, hky, rfl⟩ := hy
    have hkm : (kvs.map (·.1))[m]? = some k := by rw [← hk, List.getElem?_map, hky]; rfl
    have E2 : En X.K Hs2 H2 ((wipe σ [i]).set i (some (kV k))) (ρ.set i (.d (kD k))) := by
      have e1 := (E.step g2).set (i := i) (dv_key (K := X.K) (H := Hs2) k)
      have e2 : (wipe σ [i]).set i (some (kV k)) = σ.set i (some (kV k)) := by simp [wipe]
      rw [e2]
      exact e1
    show wipe ((wipe σ [i]).set i (some (kV k))) [i] = wipe σ [i] ∧ bE X scope elt ((wipe σ [i]).set i (some (kV k))) H2 _
    refine ⟨set_set_none, fun s0 H0 C cl fp => ?_⟩
    refine he k (List.mem_of_getElem? hkm) s0 H0 C cl fp _ Hs2 H2 E2 g2.sh _ fun z Hs4 H4 g4 d4 => ?_
    have G := g2.trans g4
    have nD4 : Hs4 D = none := g4.fr D nD2 (by rw [hD2]; exact fun z => nomatch z)
    have hwl : ws.length ≤ m := by rw [dw.length, List.length_map, List.length_take]; omega
    refine ⟨ws, g4.hh _ _ hD2, Nat.lt_of_le_of_lt (by omega : ws.length ≤ 1000000) (by decide), Hs4, ws ++ [z], ⟨G.ss, G.sh.mut nD4, G.hh.mut hD, G.fr⟩, upd_same, nD4, ?_⟩
    rw [List.take_add_one, hkm, List.map_append]
    exact (dw.mono g4.ss).append (.cons d4 .nil)
  · refine .inl ⟨⟨hfa, by omega⟩, ?_⟩
    have em : m = vs.length := by omega
    rw [em, hlen, List.take_length] at dw
    refine q _ (upd Hs2 D (.lst ws)) H' ⟨g2.ss.trans (Ex.new nD2), fun b o hb => ?_, g2.hh, fun b h1 h2 => ?_⟩ (.lst (sl upd_same) (dw.mono (Ex.new nD2)))
    · by_cases e : b = D
      · subst e; rw [upd_same] at hb; cases hb; exact hD2
      · rw [upd_ne e] at hb; exact g2.sh _ _ hb
    · rw [upd_ne]
      · exact g2.fr b h1 h2
      · intro z
        subst z
        exact h2 hD
theorem e_lcDK (i0 : Nat) (hc : X.calm = true) (hN : X.N.Nodup) (hv : X.N[i]? = some v) (ok : BlkOk X.N X.env.scope scope [(v, i)]) (hd : ρ[i0]? = some (.d (.dK kvs))) (hl : kvs.length ≤ 1000000)
    (he : ∀ k ∈ kvs.map (·.1), InB X scope fun Y => EvD Y elt (ρ.set i (.d (kD k))) (F k)) (hsc : InB X scope fun Y => Y.env.scope.names.lookup v = some .local := by exact fun _ _ _ _ _ => rfl)
    (hn : X.N[i0]? = some nn := by rfl) (hnv : Vis X.env.scope nn := by first | exact .inl rfl | exact .inr (.inl rfl) | exact .inr (.inr rfl)) (h1 : (nn == ("__debug__" : Str)) = false := by decide) (h2 : (nn == ("__classdict__" : Str)) = false := by decide)
    (hs : ∀ x, foldedSetIterable (.Name nn np) X.env x = pure x := by intro _; rfl) :
    EvD X (.ListComp elt [⟨.Name v vp, .Name nn np, [], 0⟩] scope pos) ρ (.lst ((kvs.map (·.1)).map F)) := fun σ Hs H E ex Q q => by
  obtain ⟨w, hw, dw⟩ := E.at_ i0 _ hd
  cases dw with
  | @dK a vs _ hr hf =>
    have hk := hf.keys
    have hl' : vs.length ≤ 1000000 := by rw [hf.length]; exact hl
    rcases hr with hr | ⟨o, hr⟩
    · have hu : IsDic (.dK vs) := .k vs
      have key : ∀ od, wE X (.ListComp elt [⟨.Name v vp, .Name nn np, [], 0⟩] scope pos) σ (upd H a (.frz od (.dK vs))) fun v H' => H' a = some (.frz od (.dK vs)) ∧ Q v (upd H' a (.dK vs)) := fun od =>
        lc_dk hc hN hv ok hn hnv h1 h2 he hsc hs (en_lock hu hr ex E) ex.both hw upd_same hk hl' fun z Hs' H' g dv => by
          obtain ⟨g1, g2, g3⟩ := Gr.lock hu ex hr g
          exact ⟨g3, q z _ _ g1 (dv_unlock hu g2 dv)⟩
      exact ⟨_, pe_lock pe_w, a, .dK vs, ex _ _ hr, hu.mut, key⟩
    · exact lc_dk hc hN hv ok hn hnv h1 h2 he hsc hs E ex hw hr hk hl' q
end
end DL

set_option Elab.async false
set_option maxRecDepth 100000
set_option maxHeartbeats 400000
set_option linter.all false
/-! Own: what the text's own classes say of in, |, &, list(..) -/
namespace DL
open PySem L2
section
variable {X : Cx} {C f : Addr} {fd : FuncData} {ps : List Str} {sp : Sp} {CX : CXT} {E : XK} {k : Nat}
/-- x in o, o an instance of the class at C with its own __contains__ -/
def rInO (neg : Bool) (C : Addr) (sp : Sp) (E : XK) : R2 := fun x y H Q => ∃ a dx fs, y = .ref a ∧ H a = some (.ins C dx fs) ∧ sp [.ref a, x] H (fun z H' => ∃ k, z = .bl k ∧ Q (.bl (if neg then !k else k)) H') E
theorem op_inO (F : FnOk X.prog X.w X.K X.mg X.base CX k f fd ps sp) (hr : Room k X.A) (hb : Binds X.K fd ps []) (hx : Passes CX X E) (hs : PySem.W.findIn X.K (.ref C) "__contains__" = some (some (.ref f))) (hf : PySem.W.isFn X.K (.ref f) = true) : OpR X (compareOp .In) (rInO false C sp E) := by
  intro pins s σ H x y v u Q I rx ry h
  obtain ⟨a, dx, fs, rfl, ha, h⟩ := h
  cases ry
  obtain ⟨mA, J, _⟩ := ins_get I.hok ha
  obtain ⟨od, J, _⟩ := J.look
  obtain ⟨m, hF⟩ := I.fr
  refine PySem.W.in_K hF I.ok.mod.kin J hs hf ?_
  refine thn (run_fn (us := [.ref a, v]) (vs := [.ref a, x]) (ds := []) F hr hb .nil hx I (.cons rfl (.cons rx .nil)) h) fun r s' hq => ?_
  obtain ⟨z, H', I', rz, b, rfl, q⟩ := hq
  cases rz
  exact wpAny_truthy_bool ⟨.bl b, H', I', rfl, q⟩
theorem op_notinO (F : FnOk X.prog X.w X.K X.mg X.base CX k f fd ps sp) (hr : Room k X.A) (hb : Binds X.K fd ps []) (hx : Passes CX X E) (hs : PySem.W.findIn X.K (.ref C) "__contains__" = some (some (.ref f))) (hf : PySem.W.isFn X.K (.ref f) = true) : OpR X (compareOp .NotIn) (rInO true C sp E) := by
  intro pins s σ H x y v u Q I rx ry h
  obtain ⟨a, dx, fs, rfl, ha, h⟩ := h
  cases ry
  obtain ⟨mA, J, _⟩ := ins_get I.hok ha
  obtain ⟨od, J, _⟩ := J.look
  obtain ⟨m, hF⟩ := I.fr
  refine PySem.W.notIn_K hF I.ok.mod.kin J hs hf ?_
  refine thn (run_fn (us := [.ref a, v]) (vs := [.ref a, x]) (ds := []) F hr hb .nil hx I (.cons rfl (.cons rx .nil)) h) fun r s' hq => ?_
  obtain ⟨z, H', I', rz, b, rfl, q⟩ := hq
  cases rz
  exact wpAny_truthy_bool ⟨.bl (!b), H', I', rfl, q⟩
/-- a op b, both instances of the class at C with its own operator -/
def rBinO (C : Addr) (sp : Sp) (E : XK) : R2 := fun x y H Q => ∃ a dx fs b dy gs, x = .ref a ∧ y = .ref b ∧ H a = some (.ins C dx fs) ∧ H b = some (.ins C dy gs) ∧ sp [.ref a, .ref b] H Q E
theorem op_binO {op : Operator} (F : FnOk X.prog X.w X.K X.mg X.base CX k f fd ps sp) (hr : Room k X.A) (hb : Binds X.K fd ps []) (hx : Passes CX X E) (hc : PySem.W.selfFirst X.K C = true) (hs : PySem.W.findIn X.K (.ref C) (PySem.dunder op.info.2) = some (some (.ref f))) (hf : PySem.W.isFn X.K (.ref f) = true) : OpR X (binaryOp op) (rBinO C sp E) := by
  intro pins s σ H x y v u Q I rx ry h
  obtain ⟨a, dx, fs, b, dy, gs, rfl, rfl, ha, hb', h⟩ := h
  cases rx
  cases ry
  obtain ⟨mA, J, _⟩ := ins_get I.hok ha
  obtain ⟨mB, J', _⟩ := ins_get I.hok hb'
  obtain ⟨od, J, _⟩ := J.look
  obtain ⟨od', J', _⟩ := J'.look
  obtain ⟨m, hF⟩ := I.fr
  refine PySem.W.binop_K hF I.ok.mod.kin J J'.type hc hs hf ?_
  refine thn (run_fn (us := [.ref a, .ref b]) (vs := [.ref a, .ref b]) (ds := []) F hr hb .nil hx I (.cons rfl (.cons rfl .nil)) h) fun r s' hq => ?_
  obtain ⟨z, H', I', rz, q⟩ := hq
  have q' : EP X pins σ Q r s' := ⟨z, H', I', rz, q⟩
  cases z with
  | non => cases rz; exact q'
  | bl _ => cases rz; exact q'
  | int _ => obtain ⟨t, rfl⟩ := rz; exact q'
  | str _ => obtain ⟨t, rfl⟩ := rz; exact q'
  | byt _ => obtain ⟨t, rfl⟩ := rz; exact q'
  | flt _ => obtain ⟨t, rfl⟩ := rz; exact q'
  | ref _ => cases rz; exact q'
  | ty _ => cases rz; exact q'
end

/-! ### iter(xs), and list(o) of an object whose __iter__ hands back such an iterator -/
/-- at it an iterator over the list at l, the next place is i -/
def ItL (l it : Addr) (i : Nat) : HO := .ext fun h => h.IsListIter it l i
theorem itL_ok {P : Program} {w : World} {H : Hp} {h : Heap} {l it : Addr} {i : Nat} (e : h.IsListIter it l i) : ObjOk P w H h it (ItL l it i) := ⟨e, let ⟨o, h, _⟩ := e; ⟨o, h⟩, fun h1 h2 q k => q.at fun o e => k o e⟩
def rIterL : List V → Hp → VK → Prop := fun xs H Q => ∃ (l : Addr) (zs : List V), xs = [.ref l] ∧ Rd H l (.lst zs) ∧ ∀ it, H it = none → Q (.ref it) (upd H it (ItL l it 0))
theorem call_iterR {X : Cx} : CallR X (.builtin "iter") rIterL := by
  intro pins s σ H xs us Q I r h
  obtain ⟨l, zs, rfl, hq, q⟩ := h
  obtain ⟨u, rfl, ru⟩ := vals1 r
  cases ru
  obtain ⟨its, rv, pl, hz⟩ := I.list (.inl hq)
  refine GNX.call_iter pl.isList ?_
  exact ⟨.ref s.heap.objs.size, _, I.laid (t' := s.toks) (fun b u e => Heap.get?_push_of_some _ e) (Nat.le_refl _) (itL_ok ⟨_, Heap.get?_push_size _ rfl, rfl, rfl⟩), rfl, q _ (I.hok.fresh (Nat.le_refl _))⟩
/-- what such an __iter__ promises: an iterator over the list at l -/
def spIt (C : Addr) (fld : Str) : Sp := fun vs H Q _ => ∃ a dx fs l zs, vs = [.ref a] ∧ H a = some (.ins C dx fs) ∧ fs.lookup fld = some (V.ref l) ∧ Rd H l (.lst zs) ∧ ∀ it, H it = none → Q (.ref it) (upd H it (ItL l it 0))
/-- a class whose instances are iterated by an own __iter__, without __len__ and __length_hint__ -/
structure ItrC (K : PySem.W.Frag) (C fi : Addr) : Prop where
  it : PySem.W.findIn K (.ref C) "__iter__" = some (some (.ref fi))
  itF : PySem.W.isFn K (.ref fi) = true
  nolen : PySem.W.findIn K (.ref C) "__len__" = some none
  nohint : PySem.W.findIn K (.ref C) "__length_hint__" = some none
/-- nothing is said of the length -/
theorem itr_hint {M : Model} {A : Around} {E : Value → Shared → Prop} {Q : Bool → Shared → Prop} {K : PySem.W.Frag} {s : Shared} {x C fi : Addr} {ox : Obj} {od : Option Obj} (hc : ItrC K C fi) (hK : K.In s.heap) (J : PySem.W.InstAt s.heap x ox C od) (h : Q true s) :
    wpAny M A (Builtin.List.listLengthHint (.ref x)) Q E s := by
  unfold Builtin.List.listLengthHint
  refine wpAny_bind (wpAny_bind (J.type.here ((PySem.W.looks_findIn hK hc.nolen).here ?_)))
  refine PySem.W.KFB.if_not rfl ?_
  refine PySem.W.KFB.if_not rfl ?_
  refine wpAny_bind (wpAny_bind (J.type.here ((PySem.W.looks_findIn hK hc.nohint).here ?_)))
  exact wpAny_pure h
section
variable {X : Cx} {pins : List (Addr × Obj)} {σ : L2.St} {H : Hp} {s : Shared} {C fi : Addr} {fdI : FuncData} {psI : List Str} {EI : XK} {CI : CXT} {n : Nat} {fld : Str}
theorem pyNext_end {prog : Program} {w : World} {A : Around} {E : Value → Shared → Prop} {s : Shared} {it l : Addr} {i : Nat} {items : Array Value} {Q : Option Value → Shared → Prop} (hh : A.handled = none)
    (hit : s.heap.IsListIter it l i) (hl : s.heap.IsList l items) (hx : items[i]? = none)
    (hQ : ∀ h', Heap.ExtBut it s.heap h' → (∃ o, h'.get? it = some o) → Q none { s with heap := h' }) : wpAny (model prog w) A (pyNext (.ref it)) Q E s := by
  obtain ⟨o, ho, hc, hd⟩ := id hit
  obtain ⟨ol, hol, _, nl, hdl⟩ := hl
  unfold pyNext
  refine wpAny_bind (wpAny_attempt (wpAny_callSpecial?_slot (name := Str.ofString "__next__") hit.typeIs slot_listiter_next
    (wpAny_call_entry slot_listiter_next hit.typeIs entry_listiter_next ?_ (args_listiter_next _))))
  show wpAny _ _ (field (.ref it) 0 >>= _) _ _ s
  refine wpAny_bind (wpAny_field ho hd (x := .ref l) rfl ?_)
  show wpAny _ _ (if (Value.ref l == Value.none) = true then _ else _) _ _ s
  rw [if_neg (show ¬ ((Value.ref l == Value.none) = true) from Bool.false_ne_true)]
  show wpAny _ _ (field (.ref it) 1 >>= _) _ _ s
  refine wpAny_bind (wpAny_field ho hd (x := .int i 0) rfl ?_)
  show wpAny _ _ (seqItems? (.ref l) >>= _) _ _ s
  refine wpAny_bind (wpAny_seqItems hol hdl ?_)
  simp only [Int.toNat_natCast, hx]
  refine wpAny_bind (wpAny_rule (wpAny_bind (wpAny_setField ho hd (by simp) ?_)))
  show wpAny _ _ (newExc (.type "StopIteration") [] >>= _) _ _ _
  refine wpAny_bind ?_
  simp only [newExc, newTuple]
  refine wpAny_bind (wpAny_newObj_type ?_ (by size_fits))
  refine wpAny_bind (m := firstArgMember _ _) (wpAny_of_eq (a := Value.none) (by first | rfl | (simp only [firstArgMember]; rfl)) ?_)
  refine wpAny_newObj_type ?_ (by size_fits)
  simp only [raiseNew]
  refine wpAny_bind (wpAny_handled ?_)
  rw [show A.in1.handled = none from hh]
  refine wpAny_bind (wpAny_pure (wpAny_throw ?_))
  refine wpAny_bind (wpAny_isInstance (T := "StopIteration") (b := true) ⟨_, Heap.get?_push_size _ rfl, rfl⟩ isSubtype_stop ?_)
  exact wpAny_pure (hQ _ (((Heap.SameBut.update ..).extBut.push _).push _) ⟨_, Heap.get?_push_of_some _ (Heap.get?_push_of_some _ (Heap.get?_update_self _ ho (Obj.isFreed_of_fields (Obj.data_mapFields hd _))))⟩)
/-- some object -/
def ItG (it : Addr) : HO := .ext fun h => ∃ o, h.get? it = some o
theorem itG_ok {P : Program} {w : World} {H : Hp} {h : Heap} {it : Addr} (e : ∃ o, h.get? it = some o) : ObjOk P w H h it (ItG it) := ⟨e, e, fun h1 h2 q k => let ⟨o, ho⟩ := q; ⟨o, k o ho⟩⟩
theorem upd_comm {H : Hp} {a b : Addr} {o u : HO} (h : a ≠ b) : upd (upd H a o) b u = upd (upd H b u) a o := by
  funext c
  unfold upd
  by_cases h1 : c = a
  · rw [if_pos h1, if_neg (fun z => h (h1.symm.trans z)), if_pos h1]
  · rw [if_neg h1]
    by_cases h2 : c = b
    · rw [if_pos h2, if_neg h1]
    · rw [if_neg h2, if_neg h1]
theorem itl_loop {A1 : Around} {Rs : Result → Shared → Prop} {q it l : Addr} {zs : List V} (hh : A1.in1.handled = none) (hz : zs.length ≤ sizeLine) (hdone : ∀ s', Inv X pins σ (upd (upd H it (ItG it)) q (.lst zs)) s' → Rs (.ok (.ret .none)) s') (hlq : l ≠ q) (hli : l ≠ it) (hl : Rd H l (.lst zs)) (hiq : it ≠ q) :
    ∀ (m i : Nat) (s : Shared), zs.length - i = m → i ≤ zs.length → Inv X pins σ (upd (upd H it (ItL l it i)) q (.lst (zs.take i))) s →
      codeAny (model X.prog X.w) A1 (.builtin "list.extend.loop" ⟨[.ref q, .ref it, .none], []⟩) Rs s := by
  intro m
  induction m with
  | zero =>
    intro i s hm hi I
    have hie : i = zs.length := by omega
    subst hie
    rw [List.take_length] at I
    refine codeAny_builtin PySem.F.entry_extend_loop ?_
    rw [Around.under_plainId PySem.F.plain_extend_loop _]
    show wpAny _ A1.in1 (pyNext (.ref it) >>= _) _ _ s
    have hl' : Rd (upd (upd H it (ItL l it zs.length)) q (.lst zs)) l (.lst zs) := by unfold Rd; rw [upd_ne hlq, upd_ne hli]; exact hl
    have hI : upd (upd H it (ItL l it zs.length)) q (.lst zs) it = some (ItL l it zs.length) := by rw [upd_ne hiq, upd_same]
    have hit : s.heap.IsListIter it l zs.length := (I.hok it _ hI).1
    obtain ⟨its, rv, pl, _⟩ := I.list (.inl hl')
    refine wpAny_bind (pyNext_end hh hit pl.isList (by have := rv.length; simp; omega) fun h' eb ex => ?_)
    have I' := I.write (x := it) (e := it) (o := ItG it) (t' := s.toks) (by rw [hI]; exact True.intro) (.inl rfl) (fun b o hb e => eb b o hb e) ex (itG_ok ex)
    rw [upd_comm hiq, upd_upd, ← upd_comm hiq] at I'
    exact wpAny_pure (hdone _ I')
  | succ m ih =>
    intro i s hm hi I
    have hlt : i < zs.length := by omega
    refine codeAny_builtin PySem.F.entry_extend_loop ?_
    rw [Around.under_plainId PySem.F.plain_extend_loop _]
    show wpAny _ A1.in1 (pyNext (.ref it) >>= _) _ _ s
    have hl' : Rd (upd (upd H it (ItL l it i)) q (.lst (zs.take i))) l (.lst zs) := by unfold Rd; rw [upd_ne hlq, upd_ne hli]; exact hl
    have hI : upd (upd H it (ItL l it i)) q (.lst (zs.take i)) it = some (ItL l it i) := by rw [upd_ne hiq, upd_same]
    have hit : s.heap.IsListIter it l i := (I.hok it _ hI).1
    obtain ⟨its, rv, pl, _⟩ := I.list (.inl hl')
    obtain ⟨u, hu, ru⟩ := rv.get (List.getElem?_eq_getElem hlt)
    refine wpAny_bind (wpAny_pyNext_list_item hit pl.isList (x := u) (by simpa using hu) fun h' st' sb => ?_)
    have I1 := I.write (x := it) (e := it) (o := ItL l it (i + 1)) (h' := h') (t' := s.toks) (by rw [hI]; exact True.intro) (.inl rfl) (fun b o hb e => (sb.2 b hb).trans e) (let ⟨o, h, _⟩ := st'; ⟨o, h⟩) (itL_ok st')
    rw [upd_comm hiq, upd_upd, ← upd_comm hiq] at I1
    show wpAny _ A1.in1 (updateSeq q (·.push u) >>= _) _ _ _
    obtain ⟨z, its2, k, r2, hl2, e⟩ := I1.lstM upd_same
    have hlen : (zs.take i).length = i := by rw [List.length_take]; omega
    refine wpAny_bind (wpAny_updateSeq e rfl (wpAny_pure ⟨plainId_quiet PySem.F.plain_extend_loop _, ?_⟩) (by rw [List.size_toArray]; omega) (by show (its2.toArray.push u).size ≤ sizeLine + 1; rw [Array.size_push, List.size_toArray]; omega))
    have I2 := I1.lset (f := (·.push u)) (its' := its2 ++ [u]) (ys := zs.take i ++ [zs[i]]) (t' := s.toks) upd_same e (by simp) (r2.append (.cons ru .nil)) (by rw [List.length_append, List.length_singleton]; omega)
    rw [upd_upd] at I2
    have et : zs.take i ++ [zs[i]] = zs.take (i + 1) := by rw [List.take_add_one, List.getElem?_eq_getElem hlt]; rfl
    rw [et] at I2
    exact ih (i + 1) _ (by omega) hlt I2
theorem itl_extend {A1 : Around} {Rs : Result → Shared → Prop} {a dx q l : Addr} {fs : List (Str × V)} {zs : List V} (sb : Sub X n A1.in1) (hcalm : A1.in1.handled = none) (hc : ItrC X.K C fi) (FI : FnOk X.prog X.w X.K X.mg X.base CI n fi fdI psI (spIt C fld)) (bI : Binds X.K fdI psI []) (xI : Passes CI X EI)
    (hdone : ∀ it s', H it = none → Inv X pins σ (upd (upd H it (ItG it)) q (.lst zs)) s' → Rs (.ok (.ret .none)) s') (herr : ∀ e s, X.xe e s → Rs (.error e) s) (I : Inv X pins σ H s) (ha : H a = some (.ins C dx fs)) (hf : fs.lookup fld = some (.ref l)) (hl : Rd H l (.lst zs)) (hq : H q = some (.lst [])) (hlq : l ≠ q) :
    wpAny (model X.prog X.w) A1.in1 (Builtin.List.listExtendWith (.ref q) (.ref a) .none)
      (fun fin s' => match fin with | .done f => Rs (.ok f) s' | .again c' => c'.quiet = true ∧ codeAny (model X.prog X.w) A1 c' Rs s') (fun e s' => Rs (.error e) s') s := by
  have hne : q ≠ a := ne_of hq ha (fun z => nomatch z)
  obtain ⟨mA, J, _⟩ := ins_get I.hok ha
  obtain ⟨od, J, _⟩ := J.look
  obtain ⟨m0, hF⟩ := I.fr
  unfold Builtin.List.listExtendWith
  refine wpAny_bind (J.type.here ?_)
  have h1 : Builtin.List.listSameRef (.ref q) (.ref a) = false := by simp [Builtin.List.listSameRef, hne]
  have h2 : (Value.ref C == Value.type "list") = false := rfl
  have h3 : (Value.ref C == Value.type "tuple") = false := rfl
  simp only [h1, h2, h3, Bool.or_false, Bool.false_eq_true, if_false]
  refine wpAny_bind (PySem.W.owit_iter hF I.ok.mod.kin J hc.it hc.itF ?_)
  have e0 : Env0 X.prog X.w X.K X.mg X.base A1.in1 X.stack s H := by
    have e := I.env0
    exact ⟨by rw [sb.fr]; exact e.frames, e.mod, e.bs, e.bsz, e.funs, e.frf, e.hok, e.bare⟩
  have hspI : spIt C fld [.ref a] H (fun v H' => ∃ it, v = .ref it ∧ H it = none ∧ H' = upd H it (ItL l it 0)) EI := ⟨a, dx, fs, l, zs, rfl, ha, hf, hl, fun it hit => ⟨it, rfl, hit, rfl⟩⟩
  have hlen := FI.len _ _ _ _ hspI
  have r2 : Vals [V.ref a] [Value.ref a] := .cons rfl .nil
  refine wpAny_call (codeAny_mono (FI.run A1.in1 X.stack s H ⟨[.ref a], []⟩ [.ref a] [.ref a] _ EI sb.room e0 (by
    have := bI s [.ref a] I.kIn (by simpa using hlen)
    simpa using this) r2 hspI) fun r s' hq' => ?_)
  cases r with
  | error e => exact herr e s' (xI pins σ H s e s' I hq')
  | ok fl =>
    cases fl with
    | next => exact False.elim hq'
    | brk => exact False.elim hq'
    | cont => exact False.elim hq'
    | ret u =>
      obtain ⟨v, H', I', rv', it, ev, hit, eH⟩ := I.after hq'
      subst ev eH
      cases rv'
      have hiq : it ≠ q := fun z => by rw [z, hq] at hit; cases hit
      have hitr : s'.heap.IsListIter it l 0 := (I'.hok it _ upd_same).1
      unfold PySem.W.OwitIt
      refine wpAny_specialOf (name := Str.ofString "__next__") hitr.typeIs slot_listiter_next.lookup ?_
      have ha3 : upd H it (ItL l it 0) a = some (.ins C dx fs) := by rw [upd_ne (ne_of_none ha hit)]; exact ha
      obtain ⟨mA', J', _⟩ := ins_get I'.hok ha3
      obtain ⟨od', J', _⟩ := J'.look
      refine wpAny_bind (wpAny_holding (itr_hint hc I'.kIn J' ?_))
      have hqI : upd H it (ItL l it 0) q = some (.lst []) := by rw [upd_ne hiq.symm]; exact hq
      obtain ⟨z, its, k, r3, hl3, e3⟩ := I'.lstM hqI
      cases r3
      have hH : upd (upd H it (ItL l it 0)) q (.lst []) = upd H it (ItL l it 0) := by
        funext b
        by_cases hb : b = q
        · rw [hb, upd_same, hqI]
        · rw [upd_ne hb]
      have hli : l ≠ it := by
        rcases hl with h | ⟨o, h⟩
        · exact ne_of_none h hit
        · exact ne_of_none h hit
      have key : ∀ s4, Inv X pins σ (upd H it (ItL l it 0)) s4 → codeAny (model X.prog X.w) A1 (.builtin "list.extend.loop" ⟨[.ref q, .ref it, .none], []⟩) Rs s4 := fun s4 I4 =>
        itl_loop (A1 := A1) (zs := zs) (H := H) hcalm (by obtain ⟨_, _, _, hz⟩ := I.list (.inl hl); exact hz) (fun s5 I5 => hdone it s5 hit I5) hlq hli hl hiq zs.length 0 s4 (by simp) (Nat.zero_le _) (by rw [List.take_zero, hH]; exact I4)
      refine wpAny_ite_split (fun _ => ?_) (fun _ => wpAny_pure ⟨plainId_quiet PySem.F.plain_extend_loop _, key s' I'⟩)
      refine wpAny_bind (wpAny_rule ?_)
      refine wpAny_bind ?_
      show wpAny _ _ (updateSeq q (·.push .none) >>= fun _ => updateSeq q (·.pop)) _ _ _
      refine wpAny_bind (wpAny_updateSeq e3 rfl ?_)
      have I4 := I'.lset (f := (·.push Value.none)) (its' := [Value.none]) (ys := [.non]) (t' := s'.toks) hqI e3 (by simp) (.cons rfl .nil) (by rw [List.length_singleton, sizeLine_eq]; decide)
      obtain ⟨z4, its4, k4, r4, hl4, e4⟩ := I4.lstM upd_same
      obtain ⟨u4, rfl, ru4⟩ := r4.one
      refine wpAny_updateSeq e4 rfl ?_ (by show 1 ≤ sizeLine; rw [sizeLine_eq]; decide) (by show 0 ≤ sizeLine + 1; exact Nat.zero_le _)
      have I5 := I4.lset (f := (·.pop)) (its := [u4]) (its' := []) (ys := []) (t' := s'.toks) upd_same e4 (by rfl) .nil (Nat.zero_le _)
      rw [upd_upd, hH] at I5
      exact wpAny_pure ⟨plainId_quiet PySem.F.plain_extend_loop _, key _ I5⟩
/-- list(o) -/
def rListO (fld : Str) (C : Addr) : List V → Hp → VK → Prop := fun xs H Q => ∃ a dx fs l zs, xs = [.ref a] ∧ H a = some (.ins C dx fs) ∧ fs.lookup fld = some (V.ref l) ∧ Rd H l (.lst zs) ∧ ∀ q H', H q = none → Ex H H' → H' q = some (.lst zs) → Q (.ref q) H'
theorem call_listO (hc : ItrC X.K C fi) (FI : FnOk X.prog X.w X.K X.mg X.base CI n fi fdI psI (spIt C fld)) (bI : Binds X.K fdI psI []) (xI : Passes CI X EI) (hcalm : X.calm = true) (hr : Room (n + 2) X.A) : CallR X (.type "list") (rListO fld C) := by
  intro pins s σ H xs us Q I rv h
  obtain ⟨a, dx, fs, l, zs, rfl, ha, hf, hl, hq⟩ := h
  obtain ⟨u, rfl, ru⟩ := rv.one
  cases ru
  have sb : Sub X n X.A.in1.in1 := (Sub.in1 (Sub.in1 (⟨hr, rfl⟩ : Sub X (n + 2) X.A)))
  refine callType_codes (Q₁ := fun obj s₁ => obj = .ref s.heap.objs.size ∧ s₁ = { s with heap := s.heap.push { cls := .type "list", data := .seq #[] } }) PySem.F.called_list (PySem.F.typeCall_list_1 _) PySem.F.entry_list_init
    (code_list_new _ ⟨rfl, rfl⟩) fun obj s₁ h₁ => ?_
  obtain ⟨rfl, rfl⟩ := h₁
  have hS : (s.heap.push { cls := .type "list", data := .seq #[] }).get? s.heap.objs.size = some { cls := .type "list", data := .seq #[] } := Heap.get?_push_size _ rfl
  refine ⟨⟨_, hS, rfl⟩, PySem.F.args_list_init_2 _ _, ?_⟩
  have fr : H s.heap.objs.size = none := I.hok.fresh (Nat.le_refl _)
  have I1 : Inv X pins σ (upd H s.heap.objs.size (.lst [])) { s with heap := s.heap.push { cls := .type "list", data := .seq #[] } } := I.lnew (its := []) (t' := s.toks) .nil (Nat.zero_le _)
  show wpAny _ _ (do let old ← Builtin.List.listItems (.ref s.heap.objs.size); Builtin.List.listUpdate (.ref s.heap.objs.size) (fun _ => #[]); letGo old.toList.reverse; Builtin.List.listExtendWith (.ref s.heap.objs.size) (.ref a) .none) _ _ _
  refine wpAny_bind ?_
  unfold Builtin.List.listItems
  refine wpAny_bind (wpAny_seqItems hS rfl (wpAny_pure ?_))
  show wpAny _ _ (updateSeq s.heap.objs.size (fun _ => #[]) >>= fun _ => letGo (#[] : Array Value).toList.reverse >>= fun _ => Builtin.List.listExtendWith (.ref s.heap.objs.size) (.ref a) .none) _ _ _
  refine wpAny_bind (wpAny_updateSeq hS rfl ?_)
  have I2 := I1.lset (f := fun _ => #[]) (its := []) (its' := []) (ys := []) (t' := s.toks) upd_same hS rfl .nil (Nat.zero_le _)
  rw [upd_upd] at I2
  refine wpAny_bind (wpAny_letGo ?_)
  have ha2 : upd H s.heap.objs.size (.lst []) a = some (.ins C dx fs) := by rw [upd_ne (ne_of_none ha fr)]; exact ha
  have hlq : l ≠ s.heap.objs.size := by
    rcases hl with h | ⟨o, h⟩
    · exact ne_of_none h fr
    · exact ne_of_none h fr
  have hl2 : Rd (upd H s.heap.objs.size (.lst [])) l (.lst zs) := by unfold Rd; rw [upd_ne hlq]; exact hl
  exact itl_extend (A1 := X.A.in1) (Rs := wants (fun r s₂ => r = .none ∧ EP X pins σ Q (.ref s.heap.objs.size) s₂) X.xe) sb (I.ok.hd hcalm) hc FI bI xI (fun it s' hit I' => ⟨rfl, .ref s.heap.objs.size, _, I', rfl, hq _ _ fr ((((Ex.new fr).trans (Ex.new hit)).mut fr)) upd_same⟩) (fun e s' he => he) I2 ha2 hf hl2 upd_same hlq
end

/-! ### objects as data -/
/-- a method of the class at C -/
structure MethAt (K : PySem.W.Frag) (C : Addr) (m qual : Str) (st : Stmt) (f : Addr) (fd : FuncData) : Prop where
  fn : Fun K m qual st f fd
  at_ : PySem.W.findIn K (.ref C) m = some (some (.ref f))
  isF : PySem.W.isFn K (.ref f) = true
theorem MethAt.meth {K : PySem.W.Frag} {C : Addr} {m qual : Str} {st : Stmt} {f : Addr} {fd : FuncData} (M : MethAt K C m qual st f fd) : Meth K C m f := ⟨M.at_, M.isF, M.fn.kp⟩
/-- a method with its promise -/
structure GMt (P : Program) (w : World) (K : PySem.W.Frag) (mg : Str → Option Value) (base : Heap) (C : Addr) (k : Nat) (m : Str) (ps : List Str) (sp : Sp) : Prop where
  ex : ∃ (f : Addr) (fd : FuncData), FnOk P w K mg base CX0 k f fd ps sp ∧ Meth K C m f ∧ Binds K fd ps []
theorem GMt.mono {P : Program} {w : World} {K : PySem.W.Frag} {mg : Str → Option Value} {base : Heap} {C : Addr} {j k : Nat} {m : Str} {ps : List Str} {sp : Sp} (G : GMt P w K mg base C j m ps sp) (h : j ≤ k) : GMt P w K mg base C k m ps sp :=
  let ⟨f, fd, F, a, b⟩ := G.ex
  ⟨f, fd, F.mono h, a, b⟩
theorem MethAt.gmt {P : Program} {w : World} {K : PySem.W.Frag} {mg : Str → Option Value} {base : Heap} {C f : Addr} {fd : FuncData} {m qual : Str} {st : Stmt} {ps : List Str} {k : Nat} {sp : Sp} (M : MethAt K C m qual st f fd)
    (hb : ∀ (kV doc pm : Value) (an : Option Addr) (cdv ct : Value) (us : List Value), us.length = ps.length → bindArgs (PySem.W.fnOf m qual (defArgs st) (defBody st) (defScope st) .none kV doc pm an cdv ct) ⟨us, []⟩ = pure (ps.zip us))
    (h : FnOk P w K mg base CX0 k f fd ps sp) : GMt P w K mg base C k m ps sp := ⟨f, fd, h, M.meth, M.fn.binds hb⟩
/-- a method of data -/
theorem MethAt.sx {P : Program} {w : World} {K : PySem.W.Frag} {mg : Str → Option Value} {base : Heap} {C f : Addr} {fd : FuncData} {m qual : Str} {st : Stmt} {N ps : List Str} {k n : Nat} {G : List D → D → Prop} (M : MethAt K C m qual st f fd)
    (hb : ∀ (kV doc pm : Value) (an : Option Addr) (cdv ct : Value) (us : List Value), us.length = ps.length → bindArgs (PySem.W.fnOf m qual (defArgs st) (defBody st) (defScope st) .none kV doc pm an cdv ct) ⟨us, []⟩ = pure (ps.zip us))
    (S : FnScope N ps (defScope st)) (hn : ps.length = n)
    (h : ∀ cdv A outer s H E ds d, Room k (A.deeper (PyProof.Rows.envOfC qual (defScope st) s.heap.objs.size f cdv)) → ds.length = n → G ds d → Ok1 ((cxOf CX0 P w K mg base N qual (defScope st) f cdv A outer s H E).nox) →
      SxB ((cxOf CX0 P w K mg base N qual (defScope st) f cdv A outer s H E).nox) (defBody st) (slots0 N ds) (Ret d)) : GMt P w K mg base C (k + 1) m ps (spD K n G) :=
  M.gmt hb (fn_sx M.fn S hn fun cdv A outer s H E ds d hr hl hG => h cdv A outer s H E ds d hr hl hG ⟨rfl, S.nd, PassesOwn.never⟩)
section
variable {X : Cx} {ρ : Rho} {a b o e : Expr} {es : List Expr} {d z x y : D} {C : Addr} {fs gs : List (Str × D)} {f m : Str} {pos ap : Pos} {ps : List Str} {k n : Nat} {G : List D → D → Prop} {ds : List D}
/-- o.f -/
theorem e_fld (ha : EvD X a ρ (.ins C fs)) (hc : Cls X.K C) (hn : NoAttr X.K C f) (hl : fs.lookup f = some d) (hb : attributeBase a f X.env (eval a X.env) = eval a X.env := by rfl) : EvD X (.Attribute a f pos) ρ d := fun σ Hs H E ex Q q =>
  ⟨_, pe_fld pe_w hb, ha σ Hs H E ex _ fun u Hs1 H1 g1 d1 => by
    cases d1 with
    | ins h hf =>
      obtain ⟨v, hv, dv⟩ := hf.lookup hl
      exact ⟨_, C, _, _, v, rfl, g1.sh _ _ h, hc, hn, hv, q v Hs1 H1 g1 dv⟩⟩
/-- o.m(..), a method of data -/
theorem e_meth {pl : Sem Bool} (F : GMt X.prog X.w X.K X.mg X.base C k m ps (spD X.K n G)) (hr : Room k X.A) (hc : Cls X.K C) (ho : EvD X o ρ (.ins C fs)) (hl : fs.lookup m = none) (ha : EvA X (e :: es) ρ ds) (hG : G (.ins C fs :: ds) z) (hn : ds.length + 1 = n := by rfl)
    (hst : starEach (e :: es) X.env = (false, eval e X.env) :: starEach es X.env := by rfl) (hpl : (backTo pos (starEach es X.env)).any (·.1) = false := by rfl)
    (ht : eval (.Call (.Attribute o m ap) (e :: es) [] pos) X.env = (do
      let ov ← eval o X.env
      standAt ap.atName
      let (f, first) ← holding [ov] (getMethod ov m pl)
      callWith pos f first (backTo pos (starEach (e :: es) X.env)) (backToKw pos (keywordEach [] X.env))) := by rfl) : EvD X (.Call (.Attribute o m ap) (e :: es) [] pos) ρ z := fun σ Hs H E ex Q q => by
  obtain ⟨f, fd, F, M, b⟩ := F.ex
  refine ⟨_, pe_meth pe_w hc M F hr b .nil (E := E0) pass0 pa_w hst hpl ht, ho σ Hs H E ex _ fun u Hs1 H1 g1 d1 => ?_⟩
  cases d1 with
  | @ins x _ dx fvs _ h hf =>
    refine ⟨_, _, _, rfl, g1.sh _ _ h, hf.lookup_none hl, ha σ Hs1 H1 (E.step g1) g1.sh _ fun us Hs2 H2 g2 d2 => ?_⟩
    exact ⟨Hs2, .ins C fs :: ds, z, g2.sh, by rw [List.append_nil]; exact .cons (.ins (g2.ss _ _ h) (hf.mono g2.ss)) d2, by rw [List.length_cons]; exact hn, hG, fun w Hs3 H3 g3 d3 => q w Hs3 H3 ((g1.trans g2).trans g3) d3⟩
/-- x in o, x not in o -/
theorem rv_inO (F : GMt X.prog X.w X.K X.mg X.base C k "__contains__" ps (spD X.K 2 G)) (hr : Room k X.A) {t : Bool} (hG : G [.ins C fs, x] (.bl t)) : ∃ r, OpR X (compareOp .In) r ∧ RvD X.K r x (.ins C fs) (.bl t) := by
  obtain ⟨f, fd, F, M, b⟩ := F.ex
  refine ⟨_, op_inO F hr b (E := E0) pass0 M.at_ M.fn, fun Hs H u v ex du dv Q q => ?_⟩
  cases dv with
  | @ins a _ dx fvs _ h hf =>
    refine ⟨a, _, _, rfl, ex _ _ h, Hs, [.ins C fs, x], .bl t, ex, .cons (.ins h hf) (.cons du .nil), rfl, hG, fun w Hs3 H3 g3 d3 => ?_⟩
    cases d3
    exact ⟨t, rfl, q _ Hs3 H3 g3 (.bl _)⟩
theorem rv_notinO (F : GMt X.prog X.w X.K X.mg X.base C k "__contains__" ps (spD X.K 2 G)) (hr : Room k X.A) {t : Bool} (hG : G [.ins C fs, x] (.bl t)) : ∃ r, OpR X (compareOp .NotIn) r ∧ RvD X.K r x (.ins C fs) (.bl (!t)) := by
  obtain ⟨f, fd, F, M, b⟩ := F.ex
  refine ⟨_, op_notinO F hr b (E := E0) pass0 M.at_ M.fn, fun Hs H u v ex du dv Q q => ?_⟩
  cases dv with
  | @ins a _ dx fvs _ h hf =>
    refine ⟨a, _, _, rfl, ex _ _ h, Hs, [.ins C fs, x], .bl t, ex, .cons (.ins h hf) (.cons du .nil), rfl, hG, fun w Hs3 H3 g3 d3 => ?_⟩
    cases d3
    exact ⟨t, rfl, q _ Hs3 H3 g3 (.bl _)⟩
theorem e_inO (F : GMt X.prog X.w X.K X.mg X.base C k "__contains__" ps (spD X.K 2 G)) (hr : Room k X.A) {t : Bool} (ha : EvD X a ρ x) (hb : EvD X b ρ (.ins C fs)) (hG : G [.ins C fs, x] (.bl t)) (hm : behindInMarks .In b = false := by rfl) : EvD X (.Compare a [.In] [b] pos) ρ (.bl t) :=
  let ⟨_, h1, h2⟩ := rv_inO F hr hG
  e_cmp h1 ha hb h2 hm
theorem t_inO (F : GMt X.prog X.w X.K X.mg X.base C k "__contains__" ps (spD X.K 2 G)) (hr : Room k X.A) {t : Bool} (ha : EvD X a ρ x) (hb : EvD X b ρ (.ins C fs)) (hG : G [.ins C fs, x] (.bl t)) (hm : behindInMarks .In b = false := by rfl) : EvT X (.Compare a [.In] [b] pos) ρ t :=
  let ⟨_, h1, h2⟩ := rv_inO F hr hG
  t_cmp h1 ha hb h2 hm
theorem t_notinO (F : GMt X.prog X.w X.K X.mg X.base C k "__contains__" ps (spD X.K 2 G)) (hr : Room k X.A) {t : Bool} (ha : EvD X a ρ x) (hb : EvD X b ρ (.ins C fs)) (hG : G [.ins C fs, x] (.bl t)) (hm : behindInMarks .NotIn b = false := by rfl) : EvT X (.Compare a [.NotIn] [b] pos) ρ (!t) :=
  let ⟨_, h1, h2⟩ := rv_notinO F hr hG
  t_cmp h1 ha hb h2 hm
/-- a op b by an own method -/
theorem e_binO {op : Operator} (F : GMt X.prog X.w X.K X.mg X.base C k (PySem.dunder op.info.2) ps (spD X.K 2 G)) (hr : Room k X.A) (hc : PySem.W.selfFirst X.K C = true) (ha : EvD X a ρ (.ins C fs)) (hb : EvD X b ρ (.ins C gs)) (hG : G [.ins C fs, .ins C gs] z) : EvD X (.BinOp a op b pos) ρ z := by
  obtain ⟨f, fd, F, M, bb⟩ := F.ex
  refine e_op (op_binO F hr bb (E := E0) pass0 hc M.at_ M.fn) ha hb fun Hs H u v ex du dv Q q => ?_
  cases du with
  | @ins a _ dx fvs _ h hf =>
    cases dv with
    | @ins b _ dy gvs _ h2 hf2 =>
      exact ⟨a, _, _, b, _, _, rfl, rfl, ex _ _ h, ex _ _ h2, Hs, [.ins C fs, .ins C gs], z, ex, .cons (.ins h hf) (.cons (.ins h2 hf2) .nil), rfl, hG, q⟩
/-- list(o) -/
theorem e_listO {fi : Addr} {fld : Str} {fdI : FuncData} {psI : List Str} {kI : Nat} {p : Pos} (hc : ItrC X.K C fi) (FI : FnOk X.prog X.w X.K X.mg X.base CX0 kI fi fdI psI (spIt C fld)) (bI : Binds X.K fdI psI []) (hcalm : X.calm = true) (hr : Room (kI + 2) X.A) (hm : X.mg "list" = none)
    (ha : EvD X a ρ (.ins C fs)) (hl : fs.lookup fld = some (.lst ds)) (hg : Gl X "list" := by rfl)
    (he : starEach [a] X.env = (false, eval a X.env) :: starEach [] X.env := by rfl) (hpl : (backTo pos (starEach [] X.env)).any (·.1) = false := by rfl) : EvD X (.Call (.Name "list" p) [a] [] pos) ρ (.lst ds) :=
  e_callTy (call_listO hc FI bI (EI := E0) pass0 hcalm hr) hm (by decide +kernel) (ea_cons ha ea_nil he) (fun Hs H us ex hs Q q => by
    cases hs with
    | cons h1 hn =>
      cases hn
      cases h1 with
      | @ins x _ dx fvs _ h hf =>
        obtain ⟨v, hv, dv⟩ := hf.lookup hl
        cases dv with
        | @lst l vs _ hrd hds =>
          refine ⟨x, dx, fvs, l, vs, rfl, ex _ _ h, hv, ex.rd hrd, fun p H' hp e1 e2 => q _ (upd Hs p (.lst vs)) H' ⟨Ex.new (ex.back hp), fun b o hb => ?_, e1, fun b h1 h2 => ?_⟩ (.lst (sl upd_same) (hds.mono (Ex.new (ex.back hp))))⟩
          · by_cases z : b = p
            · subst z; rw [upd_same] at hb; cases hb; exact e2
            · rw [upd_ne z] at hb; exact e1 _ _ (ex _ _ hb)
          · rw [upd_ne]
            · exact h1
            · intro z; subst z; exact h2 hp) hg (by decide) (by decide) he hpl
/-- what an __init__ of data promises: the new instance at p has the fields that G tells -/
def spInit (K : PySem.W.Frag) (C : Addr) (n : Nat) (G : List D → List (Str × D) → Prop) : Sp := fun vs H Q _ => ∃ Hs p dx us ds fs, vs = .ref p :: us ∧ H p = some (.ins C dx []) ∧ Hs p = none ∧ Ex Hs H ∧ DVs K Hs us ds ∧ ds.length = n ∧ G ds fs ∧
  ∀ Hs' H' fvs, Ex Hs Hs' → Ex Hs' H' → (∀ b o, b ≠ p → H b = some o → H' b = some o) → (∀ b, Hs b = none → H b ≠ none → Hs' b = none) → H' p = some (.ins C dx fvs) → DFs K Hs' fvs fs → Q .non H'
/-- C(..) -/
theorem e_make {c : Str} {p : Pos} {fI : Addr} {fdI : FuncData} {GI : List D → List (Str × D) → Prop} (M : Mk X.K C fI) (F : FnOk X.prog X.w X.K X.mg X.base CX0 k fI fdI ps (spInit X.K C n GI)) (hr : Room (k + 1) X.A) (hm : X.mg c = some (.ref C)) (hb : Binds X.K fdI ps [])
    (ha : EvA X (e :: es) ρ ds) (hG : GI ds fs) (hn : ds.length = n := by rfl) (hg : Gl X c := by rfl) (hdb : (c == ("__debug__" : Str)) = false := by decide) (he : starEach (e :: es) X.env = (false, eval e X.env) :: starEach es X.env := by rfl) (hpl : (backTo pos (starEach es X.env)).any (·.1) = false := by rfl) :
    EvD X (.Call (.Name c p) (e :: es) [] pos) ρ (.ins C fs) := fun σ Hs H E ex Q q =>
  ⟨_, pe_make M F hr hg hm hb .nil (E := E0) pass0 pa_w hdb he hpl, ha σ Hs H E ex _ fun us Hs1 H1 g1 d1 x dx nx ndx nex => by
    have e1 : Ex H1 (upd (upd H1 dx (.own x)) x (.ins C dx [])) := (Ex.new ndx).mut nx
    refine ⟨Hs1, x, dx, us, ds, fs, by rw [List.append_nil], upd_same, g1.sh.back nx, g1.sh.trans e1, d1, hn, hG, fun Hs2 H2 fvs k1 k2 k3 k4 k5 k6 => ⟨rfl, ?_⟩⟩
    have nx2 : Hs2 x = none := k4 x (g1.sh.back nx) (by rw [upd_same]; exact fun z => nomatch z)
    refine q _ (upd Hs2 x (.ins C dx fvs)) H2 (g1.trans ⟨k1.trans (Ex.new nx2), fun b o hb' => ?_, fun b o hb' => ?_, fun b h1 h2 => ?_⟩) (.ins upd_same (k6.mono (Ex.new nx2)))
    · by_cases z : b = x
      · subst z; rw [upd_same] at hb'; cases hb'; exact k5
      · rw [upd_ne z] at hb'; exact k2 _ _ hb'
    · have z : b ≠ x := ne_of_none hb' nx
      exact k3 b o z (e1 _ _ hb')
    · have z : b ≠ x := fun z => by subst z; exact h2 nx
      rw [upd_ne z]
      refine k4 b h1 ?_
      cases w : H1 b with
      | none => exact absurd w h2
      | some o => rw [e1 _ _ w]; exact fun z => nomatch z⟩
end
end DL

set_option Elab.async false
set_option maxRecDepth 100000
set_option maxHeartbeats 400000
set_option linter.all false
/-! DM: objects of one's own that change; arguments taken by what they hold -/
namespace DL
open PySem L2
section
variable {K : PySem.W.Frag} {Hs0 H0 Hs H Hs' H' : Hp} {σ : L2.St} {ρ ρ' : List Sl} {i : Nat} {d : D} {ds : List D} {c c' : Cell} {gs : List (Addr × Cell)} {v : V} {x : Sl} {a p : Addr} {o : HO}
/-- the root changes -/
theorem Stt.mutR (S : Stt K Hs0 H0 Hs H σ ρ) (hi : ρ[i]? = some (.own c gs)) (ha : σ[i]? = some (some (.ref a))) (hc : CellV K Hs c' o) : Stt K Hs0 H0 Hs (upd H a o) σ (ρ.set i (.own c' gs)) := by
  obtain ⟨a', r1, ⟨o', r2, r3, r4, r5⟩, r7, r8, r6⟩ := S.own i hi
  rw [ha] at r1
  cases r1
  refine S.mut hi (by rw [r6]; exact List.mem_cons_self) ha ⟨a, rfl, ⟨o, upd_same, r3, r4, hc⟩, fun x hx => (r7 x hx).keep (Ex.refl _) (upd_ne fun z => ?_) (by obtain ⟨_, _, z, _⟩ := r7 x hx; exact z), r8⟩ rfl
  subst z
  exact (List.nodup_cons.mp r8).1 (List.mem_map_of_mem hx)
theorem nodup_at {α : Type} {l : List α} {i j : Nat} {x : α} (h : l.Nodup) (h1 : l[i]? = some x) (h2 : l[j]? = some x) : i = j := by
  exact (List.getElem?_inj (List.getElem?_eq_some_iff.mp h1).1 h).mp (h1.trans h2.symm)
/-- one of the further objects changes -/
theorem Stt.mutG {k : Nat} (S : Stt K Hs0 H0 Hs H σ ρ) (hi : ρ[i]? = some (.own c gs)) (hg : gs[k]? = some (p, c')) {c2 : Cell} (hc : CellV K Hs c2 o) : Stt K Hs0 H0 Hs (upd H p o) σ (ρ.set i (.own c (gs.set k (p, c2)))) := by
  obtain ⟨a, r1, ⟨o', r2, r3, r4, r5⟩, r7, r8, r6⟩ := S.own i hi
  have hm : (p, c') ∈ gs := List.mem_of_getElem? hg
  have hkl : k < gs.length := (List.getElem?_eq_some_iff.mp hg).1
  have hpa : p ∈ gs.map (·.1) := List.mem_map_of_mem hm
  have hap : a ≠ p := fun z => (List.nodup_cons.mp r8).1 (z ▸ hpa)
  have hkeys : (gs.set k (p, c2)).map (·.1) = gs.map (·.1) := by
    rw [List.map_set]
    refine set_same ?_
    rw [List.getElem?_map, hg]
    rfl
  obtain ⟨_, _, z3, z4, _⟩ := r7 _ hm
  refine S.mut hi (by rw [r6]; exact List.mem_cons_of_mem _ hpa) r1 ⟨a, rfl, ⟨o', ?_, r3, r4, r5⟩, fun x hx => ?_, by rw [hkeys]; exact r8⟩ hkeys
  · rw [upd_ne hap]; exact r2
  · obtain ⟨j, hj⟩ := List.mem_iff_getElem?.mp hx
    rcases get_set hj with ⟨rfl, rfl⟩ | ⟨q, hj'⟩
    · exact ⟨o, upd_same, z3, z4, hc⟩
    · have hxm := List.mem_of_getElem? hj'
      refine (r7 x hxm).keep (Ex.refl _) (upd_ne fun z => q ?_) (by obtain ⟨_, _, z, _⟩ := r7 x hxm; exact z)
      refine nodup_at (List.nodup_cons.mp r8).2 (x := p) ?_ ?_
      · rw [List.getElem?_map, hg]; rfl
      · rw [List.getElem?_map, hj', ← z]; rfl
/-- a further object: a new list -/
theorem Stt.addg {vs : List V} (S : Stt K Hs0 H0 Hs H σ ρ) (hi : ρ[i]? = some (.own c gs)) (g : Gr Hs H Hs' H') (h1 : H' p = some (.lst vs)) (h2 : H p = none) (h3 : Hs' p = none) (dv : DVs K Hs' vs ds) : Stt K Hs0 H0 Hs' H' σ (ρ.set i (.own c (gs ++ [(p, .lst ds)]))) := by
  have S' := S.step g
  obtain ⟨a, r1, r2, r7, r8, r6⟩ := S'.own i hi
  have old : ∀ j, p ∉ ow σ ρ j := fun j hb => by
    obtain ⟨es, ws, q, _⟩ := S.owner hb
    rw [h2] at q
    cases q
  have ho : OwnL K H0 Hs' H' p (.lst ds) := ⟨.lst vs, h1, h3, S.gr.hh.back h2, dv⟩
  have := S'.put (i := i) (x := .own c (gs ++ [(p, .lst ds)])) (v := some (.ref a)) S'.gr (Ex.refl _) (fun j _ b hb => S'.keep hb) ⟨a, rfl, r2, fun x hx => ?_, ?_⟩ fun j hj b hb hb' => ?_
  · rwa [set_same r1] at this
  · rcases List.mem_append.mp hx with z | z
    · exact r7 x z
    · rw [List.mem_singleton.mp z]; exact ho
  · have n1 := old i
    rw [r6] at n1
    rw [List.map_append, ← List.cons_append]
    exact List.nodup_append.mpr ⟨r8, by simp, fun x hx y hy z => n1 (by
      have : y = p := by simpa using hy
      rw [← this, ← z]; exact hx)⟩
  · have hb2 : b ∈ a :: (gs ++ [(p, Cell.lst ds)]).map (·.1) := hb'
    rw [List.map_append, ← List.cons_append] at hb2
    rcases List.mem_append.mp hb2 with z | z
    · exact hj (S'.dis j i b hb (by rw [r6]; exact z))
    · have : b = p := by simpa using z
      exact old j (this ▸ hb)
end

section
variable {X : Cx} {ρ ρ' : List Sl} {P P' : Out → Prop} {e o : Expr} {pos p : Pos} {d : D} {i j : Nat} {n : Str} {ds es : List D} {c : Cell} {gs : List (Addr × Cell)}
/-- a new list of which R is known -/
def EvOR (X : Cx) (e : Expr) (ρ : Rho) (R : List D → Prop) : Prop := ∀ σ Hs H, En X.K Hs H σ ρ → Ex Hs H → ∀ Q : VK, (∀ ds, R ds → ∀ a vs Hs' H', Gr Hs H Hs' H' → H' a = some (.lst vs) → H a = none → Hs' a = none → DVs X.K Hs' vs ds → Q (.ref a) H') → wE X e σ H Q
theorem EvO.r (h : EvO X e ρ es) : EvOR X e ρ fun x => x = es := fun σ Hs H E ex Q k => h σ Hs H E ex Q fun a vs Hs' H' => k es rfl a vs Hs' H'
/-- xs.append(e), e a new list, xs a list of one's own -/
theorem sx_appO (i : Nat) {x : Str} {px ap cp : Pos} {R : List D → Prop} (h : EvOR X e ρ R) (hr : ρ[i]? = some (.own (.lst ds) gs)) (k : ∀ es a, R es → P (.nx (ρ.set i (.own (.lst (ds ++ [.ob a])) (gs ++ [(a, .lst es)]))))) (hl : ds.length ≤ 1000000)
    (hi : X.N[i]? = some x := by rfl) (hv : Vis X.env.scope x := by first | exact .inl rfl | exact .inr (.inl rfl) | exact .inr (.inr rfl)) (h1 : (x == ("__debug__" : Str)) = false := by decide) (h2 : (x == ("__classdict__" : Str)) = false := by decide)
    (hbase : attributeBase (.Name x px) ("append" : Str) X.env (eval (.Name x px) X.env) = eval (.Name x px) X.env := by rfl)
    (hfew : ((backTo cp (starEach [e] X.env)).all (fun x => !x.1) && (backToKw cp (keywordEach [] X.env)).all (fun x => x.1.isSome)
      && decide (([e] : List Expr).length + ([] : List Keyword).length + (if ([] : List Keyword).isEmpty then 0 else 1) < 30)) = true := by rfl)
    (hline : (ap.endLine == cp.line) = true := by rfl) (hs : starEach [e] X.env = (false, eval e X.env) :: starEach [] X.env := by rfl) (hplain : (backTo cp (starEach [] X.env)).any (·.1) = false := by rfl)
    (hsw : swapsWith (.Call (.Attribute (.Name x px) "append" ap) [e] [] cp) none pos.line X.env = pure false := by rfl) : SxS X (.Expr (.Call (.Attribute (.Name x px) "append" ap) [e] [] cp) pos) ρ P := fun Hs0 H0 σ Hs H S E F => by
  obtain ⟨a, q1, ⟨o, q2, q3, q4, q5⟩, _, _, q6⟩ := S.own i hr
  obtain ⟨vs, rfl, q5⟩ := q5.lst
  refine ⟨_, ps_expr (pe_bm PySem.F.plainAttrs_list PySem.F.slot_list_append PySem.F.type_list_append mt_append (pe_var hi hv h1 h2) (pa_cons pe_w pa_nil hs) hbase hfew hline hs hplain) hsw, ?_⟩
  refine ⟨_, q1, .inl ⟨rfl, _, .inl (.inl q2)⟩, h σ Hs H S.en S.gr.sh _ fun es hes b ws Hs' H' g z1 z2 z3 dv => ?_⟩
  have S' := S.addg hr g z1 z2 z3 dv
  have hil : i < ρ.length := (List.getElem?_eq_some_iff.mp hr).1
  have hr' : (ρ.set i (.own (.lst ds) (gs ++ [(b, .lst es)])))[i]? = some (.own (.lst ds) (gs ++ [(b, .lst es)])) := List.getElem?_set_self hil
  obtain ⟨a', r1, ⟨o', r2, r3, r4, r5⟩, r7, r8, r6⟩ := S'.own i hr'
  obtain ⟨vs', rfl, r5⟩ := r5.lst
  rw [q1] at r1
  cases r1
  refine ⟨_, vs', .ref b, rfl, rfl, r2, Nat.lt_of_le_of_lt (by rw [r5.length]; exact hl) (by decide), ?_⟩
  have := S'.mutR hr' q1 (c' := .lst (ds ++ [.ob b])) (o := .lst (vs' ++ [.ref b])) (r5.append (.cons (.ob b) .nil))
  rw [List.set_set] at this
  exact F.nx _ (k es b hes) _ Hs' _ this
/-- e.append(f), e a further list of one's own -/
theorem sx_appG (i m : Nat) {ap cp : Pos} {a : Addr} (ho : EvD X o ρ (.ob a)) (h : EvD X e ρ d) (hr : ρ[i]? = some (.own c gs)) (hg : gs[m]? = some (a, .lst ds)) (k : P (.nx (ρ.set i (.own c (gs.set m (a, .lst (ds ++ [d]))))))) (hl : ds.length ≤ 1000000)
    (hbase : attributeBase o ("append" : Str) X.env (eval o X.env) = eval o X.env := by rfl)
    (hfew : ((backTo cp (starEach [e] X.env)).all (fun x => !x.1) && (backToKw cp (keywordEach [] X.env)).all (fun x => x.1.isSome)
      && decide (([e] : List Expr).length + ([] : List Keyword).length + (if ([] : List Keyword).isEmpty then 0 else 1) < 30)) = true := by rfl)
    (hline : (ap.endLine == cp.line) = true := by rfl) (hs : starEach [e] X.env = (false, eval e X.env) :: starEach [] X.env := by rfl) (hplain : (backTo cp (starEach [] X.env)).any (·.1) = false := by rfl)
    (hsw : swapsWith (.Call (.Attribute o "append" ap) [e] [] cp) none pos.line X.env = pure false := by rfl) : SxS X (.Expr (.Call (.Attribute o "append" ap) [e] [] cp) pos) ρ P := fun Hs0 H0 σ Hs H S E F => by
  refine ⟨_, ps_expr (pe_bm PySem.F.plainAttrs_list PySem.F.slot_list_append PySem.F.type_list_append mt_append pe_w (pa_cons pe_w pa_nil hs) hbase hfew hline hs hplain) hsw, ?_⟩
  refine ho σ Hs H S.en S.gr.sh _ fun u Hs1 H1 g1 d1 => ?_
  cases d1
  have S1 := S.step g1
  obtain ⟨b, q1, _, q7, _, q6⟩ := S1.own i hr
  obtain ⟨x, q2, q3, q4, q5⟩ := q7 _ (List.mem_of_getElem? hg)
  obtain ⟨vs, rfl, q5⟩ := q5.lst
  refine ⟨.inl ⟨rfl, _, .inl (.inl q2)⟩, h σ Hs1 H1 S1.en S1.gr.sh _ fun v Hs' H' g dv => ?_⟩
  have S' := S1.step g
  obtain ⟨b, q1, _, q7, _, q6⟩ := S'.own i hr
  obtain ⟨x, r2, r3, r4, r5⟩ := q7 _ (List.mem_of_getElem? hg)
  obtain ⟨vs', rfl, r5⟩ := r5.lst
  refine ⟨_, vs', v, rfl, rfl, r2, Nat.lt_of_le_of_lt (by rw [r5.length]; exact hl) (by decide), ?_⟩
  exact F.nx _ k _ Hs' _ (S'.mutG hr hg (c2 := .lst (ds ++ [d])) (o := .lst (vs' ++ [v])) (r5.append (.cons dv .nil)))
theorem DVs.set {K : PySem.W.Frag} {H : Hp} : ∀ {vs : List V} {ds : List D} {v : V} {d : D} (i : Nat), DVs K H vs ds → DV K H v d → DVs K H (vs.set i v) (ds.set i d)
  | _, _, _, _, _, .nil, _ => .nil
  | _, _, _, _, 0, .cons _ hs, h => .cons h hs
  | _, _, _, _, i + 1, .cons h0 hs, h => .cons h0 (DVs.set i hs h)
/-- xs[m] = e, e a new list, xs a list of one's own -/
theorem sx_ixO (i : Nat) {m : Nat} {x : Str} {px sp : Pos} {b : Expr} (h : EvO X e ρ es) (hb : EvD X b ρ (.int (m : Int))) (hr : ρ[i]? = some (.own (.lst ds) gs)) (hm : m < ds.length) (k : ∀ a, P (.nx (ρ.set i (.own (.lst (ds.set m (.ob a))) (gs ++ [(a, .lst es)])))))
    (hbb : ∀ a, EvD X b (ρ.set i (.own (.lst ds) (gs ++ [(a, .lst es)]))) (.int (m : Int)))
    (hi : X.N[i]? = some x := by rfl) (hv : Vis X.env.scope x := by first | exact .inl rfl | exact .inr (.inl rfl) | exact .inr (.inr rfl)) (h1 : (x == ("__debug__" : Str)) = false := by decide) (h2 : (x == ("__classdict__" : Str)) = false := by decide)
    (hs : swapsWithSole [.Subscript (.Name x px) b sp] e pos.line X.env = pure false := by rfl) (hw : swappedStores [.Subscript (.Name x px) b sp] e X.env = pure none := by rfl)
    (h3 : (assignEach [.Subscript (.Name x px) b sp] X.env).map (·.2) = [assign (.Subscript (.Name x px) b sp) X.env] := by rfl)
    (ha : ∀ v, assign (.Subscript (.Name x px) b sp) X.env v = (do
      let ov ← holding [v] (eval (.Name x px) X.env)
      let iv ← holding [v, ov] (eval b X.env)
      standAt sp
      holding [v, ov, iv] (setItem ov iv v)
      release [v, ov, iv] []) := by intro _; rfl) : SxS X (.Assign [.Subscript (.Name x px) b sp] e pos) ρ P := fun Hs0 H0 σ Hs H S E F => by
  refine ⟨_, ps_asg pe_w (pg_sub (pe_var hi hv h1 h2) pe_w set_list ha) hs hw h3, h σ Hs H S.en S.gr.sh _ fun a ws Hs' H' g z1 z2 z3 dv => ?_⟩
  have S' := S.addg hr g z1 z2 z3 dv
  have hil : i < ρ.length := (List.getElem?_eq_some_iff.mp hr).1
  have hr' : (ρ.set i (.own (.lst ds) (gs ++ [(a, .lst es)])))[i]? = some (.own (.lst ds) (gs ++ [(a, .lst es)])) := List.getElem?_set_self hil
  obtain ⟨a', r1, ⟨o', r2, r3, r4, r5⟩, r7, r8, r6⟩ := S'.own i hr'
  refine ⟨_, r1, hbb a σ Hs' H' S'.en S'.gr.sh _ fun v Hs2 H2 g2 d2 => ?_⟩
  cases d2
  have S2 := S'.step g2
  obtain ⟨a2, r1', ⟨o', r2, r3, r4, r5⟩, r7, r8, r6⟩ := S2.own i hr'
  obtain ⟨vs', rfl, r5⟩ := r5.lst
  rw [r1] at r1'
  cases r1'
  have := S2.mutR hr' r1 (c' := .lst (ds.set m (.ob a))) (o := .lst (vs'.set m (.ref a))) (r5.set m (.ob a))
  rw [List.set_set] at this
  refine ⟨_, vs', m, m, rfl, rfl, r2, ?_, F.nx _ (k a) _ Hs2 _ this⟩
  unfold ixN
  rw [if_pos (Int.natCast_nonneg m), if_pos (by rw [r5.length]; omega)]
  rfl
end

/-! ### arguments by what they hold -/
/-- an argument (data, or a list wherever it stands); an answer (data, or a new list) -/
inductive Ar where
  | d (d : D)
  | l (ds : List D)
def ArV (K : PySem.W.Frag) (Hs H : Hp) (v : V) : Ar → Prop
  | .d d => DV K Hs v d
  | .l ds => ∃ a vs, v = .ref a ∧ Rd H a (.lst vs) ∧ DVs K Hs vs ds
inductive ArVs (K : PySem.W.Frag) (Hs H : Hp) : List V → List Ar → Prop
  | nil : ArVs K Hs H [] []
  | cons {v : V} {x : Ar} {vs : List V} {xs : List Ar} : ArV K Hs H v x → ArVs K Hs H vs xs → ArVs K Hs H (v :: vs) (x :: xs)
section
variable {K : PySem.W.Frag} {Hs H Hs' H' : Hp}
theorem ArV.step {v : V} {x : Ar} (h : ArV K Hs H v x) (g : Gr Hs H Hs' H') : ArV K Hs' H' v x := by
  cases x with
  | d d => exact DV.mono g.ss h
  | l ds => obtain ⟨a, vs, h1, h2, h3⟩ := h; exact ⟨a, vs, h1, g.hh.rd h2, h3.mono g.ss⟩
theorem ArVs.length : ∀ {vs : List V} {xs : List Ar}, ArVs K Hs H vs xs → vs.length = xs.length
  | _, _, .nil => rfl
  | _, _, .cons _ hs => by rw [List.length_cons, List.length_cons, ArVs.length hs]
theorem ArVs.get : ∀ {vs : List V} {xs : List Ar} {i : Nat} {x : Ar}, ArVs K Hs H vs xs → xs[i]? = some x → ∃ v, vs[i]? = some v ∧ ArV K Hs H v x
  | _, _, _, _, .nil, e => by simp at e
  | _, _, 0, _, .cons h _, e => by simp at e; subst e; exact ⟨_, rfl, h⟩
  | _, _, i + 1, d, .cons _ hs, e => by
    obtain ⟨v, h1, h2⟩ := ArVs.get (i := i) (x := d) hs (by simpa using e)
    exact ⟨v, by simpa using h1, h2⟩
end
def EvAA (X : Cx) (es : List Expr) (ρ : Rho) (as : List Ar) : Prop := ∀ σ Hs H, En X.K Hs H σ ρ → Ex Hs H → ∀ Q : List V → Hp → Prop, (∀ vs Hs' H', Gr Hs H Hs' H' → ArVs X.K Hs' H' vs as → Q vs H') → wA X es σ H Q
/-- what an answer has to meet -/
def PostA (K : PySem.W.Frag) (Hs H : Hp) (Q : VK) : Ar → Prop
  | .d d => Post K Hs H Q d
  | .l ds => ∀ a vs Hs' H', Gr Hs H Hs' H' → H' a = some (.lst vs) → H a = none → Hs' a = none → DVs K Hs' vs ds → Q (.ref a) H'
/-- the promise of a def that takes lists by what they hold -/
def spA (K : PySem.W.Frag) (n : Nat) (Pre : List Ar → Prop) (Rel : List Ar → Ar → Prop) : Sp := fun vs H Q _ => ∃ Hs as, Ex Hs H ∧ ArVs K Hs H vs as ∧ as.length = n ∧ Pre as ∧ ∀ r, Rel as r → PostA K Hs H Q r
section
variable {X : Cx} {ρ : Rho} {e : Expr} {es : List Expr} {d z : D} {ds : List D} {as : List Ar} {n : Str} {p pos q : Pos} {k m : Nat} {ps : List Str} {Pre : List Ar → Prop} {Rel : List Ar → Ar → Prop} {P : Out → Prop}
theorem aa_nil : EvAA X [] ρ [] := fun _ _ _ _ e _ k => ⟨_, pa_nil, k _ _ _ (Gr.refl e) .nil⟩
theorem aa_d (ha : EvD X e ρ d) (hs : EvAA X es ρ as) (hst : starEach (e :: es) X.env = (false, eval e X.env) :: starEach es X.env := by rfl) : EvAA X (e :: es) ρ (.d d :: as) := fun σ Hs H E ex Q k =>
  ⟨_, pa_cons pe_w pa_w (by first | exact hst), ha σ Hs H E ex _ fun v Hs1 H1 g dv => hs σ Hs1 H1 (E.step g) g.sh _ fun vs Hs2 H2 g2 dvs => k _ _ _ (g.trans g2) (.cons (ArV.step (x := .d d) dv g2) dvs)⟩
theorem aa_l (ha : EvL X e ρ ds) (hs : EvAA X es ρ as) (hst : starEach (e :: es) X.env = (false, eval e X.env) :: starEach es X.env := by rfl) : EvAA X (e :: es) ρ (.l ds :: as) := fun σ Hs H E ex Q k =>
  ⟨_, pa_cons pe_w pa_w (by first | exact hst), ha σ Hs H E ex _ fun a vs Hs1 H1 g hl dv => hs σ Hs1 H1 (E.step g) g.sh _ fun us Hs2 H2 g2 dvs => k _ _ _ (g.trans g2) (.cons (ArV.step (x := .l ds) ⟨a, vs, rfl, hl, dv⟩ g2) dvs)⟩
/-- f(..), a new list -/
theorem eo_callA (F : GFn X.prog X.w X.K X.mg X.base k n ps (spA X.K m Pre Rel)) (hr : Room k X.A) (ha : EvAA X (e :: es) ρ as) (hP : Pre as) (hR : ∀ r, Rel as r → r = .l ds) (hl : as.length = m := by rfl) (hg : Gl X n := by rfl) (hdb : (n == ("__debug__" : Str)) = false := by decide)
    (he : starEach (e :: es) X.env = (false, eval e X.env) :: starEach es X.env := by rfl) (hpl : (backTo pos (starEach es X.env)).any (·.1) = false := by rfl) : EvO X (.Call (.Name n p) (e :: es) [] pos) ρ ds := fun σ Hs H E ex Q q =>
  ⟨_, pe_g F hr pa_w hg hdb he hpl, ha σ Hs H E ex _ fun us Hs1 H1 g1 d1 => ⟨Hs1, as, g1.sh, by rw [List.append_nil]; exact d1, hl, hP, fun r hr => by
    rw [hR r hr]
    intro a vs Hs2 H2 g2 q1 q2 q3 dv
    exact q a vs Hs2 H2 (g1.trans g2) q1 (g1.hh.back q2) q3 dv⟩⟩
/-- f(..), a new list of which R is known -/
theorem eo_callR {R : List D → Prop} (F : GFn X.prog X.w X.K X.mg X.base k n ps (spA X.K m Pre Rel)) (hr : Room k X.A) (ha : EvAA X (e :: es) ρ as) (hP : Pre as) (hR : ∀ r, Rel as r → ∃ ds, r = .l ds ∧ R ds) (hl : as.length = m := by rfl) (hg : Gl X n := by rfl) (hdb : (n == ("__debug__" : Str)) = false := by decide)
    (he : starEach (e :: es) X.env = (false, eval e X.env) :: starEach es X.env := by rfl) (hpl : (backTo pos (starEach es X.env)).any (·.1) = false := by rfl) : EvOR X (.Call (.Name n p) (e :: es) [] pos) ρ R := fun σ Hs H E ex Q q =>
  ⟨_, pe_g F hr pa_w hg hdb he hpl, ha σ Hs H E ex _ fun us Hs1 H1 g1 d1 => ⟨Hs1, as, g1.sh, by rw [List.append_nil]; exact d1, hl, hP, fun r hr => by
    obtain ⟨ds, rfl, hd⟩ := hR r hr
    intro a vs Hs2 H2 g2 q1 q2 q3 dv
    exact q ds hd a vs Hs2 H2 (g1.trans g2) q1 (g1.hh.back q2) q3 dv⟩⟩
/-- f(..), data -/
theorem e_callA (F : GFn X.prog X.w X.K X.mg X.base k n ps (spA X.K m Pre Rel)) (hr : Room k X.A) (ha : EvAA X (e :: es) ρ as) (hP : Pre as) (hR : ∀ r, Rel as r → r = .d z) (hl : as.length = m := by rfl) (hg : Gl X n := by rfl) (hdb : (n == ("__debug__" : Str)) = false := by decide)
    (he : starEach (e :: es) X.env = (false, eval e X.env) :: starEach es X.env := by rfl) (hpl : (backTo pos (starEach es X.env)).any (·.1) = false := by rfl) : EvD X (.Call (.Name n p) (e :: es) [] pos) ρ z := fun σ Hs H E ex Q q =>
  ⟨_, pe_g F hr pa_w hg hdb he hpl, ha σ Hs H E ex _ fun us Hs1 H1 g1 d1 => ⟨Hs1, as, g1.sh, by rw [List.append_nil]; exact d1, hl, hP, fun r hr => by
    rw [hR r hr]
    intro v Hs2 H2 g2 dv
    exact q v Hs2 H2 (g1.trans g2) dv⟩⟩
/-- a slot that holds an answer -/
def slA : Ar → Sl
  | .d d => .d d
  | .l ds => .acc ds
/-- x = f(..), f's answer known by Rel -/
theorem sx_setA (i : Nat) {x : Str} {px : Pos} (O : Ok1 X) (F : GFn X.prog X.w X.K X.mg X.base k n ps (spA X.K m Pre Rel)) (hr : Room k X.A) (ha : EvAA X (e :: es) ρ as) (hP : Pre as) (kk : ∀ r, Rel as r → P (.nx (ρ.set i (slA r)))) (hl : as.length = m := by rfl)
    (hg : Gl X n := by rfl) (hdb : (n == ("__debug__" : Str)) = false := by decide) (he : starEach (e :: es) X.env = (false, eval e X.env) :: starEach es X.env := by rfl) (hpl : (backTo pos (starEach es X.env)).any (·.1) = false := by rfl)
    (hi : X.N[i]? = some x := by rfl) (hx : Loc X.env.scope x := by first | exact .inl rfl | exact .inr rfl)
    (hs : swapsWith (.Call (.Name n p) (e :: es) [] pos) (some (.Name x px)) q.line X.env = pure false := by rfl) (hf : X.fn x = true ∨ X.env.scope.names.lookup x = some .local := by first | exact .inl rfl | exact .inr rfl) :
    SxS X (.Assign [.Name x px] (.Call (.Name n p) (e :: es) [] pos) q) ρ P := fun Hs0 H0 σ Hs H S E Fi =>
  ⟨_, ps_set (i := i) O.nd hi hx (pe_g F hr pa_w hg hdb he hpl) hs hf, ha σ Hs H S.en S.gr.sh _ fun us Hs1 H1 g1 d1 => ⟨Hs1, as, g1.sh, by rw [List.append_nil]; exact d1, hl, hP, fun r hr => by
    have := kk r hr
    cases r with
    | d d => exact fun v Hs2 H2 g2 dv => Fi.nx _ this _ Hs2 H2 ((S.step (g1.trans g2)).set dv)
    | l ds => exact fun a vs Hs2 H2 g2 q1 q2 q3 dv => Fi.nx _ this _ Hs2 H2 (S.newL (g1.trans g2) q1 (g1.hh.back q2) q3 dv)⟩⟩
end
/-! ### a def with such arguments, by its body -/
def slP : Ar → Sl
  | .d d => .d d
  | .l ds => .ro ds
def slotsA (N : List Str) (as : List Ar) : List Sl := as.map slP ++ List.replicate (N.length - as.length) .no
def RetA (R : Ar → Prop) : Out → Prop
  | .rt x => R (.d x)
  | .rl ds => R (.l ds)
  | .nx _ => R (.d .non)
  | _ => False
theorem startA {K : PySem.W.Frag} {Hs H : Hp} {N : List Str} {vs : List V} {as : List Ar} (e : Ex Hs H) (h : ArVs K Hs H vs as) : Stt K Hs H Hs H (L2.start N vs) (slotsA N as) := by
  have hl := h.length
  refine ⟨Gr.refl e, ?_, fun i x v q q2 => ?_, fun i j b h1 h2 => ?_⟩
  · unfold L2.start slotsA
    simp [hl]
  · unfold slotsA at q
    by_cases hi : i < as.length
    · rw [List.getElem?_append_left (by simpa using hi), List.getElem?_map] at q
      cases z : as[i]? with
      | none => rw [z] at q; cases q
      | some x =>
        rw [z] at q
        cases q
        obtain ⟨u, h1, h2⟩ := h.get z
        unfold L2.start at q2
        rw [List.getElem?_append_left (by simpa [hl] using hi), List.getElem?_map, h1] at q2
        have q3 := (Option.some.inj q2)
        subst q3
        cases x with
        | d d => exact ⟨u, rfl, h2⟩
        | l ds => obtain ⟨a, vs, r1, r2, r3⟩ := h2; exact ⟨a, vs, by rw [r1], r2, r3⟩
    · rw [List.getElem?_append_right (by simpa using hi), List.getElem?_replicate] at q
      split at q
      · cases q; exact True.intro
      · cases q
  · obtain ⟨x, v, q1, _, q3⟩ := mem_ow h1
    have m := List.mem_of_getElem? q1
    unfold slotsA at m
    rcases List.mem_append.mp m with z | z
    · obtain ⟨y, _, e⟩ := List.mem_map.mp z
      obtain ⟨a, _, ⟨c, gs, rfl, _⟩ | ⟨a', gs, rfl, _⟩⟩ := mem_ow1 q3 <;> cases y <;> cases e
    · rw [List.mem_replicate] at z
      obtain ⟨a, _, ⟨c, gs, rfl, _⟩ | ⟨a', gs, rfl, _⟩⟩ := mem_ow1 q3 <;> exact nomatch z.2
theorem fin_A {K : PySem.W.Frag} {Hs H : Hp} {E : Ends} {Q : VK} {R : Ar → Prop} (h : ∀ r, R r → PostA K Hs H Q r) (hE : ∀ v H', Q v H' → E.rt v H') (hN : ∀ σ H', Q .non H' → E.nx σ H') : Fin K Hs H E (RetA R) :=
  ⟨fun ρ' h' σ' Hs' H' S' => hN _ _ (h (.d .non) h' _ Hs' H' S'.gr .non), fun d h' v Hs' H' g dv => hE _ _ (h (.d d) h' v Hs' H' g dv), fun ds h' a vs Hs' H' g q1 q2 q3 dv => hE _ _ (h (.l ds) h' a vs Hs' H' g q1 q2 q3 dv), fun _ h => False.elim h, fun _ h => False.elim h⟩
theorem fn_sxA {P : Program} {w : World} {K : PySem.W.Frag} {mg : Str → Option Value} {base : Heap} {x qual : Str} {st : Stmt} {f : Addr} {fd : FuncData} {N ps : List Str} {k n : Nat} {Pre : List Ar → Prop} {Rel : List Ar → Ar → Prop} (F : Fun K x qual st f fd) (S : FnScope N ps (defScope st)) (hn : ps.length = n)
    (hb : ∀ cdv A outer s H E as, Room k (A.deeper (PyProof.Rows.envOfC qual (defScope st) s.heap.objs.size f cdv)) → as.length = n → Pre as → SxB ((cxOf CX0 P w K mg base N qual (defScope st) f cdv A outer s H E).nox) (defBody st) (slotsA N as) (RetA (Rel as))) :
    FnOk P w K mg base CX0 (k + 1) f fd ps (spA K n Pre Rel) := by
  refine F.ok S (fun vs H Q E h => ?_) (fun cdv A outer s H vs Q E hr h => ?_)
  · obtain ⟨Hs, as, e, dv, hl, _⟩ := h
    rw [dv.length, hl, hn]
  · obtain ⟨Hs, as, e, dv, hl, hG, hQ⟩ := h
    exact hb cdv A outer s H E as hr hl hG Hs H _ Hs H (startA e dv) _ (fin_A hQ (fun v H' h => h) fun σ H' h => h)
/-- a def whose arguments may be lists -/
theorem DefAt.sxA {P : Program} {w : World} {K : PySem.W.Frag} {mg : Str → Option Value} {base : Heap} {x : Str} {st : Stmt} {N ps : List Str} {k n : Nat} {Pre : List Ar → Prop} {Rel : List Ar → Ar → Prop} (T : DefAt K mg x st)
    (hb : ∀ (kV doc pm : Value) (an : Option Addr) (cdv ct : Value) (us : List Value), us.length = ps.length → bindArgs (PySem.W.fnOf x x (defArgs st) (defBody st) (defScope st) .none kV doc pm an cdv ct) ⟨us, []⟩ = pure (ps.zip us))
    (S : FnScope N ps (defScope st)) (hn : ps.length = n)
    (h : ∀ f cdv A outer s H E as, Room k (A.deeper (PyProof.Rows.envOfC x (defScope st) s.heap.objs.size f cdv)) → as.length = n → Pre as → Ok1 ((cxOf CX0 P w K mg base N x (defScope st) f cdv A outer s H E).nox) →
      SxB ((cxOf CX0 P w K mg base N x (defScope st) f cdv A outer s H E).nox) (defBody st) (slotsA N as) (RetA (Rel as))) : GFn P w K mg base (k + 1) x ps (spA K n Pre Rel) :=
  T.gfn hb fun f fd F => fn_sxA F S hn fun cdv A outer s H E as hr hl hG => h f cdv A outer s H E as hr hl hG ⟨rfl, S.nd, PassesOwn.never⟩
end DL

set_option Elab.async false
set_option maxRecDepth 100000
set_option maxHeartbeats 400000
set_option linter.all false
/-! DO: instances of one's own that change -/
namespace DL
open PySem L2
/-- an attribute is set -/
def putA (f : Str) (d : D) : List (Str × D) → List (Str × D)
  | [] => [(f, d)]
  | (g, x) :: r => if g = f then (g, d) :: r else (g, x) :: putA f d r
section
variable {K : PySem.W.Frag} {Hs0 H0 Hs H Hs' H' : Hp} {σ : L2.St} {ρ ρ' : List Sl} {i : Nat} {d : D} {ds : List D} {c c' : Cell} {gs : List (Addr × Cell)} {v : V} {x : Sl} {a b p : Addr} {o : HO}
theorem DFs.putA {f : Str} : ∀ {vs : List (Str × V)} {fs : List (Str × D)}, DFs K H vs fs → DV K H v d → DFs K H (putF f v vs) (putA f d fs)
  | _, _, .nil, h => .cons h .nil
  | (m, u) :: vs, (_, y) :: fs, .cons hv hs, h => by
    unfold putF DL.putA
    by_cases e : m = f
    · rw [if_pos e, if_pos e]
      exact .cons h hs
    · rw [if_neg e, if_neg e]
      exact .cons hv (DFs.putA hs h)
/-- one of the objects changes -/
theorem Stt.mutO {k : Nat} (S : Stt K Hs0 H0 Hs H σ ρ) (hi : ρ[i]? = some (.obj a gs)) (hg : gs[k]? = some (p, c')) {c2 : Cell} (hc : CellV K Hs c2 o) : Stt K Hs0 H0 Hs (upd H p o) σ (ρ.set i (.obj a (gs.set k (p, c2)))) := by
  obtain ⟨r1, r7, r8, r6⟩ := S.obj i hi
  have hm : (p, c') ∈ gs := List.mem_of_getElem? hg
  have hpa : p ∈ gs.map (·.1) := List.mem_map_of_mem hm
  have hkeys : (gs.set k (p, c2)).map (·.1) = gs.map (·.1) := by
    rw [List.map_set]
    refine set_same ?_
    rw [List.getElem?_map, hg]
    rfl
  obtain ⟨x1, z2, z3, z4, z5⟩ := r7 _ hm
  have := S.put (i := i) (x := .obj a (gs.set k (p, c2))) (v := some (.ref a)) (Hs' := Hs) (H' := upd H p o) ⟨S.gr.ss, S.gr.sh.mut z3, S.gr.hh.mut z4, S.gr.fr⟩ (Ex.refl _) (fun j hj b hb => ?_) ⟨rfl, fun x hx => ?_, by rw [hkeys]; exact r8⟩ (fun j hj b hb hb' => ?_)
  · rwa [set_same r1] at this
  · refine ⟨upd_ne fun z => ?_, (S.keep hb).2⟩
    subst z
    exact hj (S.dis j i b hb (by rw [r6]; exact hpa))
  · obtain ⟨j, hj⟩ := List.mem_iff_getElem?.mp hx
    rcases get_set hj with ⟨rfl, rfl⟩ | ⟨q, hj'⟩
    · exact ⟨o, upd_same, z3, z4, hc⟩
    · have hxm := List.mem_of_getElem? hj'
      refine (r7 x hxm).keep (Ex.refl _) (upd_ne fun z => q ?_) (by obtain ⟨_, _, z, _⟩ := r7 x hxm; exact z)
      refine nodup_at r8 (x := p) ?_ ?_
      · rw [List.getElem?_map, hg]; rfl
      · rw [List.getElem?_map, hj', ← z]; rfl
  · refine hj (S.dis j i b hb ?_)
    rw [r6, ← hkeys]
    exact hb'
/-- a further object: a new list -/
theorem Stt.addO {vs : List V} (S : Stt K Hs0 H0 Hs H σ ρ) (hi : ρ[i]? = some (.obj a gs)) (g : Gr Hs H Hs' H') (h1 : H' p = some (.lst vs)) (h2 : H p = none) (h3 : Hs' p = none) (dv : DVs K Hs' vs ds) : Stt K Hs0 H0 Hs' H' σ (ρ.set i (.obj a (gs ++ [(p, .lst ds)]))) := by
  have S' := S.step g
  obtain ⟨r1, r7, r8, r6⟩ := S'.obj i hi
  have old : ∀ j, p ∉ ow σ ρ j := fun j hb => by
    obtain ⟨es, ws, q, _⟩ := S.owner hb
    rw [h2] at q
    cases q
  have ho : OwnL K H0 Hs' H' p (.lst ds) := ⟨.lst vs, h1, h3, S.gr.hh.back h2, dv⟩
  have := S'.put (i := i) (x := .obj a (gs ++ [(p, .lst ds)])) (v := some (.ref a)) S'.gr (Ex.refl _) (fun j _ b hb => S'.keep hb) ⟨rfl, fun x hx => ?_, ?_⟩ fun j hj b hb hb' => ?_
  · rwa [set_same r1] at this
  · rcases List.mem_append.mp hx with z | z
    · exact r7 x z
    · rw [List.mem_singleton.mp z]; exact ho
  · have n1 := old i
    rw [r6] at n1
    rw [List.map_append]
    exact List.nodup_append.mpr ⟨r8, by simp, fun x hx y hy z => n1 (by
      have : y = p := by simpa using hy
      rw [← this, ← z]; exact hx)⟩
  · have hb2 : b ∈ (gs ++ [(p, Cell.lst ds)]).map (·.1) := hb'
    rw [List.map_append] at hb2
    rcases List.mem_append.mp hb2 with z | z
    · exact hj (S'.dis j i b hb (by rw [r6]; exact z))
    · have : b = p := by simpa using z
      exact old j (this ▸ hb)
end
section
variable {X : Cx} {ρ : Rho} {P : Out → Prop} {e o : Expr} {pos p : Pos} {d : D} {i j : Nat} {n f : Str} {ds es : List D} {c : Cell} {gs : List (Addr × Cell)} {a b C : Addr} {fs : List (Str × D)}
/-- o.f of an own instance -/
theorem e_fldG (i : Nat) (ho : EvD X o ρ (.ob a)) (hd : ρ[i]? = some (.obj b gs)) (hg : (a, .ins C fs) ∈ gs) (hc : Cls X.K C) (hn : NoAttr X.K C f) (hl : fs.lookup f = some d) (hb : attributeBase o f X.env (eval o X.env) = eval o X.env := by rfl) : EvD X (.Attribute o f pos) ρ d := fun σ Hs H E ex Q q =>
  ⟨_, pe_fld pe_w hb, ho σ Hs H E ex _ fun u Hs1 H1 g1 d1 => by
    cases d1
    obtain ⟨_, h⟩ := (E.step g1).obj i b gs hd
    obtain ⟨x, h1, h2⟩ := h _ hg
    obtain ⟨dx, fvs, rfl, hf⟩ := h2.ins
    obtain ⟨v, hv, dv⟩ := hf.lookup hl
    exact ⟨_, C, _, _, v, rfl, h1.ins, hc, hn, hv, q v Hs1 H1 g1 dv⟩⟩
/-- o.f = e, o an own instance, e data -/
theorem sx_fldG (i m : Nat) {tp : Pos} (ho : EvD X o ρ (.ob a)) (h : EvD X e ρ d) (hd : ρ[i]? = some (.obj b gs)) (hg : gs[m]? = some (a, .ins C fs)) (hc : Cls X.K C) (hn : NoAttr X.K C f) (hz : fs.length < 1000) (k : P (.nx (ρ.set i (.obj b (gs.set m (a, .ins C (putA f d fs)))))))
    (hs : swapsWith e (some (.Attribute o f tp)) pos.line X.env = pure false := by rfl) : SxS X (.Assign [.Attribute o f tp] e pos) ρ P := fun Hs0 H0 σ Hs H S E F =>
  ⟨_, ps_fld pe_w pe_w hs, h σ Hs H S.en S.gr.sh _ fun v Hs1 H1 g1 dv => ho σ Hs1 H1 (S.step g1).en g1.sh _ fun u Hs2 H2 g2 du => by
    cases du
    have S2 := (S.step g1).step g2
    obtain ⟨q1, q2, q3, q4⟩ := S2.obj i hd
    obtain ⟨x, r1, r2, r3, r4⟩ := q2 _ (List.mem_of_getElem? hg)
    obtain ⟨dx, fvs, rfl, hf⟩ := r4.ins
    exact ⟨a, C, dx, fvs, rfl, r1, hc, hn, by rw [hf.length]; exact hz, F.nx _ k _ Hs2 _ (S2.mutO hd hg (c2 := .ins C (putA f d fs)) (o := .ins C dx (putF f v fvs)) ⟨rfl, hf.putA (dv.mono g2.ss)⟩)⟩⟩
end
/-! ### __init__ -/
/-- what an __init__ promises: Rel tells the fields, all data -/
def spI (K : PySem.W.Frag) (C : Addr) (n : Nat) (Pre : List Ar → Prop) (Rel : List Ar → List (Str × D) → Prop) : Sp := fun vs H Q _ => ∃ Hs p dx us as, vs = .ref p :: us ∧ H p = some (.ins C dx []) ∧ Hs p = none ∧ Ex Hs H ∧ ArVs K Hs H us as ∧ as.length = n ∧ Pre as ∧
  ∀ fs, Rel as fs → ∀ Hs' H' fvs dx', Ex Hs Hs' → Ex Hs' H' → (∀ b o, b ≠ p → H b = some o → H' b = some o) → (∀ b, Hs b = none → H b ≠ none → Hs' b = none) → H' p = some (.ins C dx' fvs) → DFs K Hs' fvs fs → Q .non H'
def RetI (p C : Addr) (R : List (Str × D) → Prop) : Out → Prop
  | .nx ρ' => ∃ fs gs, ρ'[0]? = some (.obj p gs) ∧ (p, .ins C fs) ∈ gs ∧ R fs
  | _ => False
/-- the heap without p -/
def del (H : Hp) (p : Addr) : Hp := fun b => if b = p then none else H b
theorem del_ne {H : Hp} {p b : Addr} (h : b ≠ p) : del H p b = H b := if_neg h
theorem del_same {H : Hp} {p : Addr} : del H p p = none := if_pos rfl
theorem startI {K : PySem.W.Frag} {Hs H : Hp} {N : List Str} {us : List V} {as : List Ar} {p C dx : Addr} (e : Ex Hs H) (h : ArVs K Hs H us as) (hp : H p = some (.ins C dx [])) (hs : Hs p = none) (hN : as.length < N.length) :
    Stt K Hs (del H p) Hs H (L2.start N (.ref p :: us)) (.obj p [(p, .ins C [])] :: slotsA (N.drop 1) as) := by
  have es : Ex Hs (del H p) := fun b o hb => by
    rw [del_ne (ne_of_none hb hs)]
    exact e b o hb
  have hh : Ex (del H p) H := fun b o hb => by
    unfold del at hb
    split at hb
    · cases hb
    · exact hb
  have h2 : ArVs K Hs (del H p) us as := by
    have ne : ∀ (a : Addr) (ws : List V), Rd H a (.lst ws) → a ≠ p := fun a ws hr z => by
      subst z
      rcases hr with hr | ⟨q, hr⟩ <;> (rw [hp] at hr; cases hr)
    have one : ∀ (v : V) (x : Ar), ArV K Hs H v x → ArV K Hs (del H p) v x := fun v x hx => by
      cases x with
      | d d => exact hx
      | l ds =>
        obtain ⟨a, ws, r1, r2, r3⟩ := hx
        refine ⟨a, ws, r1, ?_, r3⟩
        unfold Rd
        rw [del_ne (ne a ws r2)]
        exact r2
    have all : ∀ (us : List V) (as : List Ar), ArVs K Hs H us as → ArVs K Hs (del H p) us as := fun us as h => by
      induction h with
      | nil => exact .nil
      | cons h _ ih => exact .cons (one _ _ h) ih
    exact all us as h
  have S0 := (startA (N := N.drop 1) es h2)
  have est : L2.start N (.ref p :: us) = some (.ref p) :: L2.start (N.drop 1) us := by
    unfold L2.start
    simp
    omega
  rw [est]
  refine ⟨⟨Ex.refl _, e, hh, fun _ h _ => h⟩, by rw [List.length_cons, List.length_cons, S0.len], fun i x v q1 q2 => ?_, fun i j b q1 q2 => ?_⟩
  · cases i with
    | zero =>
      simp at q1 q2
      subst q1
      subst q2
      refine ⟨rfl, fun g hg => ?_, by simp⟩
      rw [List.mem_singleton.mp hg]
      exact ⟨_, hp, hs, del_same, rfl, .nil⟩
    | succ i =>
      have := S0.all i x v (by simpa using q1) (by simpa using q2)
      cases x with
      | no => exact True.intro
      | d d => exact this
      | own c gs =>
        have q1' : (slotsA (N.drop 1) as)[i]? = some (.own c gs) := by simpa using q1
        have m := List.mem_of_getElem? q1'
        unfold slotsA at m
        rcases List.mem_append.mp m with z | z
        · obtain ⟨y, _, e⟩ := List.mem_map.mp z
          cases y <;> cases e
        · rw [List.mem_replicate] at z
          exact nomatch z.2
      | obj c gs =>
        have q1' : (slotsA (N.drop 1) as)[i]? = some (.obj c gs) := by simpa using q1
        have m := List.mem_of_getElem? q1'
        unfold slotsA at m
        rcases List.mem_append.mp m with z | z
        · obtain ⟨y, _, e⟩ := List.mem_map.mp z
          cases y <;> cases e
        · rw [List.mem_replicate] at z
          exact nomatch z.2
      | ro ds => exact this
  · have none_ : ∀ m, b ∉ ow (some (V.ref p) :: L2.start (N.drop 1) us) (.obj p [(p, .ins C [])] :: slotsA (N.drop 1) as) (m + 1) := fun m hb => by
      obtain ⟨x, v, r1, _, r3⟩ := mem_ow hb
      have q1' : (slotsA (N.drop 1) as)[m]? = some x := by simpa using r1
      have m := List.mem_of_getElem? q1'
      unfold slotsA at m
      rcases List.mem_append.mp m with z | z
      · obtain ⟨y, _, e⟩ := List.mem_map.mp z
        obtain ⟨a, _, ⟨c, gs, rfl, _⟩ | ⟨a', gs, rfl, _⟩⟩ := mem_ow1 r3 <;> cases y <;> cases e
      · rw [List.mem_replicate] at z
        obtain ⟨a, _, ⟨c, gs, rfl, _⟩ | ⟨a', gs, rfl, _⟩⟩ := mem_ow1 r3 <;> exact nomatch z.2
    cases i with
    | zero => cases j with
      | zero => rfl
      | succ j => exact absurd q2 (none_ j)
    | succ i => exact absurd q1 (none_ i)
theorem fn_init {P : Program} {w : World} {K : PySem.W.Frag} {mg : Str → Option Value} {base : Heap} {C : Addr} {m qual : Str} {st : Stmt} {f : Addr} {fd : FuncData} {N ps : List Str} {k n : Nat} {Pre : List Ar → Prop} {Rel : List Ar → List (Str × D) → Prop} (F : Fun K m qual st f fd) (S : FnScope N ps (defScope st)) (hn : ps.length = n + 1) (hN : n < N.length)
    (hb : ∀ cdv A outer s H E as p, Room k (A.deeper (PyProof.Rows.envOfC qual (defScope st) s.heap.objs.size f cdv)) → as.length = n → Pre as → Ok1 ((cxOf CX0 P w K mg base N qual (defScope st) f cdv A outer s H E).nox) →
      SxB ((cxOf CX0 P w K mg base N qual (defScope st) f cdv A outer s H E).nox) (defBody st) (.obj p [(p, .ins C [])] :: slotsA (N.drop 1) as) (RetI p C (Rel as))) :
    FnOk P w K mg base CX0 (k + 1) f fd ps (spI K C n Pre Rel) := by
  refine F.ok S (fun vs H Q E h => ?_) (fun cdv A outer s H vs Q E hr h => ?_)
  · obtain ⟨Hs, p, dx, us, as, rfl, _, _, _, dv, hl, _⟩ := h
    rw [List.length_cons, dv.length, hl, hn]
  · obtain ⟨Hs, p, dx, us, as, rfl, hp, hs, e, dv, hl, hG, hQ⟩ := h
    refine hb cdv A outer s H E as p hr hl hG ⟨rfl, S.nd, PassesOwn.never⟩ Hs (del H p) _ Hs H (startI e dv hp hs (by rw [hl]; exact hN)) _ ⟨fun ρ' h' σ' Hs' H' S' => ?_, fun _ h => False.elim h, fun _ h => False.elim h, fun _ h => False.elim h, fun _ h => False.elim h⟩
    obtain ⟨fs, gs, h1, h2, h3⟩ := h'
    obtain ⟨q1, q2, q3, q4⟩ := S'.obj 0 h1
    obtain ⟨x, r1, r2, r3, r4⟩ := q2 _ h2
    obtain ⟨dx', fvs, rfl, hf⟩ := r4.ins
    refine hQ fs h3 Hs' H' fvs dx' S'.gr.ss S'.gr.sh (fun b o hb hbo => S'.gr.hh b o (by rw [del_ne hb]; exact hbo)) (fun b z1 z2 => ?_) r1 hf
    by_cases z : b = p
    · subst z; exact r2
    · exact S'.gr.fr b z1 (by rw [del_ne z]; exact z2)
section
variable {X : Cx} {ρ : Rho} {e : Expr} {es : List Expr} {C : Addr} {fs : List (Str × D)} {pos : Pos} {ps : List Str} {k n : Nat} {as : List Ar}
/-- C(..): an instance whose fields are data -/
theorem e_makeA {c : Str} {p : Pos} {fI : Addr} {fdI : FuncData} {Pre : List Ar → Prop} {Rel : List Ar → List (Str × D) → Prop} (M : Mk X.K C fI) (F : FnOk X.prog X.w X.K X.mg X.base CX0 k fI fdI ps (spI X.K C n Pre Rel)) (hr : Room (k + 1) X.A) (hm : X.mg c = some (.ref C)) (hb : Binds X.K fdI ps [])
    (ha : EvAA X (e :: es) ρ as) (hP : Pre as) (hR : ∀ gs, Rel as gs → gs = fs) (hn : as.length = n := by rfl) (hg : Gl X c := by rfl) (hdb : (c == ("__debug__" : Str)) = false := by decide) (he : starEach (e :: es) X.env = (false, eval e X.env) :: starEach es X.env := by rfl) (hpl : (backTo pos (starEach es X.env)).any (·.1) = false := by rfl) :
    EvD X (.Call (.Name c p) (e :: es) [] pos) ρ (.ins C fs) := fun σ Hs H E ex Q q =>
  ⟨_, pe_make M F hr hg hm hb .nil (E := E0) pass0 pa_w hdb he hpl, ha σ Hs H E ex _ fun us Hs1 H1 g1 d1 x dx nx ndx nex => by
    have e1 : Ex H1 (upd (upd H1 dx (.own x)) x (.ins C dx [])) := (Ex.new ndx).mut nx
    have d1' : ArVs X.K Hs1 (upd (upd H1 dx (.own x)) x (.ins C dx [])) us as := by
      have : ∀ (us : List V) (as : List Ar), ArVs X.K Hs1 H1 us as → ArVs X.K Hs1 (upd (upd H1 dx (.own x)) x (.ins C dx [])) us as := fun us as h => by
        induction h with
        | nil => exact .nil
        | cons h _ ih => exact .cons (h.step (Gr.big g1.sh e1)) ih
      exact this us as d1
    refine ⟨Hs1, x, dx, us, as, by rw [List.append_nil], upd_same, g1.sh.back nx, g1.sh.trans e1, d1', hn, hP, fun gs hgs Hs2 H2 fvs dx' k1 k2 k3 k4 k5 k6 => ⟨rfl, ?_⟩⟩
    rw [hR gs hgs] at k6
    have nx2 : Hs2 x = none := k4 x (g1.sh.back nx) (by rw [upd_same]; exact fun z => nomatch z)
    refine q _ (upd Hs2 x (.ins C dx' fvs)) H2 (g1.trans ⟨k1.trans (Ex.new nx2), fun b o hb' => ?_, fun b o hb' => ?_, fun b h1 h2 => ?_⟩) (.ins upd_same (k6.mono (Ex.new nx2)))
    · by_cases z : b = x
      · subst z; rw [upd_same] at hb'; cases hb'; exact k5
      · rw [upd_ne z] at hb'; exact k2 _ _ hb'
    · have z : b ≠ x := ne_of_none hb' nx
      exact k3 b o z (e1 _ _ hb')
    · have z : b ≠ x := fun z => by subst z; exact h2 nx
      rw [upd_ne z]
      refine k4 b h1 ?_
      cases w : H1 b with
      | none => exact absurd w h2
      | some o => rw [e1 _ _ w]; exact fun z => nomatch z⟩
end
end DL

set_option Elab.async false
set_option maxRecDepth 100000
set_option maxHeartbeats 4000000
set_option linter.all false
/-! the text: where the law's helpers stand -/
namespace Lw
open PySem L2 DL
def topS (i : Nat) : Stmt := PySem.Challenge.pw_marksandbranches_k76_versions_joined_and.main.body.getD i (.Pass ⟨0, 0, 0, 0⟩)
abbrev s_stream : Stmt := topS 3
abbrev s_whole : Stmt := topS 4
abbrev s_same : Stmt := topS 5
/-! ### _law_whole, _law_same: of data that are the same -/
section
variable {P : Program} {w : World} {K : PySem.W.Frag} {mg : Str → Option Value} {base : Heap}
structure Blt (mg : Str → Option Value) : Prop where
  isinstance : mg "isinstance" = none
  int : mg "int" = none
  bool : mg "bool" = none
  str : mg "str" = none
  list : mg "list" = none
  tuple : mg "tuple" = none
  len : mg "len" = none
  range : mg "range" = none
theorem sc_whole : FnScope ["actual"] ["actual"] (defScope s_whole) := ⟨rfl, rfl, rfl, by decide +kernel, rfl, by decide +kernel, by decide +kernel⟩
/-- isinstance(x, T) -/
theorem e_isi {X : Cx} {ρ : Rho} {a b : Expr} {x : D} {T S : String} {k : Bool} {p pos : Pos} (hm : X.mg "isinstance" = none) (ha : EvD X a ρ x) (hb : EvD X b ρ (.ty S)) (e : tyD x = some T) (hk : kitB T S = some k) (hg : Gl X "isinstance" := by rfl)
    (h1 : starEach [a, b] X.env = (false, eval a X.env) :: starEach [b] X.env := by rfl) (h2 : starEach [b] X.env = (false, eval b X.env) :: starEach [] X.env := by rfl) (hpl : (backTo pos (starEach [b] X.env)).any (·.1) = false := by rfl) :
    EvD X (.Call (.Name "isinstance" p) [a, b] [] pos) ρ (.bl k) :=
  e_callB call_isi hm (by decide +kernel) (ea_cons ha (ea_cons hb ea_nil h2) h1) (rc_isi e hk) hg (by decide) (by decide) h1 hpl
theorem kit_int_int : kitB "int" "int" = some true := by decide +kernel
theorem kit_int_bool : kitB "int" "bool" = some false := by decide +kernel
theorem g_whole (T : DefAt K mg "_law_whole" s_whole) (B : Blt mg) : GFn P w K mg base 1 "_law_whole" ["actual"] (spD K 1 fun ds d => ∃ i, ds = [.int i] ∧ d = .bl true) := by
  refine T.sx (fun _ _ _ _ _ _ us hl => match us, hl with | [_], _ => rfl) sc_whole rfl fun f cdv A outer s H E ds d hr hl hG O => ?_
  obtain ⟨i, rfl, rfl⟩ := hG
  refine sx_cons (sx_ret (d := .bl (true && !false)) ?_ rfl)
  exact e_and (e_isi B.isinstance (nm 0 rfl rfl) (cty B.int (by decide +kernel)) rfl kit_int_int) fun _ => e_one (e_not (e_isi B.isinstance (nm 0 rfl rfl) (cty B.bool (by decide +kernel)) rfl kit_int_bool))

theorem sc_same : FnScope ["actual", "due", "k"] ["actual", "due"] (defScope s_same) := ⟨rfl, rfl, rfl, by decide +kernel, rfl, by decide +kernel, by decide +kernel⟩
mutual
/-- how deep data go -/
def dep : D → Nat
  | .tup l => deps l + 1
  | .lst l => deps l + 1
  | _ => 0
def deps : List D → Nat
  | [] => 0
  | d :: r => max (dep d) (deps r)
end
mutual
/-- data that the law may compare: no objects, lists not too long -/
def fit : D → Bool
  | .tup l => decide (l.length ≤ 1000000) && fits l
  | .lst l => decide (l.length ≤ 1000000) && fits l
  | .non => true
  | .bl _ => true
  | .int _ => true
  | .str _ => true
  | _ => false
def fits : List D → Bool
  | [] => true
  | d :: r => fit d && fits r
end
theorem fits_at : ∀ {l : List D} {i : Nat} {d : D}, fits l = true → l[i]? = some d → fit d = true ∧ dep d ≤ deps l
  | x :: r, 0, d, h, e => by
    simp at e; subst e
    rw [fits, Bool.and_eq_true] at h
    rw [deps]
    exact ⟨h.1, Nat.le_max_left _ _⟩
  | x :: r, i + 1, d, h, e => by
    rw [fits, Bool.and_eq_true] at h
    obtain ⟨h1, h2⟩ := fits_at (l := r) (i := i) (d := d) h.2 (by simpa using e)
    rw [deps]
    exact ⟨h1, Nat.le_trans h2 (Nat.le_max_right _ _)⟩
  | [], _, _, _, e => by simp at e
theorem kits : kitB "NoneType" "bool" = some false ∧ kitB "NoneType" "int" = some false ∧ kitB "bool" "bool" = some true ∧ kitB "str" "bool" = some false ∧ kitB "str" "int" = some false ∧ kitB "str" "str" = some true ∧
    kitB "list" "bool" = some false ∧ kitB "list" "int" = some false ∧ kitB "list" "str" = some false ∧ kitB "list" "list" = some true ∧ kitB "list" "tuple" = some false ∧
    kitB "tuple" "bool" = some false ∧ kitB "tuple" "int" = some false ∧ kitB "tuple" "str" = some false ∧ kitB "tuple" "list" = some false ∧ kitB "tuple" "tuple" = some true := by decide +kernel
/-- _law_same(x, x), x data of depth at most n -/
def GSame (n : Nat) (ds : List D) (d : D) : Prop := ∃ x, ds = [x, x] ∧ fit x = true ∧ dep x ≤ n ∧ d = .bl true
theorem g_same (T : DefAt K mg "_law_same" s_same) (TW : DefAt K mg "_law_whole" s_whole) (B : Blt mg) : ∀ n, GFn P w K mg base (n + 2) "_law_same" ["actual", "due"] (spD K 2 (GSame n)) := by
  intro n
  induction n using Nat.strongRecOn with
  | _ n ih =>
    refine T.sx (fun _ _ _ _ _ _ us hl => match us, hl with | [_, _], _ => rfl) sc_same rfl fun f cdv A outer s H E ds d hr hl hG O => ?_
    obtain ⟨x, rfl, hx, hd, rfl⟩ := hG
    have GW := g_whole (P := P) (w := w) (base := base) TW B
    obtain ⟨k1, k2, k3, k4, k5, k6, k7, k8, k9, k10, k11, k12, k13, k14, k15, k16⟩ := kits
    have hu := hr.units
    show SxB _ _ [.d x, .d x, .no] _
    cases x with
    | non => exact sx_cons (sx_ifT (t_cmp op_isN (nm 1 rfl rfl) cn rv_isN) (sx_cons (sx_ret (e_cmp op_isN (nm 0 rfl rfl) cn rv_isN) rfl)))
    | bl b =>
      refine sx_cons (sx_skip (t_cmp op_isN (nm 1 rfl rfl) cn rv_isN) ?_)
      refine sx_cons (sx_ifT (t_val (e_isi B.isinstance (nm 1 rfl rfl) (cty B.bool (by decide +kernel)) rfl k3)) (sx_cons (sx_ret (d := .bl (true && decide (b = b))) ?_ ?_)))
      · exact e_and (e_isi B.isinstance (nm 0 rfl rfl) (cty B.bool (by decide +kernel)) rfl k3) fun _ => e_one (e_cmp op_eq (nm 0 rfl rfl) (nm 1 rfl rfl) rv_eqB)
      · show D.bl (true && decide (b = b)) = .bl true
        simp
    | int i =>
      refine sx_cons (sx_skip (t_cmp op_isN (nm 1 rfl rfl) cn rv_isN) ?_)
      refine sx_cons (sx_skip (t_val (e_isi B.isinstance (nm 1 rfl rfl) (cty B.bool (by decide +kernel)) rfl kit_int_bool)) ?_)
      refine sx_cons (sx_ifT (t_val (e_isi B.isinstance (nm 1 rfl rfl) (cty B.int (by decide +kernel)) rfl kit_int_int)) (sx_cons (sx_ret (d := .bl (true && decide (i = i))) ?_ ?_)))
      · exact e_and (e_call GW (hr.mono (by omega)) (ea_cons (nm 0 rfl rfl) ea_nil) ⟨i, rfl, rfl⟩) fun _ => e_one (e_cmp op_eq (nm 0 rfl rfl) (nm 1 rfl rfl) rv_eqI)
      · show D.bl (true && decide (i = i)) = .bl true
        simp
    | str i =>
      refine sx_cons (sx_skip (t_cmp op_isN (nm 1 rfl rfl) cn rv_isN) ?_)
      refine sx_cons (sx_skip (t_val (e_isi B.isinstance (nm 1 rfl rfl) (cty B.bool (by decide +kernel)) rfl k4)) ?_)
      refine sx_cons (sx_skip (t_val (e_isi B.isinstance (nm 1 rfl rfl) (cty B.int (by decide +kernel)) rfl k5)) ?_)
      refine sx_cons (sx_ifT (t_val (e_isi B.isinstance (nm 1 rfl rfl) (cty B.str (by decide +kernel)) rfl k6)) (sx_cons (sx_ret (d := .bl (true && decide (i = i))) ?_ ?_)))
      · exact e_and (e_isi B.isinstance (nm 0 rfl rfl) (cty B.str (by decide +kernel)) rfl k6) fun _ => e_one (e_cmp op_eq (nm 0 rfl rfl) (nm 1 rfl rfl) rv_eqS)
      · show D.bl (true && decide (i = i)) = .bl true
        simp
    | ty n => rw [fit] at hx <;> first | cases hx | (intros; contradiction)
    | rdl n => rw [fit] at hx <;> first | cases hx | (intros; contradiction)
    | ob n => rw [fit] at hx <;> first | cases hx | (intros; contradiction)
    | ins n => rw [fit] at hx <;> first | cases hx | (intros; contradiction)
    | dK n => rw [fit] at hx <;> first | cases hx | (intros; contradiction)
    | dT n => rw [fit] at hx <;> first | cases hx | (intros; contradiction)
    | lst l =>
      rw [dep] at hd
      rw [fit, Bool.and_eq_true, decide_eq_true_eq] at hx
      obtain ⟨m, rfl⟩ : ∃ m, n = m + 1 := ⟨n - 1, by omega⟩
      have GS := ih m (Nat.lt_succ_self m)
      refine sx_cons (sx_skip (t_cmp op_isN (nm 1 rfl rfl) cn rv_isN) ?_)
      refine sx_cons (sx_skip (t_val (e_isi B.isinstance (nm 1 rfl rfl) (cty B.bool (by decide +kernel)) rfl k7)) ?_)
      refine sx_cons (sx_skip (t_val (e_isi B.isinstance (nm 1 rfl rfl) (cty B.int (by decide +kernel)) rfl k8)) ?_)
      refine sx_cons (sx_skip (t_val (e_isi B.isinstance (nm 1 rfl rfl) (cty B.str (by decide +kernel)) rfl k9)) ?_)
      refine sx_cons (sx_skip ((t_w (w_and (t_val (e_isi B.isinstance (nm 1 rfl rfl) (cty B.list (by decide +kernel)) rfl k10)) fun _ => w_and1 (t_not (t_val (e_isi B.isinstance (nm 0 rfl rfl) (cty B.list (by decide +kernel)) rfl k10))))).to rfl) ?_)
      refine sx_cons (sx_skip ((t_w (w_and (m := false) (t_val (e_isi B.isinstance (nm 1 rfl rfl) (cty B.tuple (by decide +kernel)) rfl k11)) fun z => nomatch z)).to rfl) ?_)
      refine sx_cons (sx_skip ((t_cmp op_ne (e_callB call_len B.len boot_len (ea_cons (nm 0 rfl rfl) ea_nil) (rc_len rfl)) (e_callB call_len B.len boot_len (ea_cons (nm 1 rfl rfl) ea_nil) (rc_len rfl)) rv_neI).to (by simp)) ?_)
      refine sx_cons (sx_forR 2 O B.range (fun i ρ' => ∃ x, ρ' = [.d (.lst l), .d (.lst l), x]) (e_callB call_len B.len boot_len (ea_cons (nm 1 rfl rfl) ea_nil) (rc_len rfl)) ⟨by have := hx.1; omega, by omega⟩ ⟨_, rfl⟩ ?_ ?_)
      · rintro i ρ' hi ⟨x, rfl⟩
        have hi' : i < l.length := by omega
        have hg : l[i]? = some l[i] := List.getElem?_eq_getElem hi'
        obtain ⟨f1, f2⟩ := fits_at hx.2 hg
        refine sx_cons (sx_skip ((t_not (t_val (e_call GS (hr.mono (by omega)) (ea_cons (e_ix (nm 0 rfl rfl) (nm 2 rfl rfl) (rv_ixL (atI_nat hg))) (ea_cons (e_ix (nm 1 rfl rfl) (nm 2 rfl rfl) (rv_ixL (atI_nat hg))) ea_nil)) ⟨l[i], rfl, f1, by omega, rfl⟩))).to rfl) (sx_nil ⟨_, ⟨_, rfl⟩, Le.refl _⟩))
      · rintro ρ' ⟨x, rfl⟩
        exact sx_cons (sx_ret cb rfl)
    | tup l =>
      rw [dep] at hd
      rw [fit, Bool.and_eq_true, decide_eq_true_eq] at hx
      obtain ⟨m, rfl⟩ : ∃ m, n = m + 1 := ⟨n - 1, by omega⟩
      have GS := ih m (Nat.lt_succ_self m)
      refine sx_cons (sx_skip (t_cmp op_isN (nm 1 rfl rfl) cn rv_isN) ?_)
      refine sx_cons (sx_skip (t_val (e_isi B.isinstance (nm 1 rfl rfl) (cty B.bool (by decide +kernel)) rfl k12)) ?_)
      refine sx_cons (sx_skip (t_val (e_isi B.isinstance (nm 1 rfl rfl) (cty B.int (by decide +kernel)) rfl k13)) ?_)
      refine sx_cons (sx_skip (t_val (e_isi B.isinstance (nm 1 rfl rfl) (cty B.str (by decide +kernel)) rfl k14)) ?_)
      refine sx_cons (sx_skip ((t_w (w_and (m := false) (t_val (e_isi B.isinstance (nm 1 rfl rfl) (cty B.list (by decide +kernel)) rfl k15)) fun z => nomatch z)).to rfl) ?_)
      refine sx_cons (sx_skip ((t_w (w_and (t_val (e_isi B.isinstance (nm 1 rfl rfl) (cty B.tuple (by decide +kernel)) rfl k16)) fun _ => w_and1 (t_not (t_val (e_isi B.isinstance (nm 0 rfl rfl) (cty B.tuple (by decide +kernel)) rfl k16))))).to rfl) ?_)
      refine sx_cons (sx_skip ((t_cmp op_ne (e_callB call_len B.len boot_len (ea_cons (nm 0 rfl rfl) ea_nil) (rc_len rfl)) (e_callB call_len B.len boot_len (ea_cons (nm 1 rfl rfl) ea_nil) (rc_len rfl)) rv_neI).to (by simp)) ?_)
      refine sx_cons (sx_forR 2 O B.range (fun i ρ' => ∃ x, ρ' = [.d (.tup l), .d (.tup l), x]) (e_callB call_len B.len boot_len (ea_cons (nm 1 rfl rfl) ea_nil) (rc_len rfl)) ⟨by have := hx.1; omega, by omega⟩ ⟨_, rfl⟩ ?_ ?_)
      · rintro i ρ' hi ⟨x, rfl⟩
        have hi' : i < l.length := by omega
        have hg : l[i]? = some l[i] := List.getElem?_eq_getElem hi'
        obtain ⟨f1, f2⟩ := fits_at hx.2 hg
        refine sx_cons (sx_skip ((t_not (t_val (e_call GS (hr.mono (by omega)) (ea_cons (e_ix (nm 0 rfl rfl) (nm 2 rfl rfl) (rv_ixT (atI_nat hg))) (ea_cons (e_ix (nm 1 rfl rfl) (nm 2 rfl rfl) (rv_ixT (atI_nat hg))) ea_nil)) ⟨l[i], rfl, f1, by omega, rfl⟩))).to rfl) (sx_nil ⟨_, ⟨_, rfl⟩, Le.refl _⟩))
      · rintro ρ' ⟨x, rfl⟩
        exact sx_cons (sx_ret cb rfl)

/-! ### _law_stream: as many numbers from 0 to 999 as asked -/
theorem sc_stream : FnScope ["script", "many", "drawn", "k", "value", "j", "first", "second", "third"] ["script", "many"] (defScope s_stream) := ⟨rfl, rfl, rfl, by decide +kernel, rfl, by decide +kernel, by decide +kernel⟩
abbrev dI (l : List Int) : D := .lst (l.map D.int)
abbrev dS (l : List Int) : D := .rdl (l.map D.int)
/-- numbers from 0 to 999 -/
def Dr (l : List Int) : Prop := ∀ x ∈ l, 0 ≤ x ∧ x < 1000
theorem Dr.nil : Dr [] := fun _ h => by cases h
theorem Dr.snoc {l : List Int} {x : Int} (h : Dr l) (h0 : 0 ≤ x) (h1 : x < 1000) : Dr (l ++ [x]) := fun y hy => by
  rcases List.mem_append.mp hy with z | z
  · exact h y z
  · rw [List.mem_singleton.mp z]; exact ⟨h0, h1⟩
theorem cut_take {α : Type} (xs : List α) (n : Nat) : cutD xs none (some (n : Int)) = xs.take n := by
  unfold cutD
  rw [HT.sIx_none, HT.sIx_nat, Nat.sub_zero, List.drop_zero]
  by_cases h : n ≤ xs.length
  · rw [Nat.min_eq_left h]
  · rw [Nat.min_eq_right (by omega), List.take_length, List.take_of_length_le (by omega)]
theorem acc_snoc (l : List Int) (x : Int) : (l.map D.int) ++ [D.int x] = (l ++ [x]).map D.int := by simp
theorem g_stream (T : DefAt K mg "_law_stream" s_stream) (B : Blt mg) : GFn P w K mg base 1 "_law_stream" ["script", "many"]
    (spR K 2 (fun ds => ∃ ns : List Int, ∃ m : Nat, ds = [dS ns, .int m] ∧ ns.length ≤ 63 ∧ m ≤ 1000) fun ds d => ∃ l : List Int, d = dI l ∧ Dr l ∧ ∀ ns : List Int, ∀ m : Nat, ds = [dS ns, .int m] → l.length = m) := by
  refine T.sxR (fun _ _ _ _ _ _ us hl => match us, hl with | [_, _], _ => rfl) sc_stream rfl fun f cdv A outer s H E ds hr hl hG O => ?_
  obtain ⟨ns, mm, rfl, hns, hm⟩ := hG
  show SxB _ _ [.d (dS ns), .d (.int mm), .no, .no, .no, .no, .no, .no, .no] _
  refine sx_cons (sx_setO 2 O (eo_lst ea_nil) ?_)
  show SxB _ _ [.d (dS ns), .d (.int mm), .acc [], .no, .no, .no, .no, .no, .no] _
  refine sx_cut (fun ρ' => ∃ l x3 x4 x5 x6 x7 x8, ρ' = [.d (dS ns), .d (.int mm), .acc (l.map D.int), x3, x4, x5, x6, x7, x8] ∧ Dr l ∧ l.length ≤ 10000) ?_ ?_
  · refine sx_forR 3 O B.range (fun i ρ' => ∃ l x3 x4 x5 x6 x7 x8, ρ' = [.d (dS ns), .d (.int mm), .acc (l.map D.int), x3, x4, x5, x6, x7, x8] ∧ Dr l ∧ l.length ≤ 60 * i) (e_callB call_len B.len boot_len (ea_cons (nm 0 rfl rfl) ea_nil) (rc_len rfl)) ⟨by simp only [List.length_map]; omega, by omega⟩ ⟨[], _, _, _, _, _, _, rfl, Dr.nil, Nat.zero_le _⟩ ?_ ?_
    · rintro i ρ' hi ⟨l, x3, x4, x5, x6, x7, x8, rfl, hd, hl⟩
      rw [List.length_map] at hi
      have hi' : i < ns.length := by omega
      have hg : (ns.map D.int)[i]? = some (.int ns[i]) := by rw [List.getElem?_map, List.getElem?_eq_getElem hi']; rfl
      refine sx_cons (sx_set 4 O (e_ix (nm 0 rfl rfl) (nm 3 rfl rfl) (rv_ixR (atI_nat hg))) ?_)
      refine sx_cut (fun ρ' => ∃ v, ρ' = [.d (dS ns), .d (.int mm), .acc (l.map D.int), .d (.int i), .d (.int v), x5, x6, x7, x8]) ?_ ?_
      · refine sx_if (t_cmp op_lt (nm 4 rfl rfl) ci rv_cmp) (fun _ => ?_) (fun _ => sx_nil ⟨_, ⟨_, rfl⟩, Le.refl _⟩)
        exact sx_cons (sx_set 4 O (e_op op_sub (e_un un_neg ci ru_neg) (nm 4 rfl rfl) rv_sub) (sx_nil ⟨_, ⟨_, rfl⟩, Le.refl _⟩))
      rintro ρ' ⟨v, rfl⟩
      refine sx_cons (sx_if (t_cmp op_ge (nm 4 rfl rfl) ci rv_cmp) (fun _ => ?_) (fun _ => ?_))
      · refine sx_cons (sx_forR 5 O B.range (fun j ρ' => ∃ l v x5, ρ' = [.d (dS ns), .d (.int mm), .acc (l.map D.int), .d (.int i), .d (.int v), x5, x6, x7, x8] ∧ Dr l ∧ l.length ≤ 60 * i + j) ci ⟨by decide, by decide⟩ ⟨_, _, _, rfl, hd, by omega⟩ ?_ ?_)
        · rintro j ρ' hj ⟨l, v, x5, rfl, hd, hl⟩
          refine sx_cons (sx_if (t_w (w_and (t_cmp op_gt (nm 4 rfl rfl) ci rv_cmp) fun _ => w_and1 (t_cmp op_lt (e_len B.len (nl 2 (.inl ⟨_, rfl⟩) rfl)) (nm 1 rfl rfl) rv_cmp))) (fun _ => ?_) (fun _ => sx_nil (sx_nil ⟨_, ⟨_, _, _, rfl, hd, by omega⟩, Le.refl _⟩)))
          refine sx_cons (sx_app 2 (e_op op_mod (e_callTy call_int1 B.int (by decide +kernel) (ea_cons (nm 4 rfl rfl) ea_nil) rc_int) ci (rv_mod (by decide))) rfl ?_ (by rw [List.length_map]; omega))
          refine sx_cons (sx_set 4 O (e_op op_fdiv (e_callTy call_int1 B.int (by decide +kernel) (ea_cons (nm 4 rfl rfl) ea_nil) rc_int) ci (rv_div (by decide) (by decide))) (sx_nil (sx_nil ⟨_, ⟨l ++ [v % 1000], _, _, by rw [← acc_snoc]; rfl, hd.snoc (Int.emod_nonneg _ (by decide)) (Int.emod_lt_of_pos _ (by decide)), by rw [List.length_append, List.length_singleton]; omega⟩, Le.refl _⟩)))
        · rintro ρ' ⟨l, v, x5, rfl, hd, hl⟩
          exact sx_nil (sx_nil ⟨_, ⟨_, _, _, _, _, _, _, rfl, hd, by omega⟩, Le.refl _⟩)
      · refine sx_one (sx_if (t_cmp op_lt (e_len B.len (nl 2 (.inl ⟨_, rfl⟩) rfl)) (nm 1 rfl rfl) rv_cmp) (fun _ => ?_) (fun _ => sx_nil (sx_nil ⟨_, ⟨_, _, _, _, _, _, _, rfl, hd, by omega⟩, Le.refl _⟩)))
        refine sx_cons (sx_set 6 O (e_op op_mod (e_callTy call_int1 B.int (by decide +kernel) (ea_cons (e_op op_add (e_op op_add (e_op op_mul (nm 4 rfl rfl) ci (rv_mul (.inr ⟨by decide, by decide⟩))) (e_op op_mul ci (nm 3 rfl rfl) (rv_mul (.inl ⟨by decide, by decide⟩))) rv_add) ci rv_add) ea_nil) rc_int) ci (rv_mod (by decide))) ?_)
        refine sx_cons (sx_set 7 O (e_op op_mod (e_callTy call_int1 B.int (by decide +kernel) (ea_cons (e_op op_add (e_op op_add (e_op op_mul (nm 6 rfl rfl) ci (rv_mul (.inr ⟨by decide, by decide⟩))) (e_op op_mul ci (nm 3 rfl rfl) (rv_mul (.inl ⟨by decide, by decide⟩))) rv_add) ci rv_add) ea_nil) rc_int) ci (rv_mod (by decide))) ?_)
        refine sx_cons (sx_set 8 O (e_op op_mod (e_callTy call_int1 B.int (by decide +kernel) (ea_cons (e_op op_add (e_op op_add (e_op op_mul (nm 7 rfl rfl) ci (rv_mul (.inr ⟨by decide, by decide⟩))) (e_op op_mul ci (nm 3 rfl rfl) (rv_mul (.inl ⟨by decide, by decide⟩))) rv_add) ci rv_add) ea_nil) rc_int) ci (rv_mod (by decide))) ?_)
        refine sx_cons (sx_app 2 (e_op op_mod (e_callTy call_int1 B.int (by decide +kernel) (ea_cons (nm 4 rfl rfl) ea_nil) rc_int) ci (rv_mod (by decide))) rfl ?_ (by rw [List.length_map]; omega))
        refine sx_cons (sx_app 2 (e_op op_mod (e_callTy call_int1 B.int (by decide +kernel) (ea_cons (e_op op_fdiv (nm 7 rfl rfl) ci (rv_div (by decide) (by decide))) ea_nil) rc_int) ci (rv_mod (by decide))) rfl ?_ (by rw [List.length_append, List.length_map, List.length_singleton]; omega))
        refine sx_cons (sx_app 2 (e_op op_mod (e_callTy call_int1 B.int (by decide +kernel) (ea_cons (e_op op_fdiv (nm 8 rfl rfl) ci (rv_div (by decide) (by decide))) ea_nil) rc_int) ci (rv_mod (by decide))) rfl ?_ (by simp only [List.length_append, List.length_map, List.length_singleton]; omega))
        refine sx_nil (sx_nil ⟨_, ⟨l ++ [v % 1000] ++ [_] ++ [_], _, _, _, _, _, _, by rw [← acc_snoc, ← acc_snoc, ← acc_snoc]; rfl, ((hd.snoc (Int.emod_nonneg _ (by decide)) (Int.emod_lt_of_pos _ (by decide))).snoc (Int.emod_nonneg _ (by decide)) (Int.emod_lt_of_pos _ (by decide))).snoc (Int.emod_nonneg _ (by decide)) (Int.emod_lt_of_pos _ (by decide)), ?_⟩, Le.refl _⟩)
        simp only [List.length_append, List.length_singleton]; omega
    · rintro ρ' ⟨l, x3, x4, x5, x6, x7, x8, rfl, hd, hl⟩
      rw [List.length_map] at hl
      exact ⟨_, ⟨_, _, _, _, _, _, _, rfl, hd, by omega⟩, Le.refl _⟩
  · rintro ρ' ⟨l, x3, x4, x5, x6, x7, x8, rfl, hd, hl⟩
    refine sx_cons (sx_forR 3 O B.range (fun i ρ' => ∃ l x3, ρ' = [.d (dS ns), .d (.int mm), .acc (l.map D.int), x3, x4, x5, x6, x7, x8] ∧ Dr l ∧ l.length ≤ 10000 + i ∧ i ≤ l.length) (nm 1 rfl rfl) ⟨by omega, by omega⟩ ⟨_, _, rfl, hd, by omega, by omega⟩ ?_ ?_)
    · rintro i ρ' hi ⟨l, x3, rfl, hd, hl, hl2⟩
      refine sx_cons (sx_app 2 ci rfl (sx_nil ⟨_, ⟨l ++ [0], _, by rw [← acc_snoc]; rfl, hd.snoc (by decide) (by decide), ?_, ?_⟩, Le.refl _⟩) (by rw [List.length_map]; omega))
      all_goals simp only [List.length_append, List.length_singleton]; omega
    · rintro ρ' ⟨l, x3, rfl, hd, hl, hl2⟩
      refine sx_cons (sx_retO (eo_sl0 (nl 2 (.inl ⟨_, rfl⟩) rfl) (nm 1 rfl rfl)) ⟨l.take mm, ?_, fun x hx => hd x (List.mem_of_mem_take hx), fun ns' m' e => ?_⟩)
      · rw [cut_take]
        show D.lst ((l.map D.int).take mm) = .lst ((l.take mm).map D.int)
        rw [List.map_take]
      · injection e with e1 e2
        injection e2 with e2
        injection e2 with e2
        rw [List.length_take]
        omega
end
end Lw

set_option Elab.async false
set_option maxRecDepth 100000
set_option maxHeartbeats 400000
set_option linter.all false
/-! K76M: versions as maps of writers to times -/
namespace K76
open DL
abbrev Pr := Int × Int
def omax : Option Int → Option Int → Option Int
  | none, b => b
  | some a, none => some a
  | some a, some b => some (max a b)
def omin : Option Int → Option Int → Option Int
  | some a, some b => some (min a b)
  | _, _ => none
theorem omax_none (a : Option Int) : omax a none = a := by cases a <;> rfl
theorem omax_assoc (a b c : Option Int) : omax (omax a b) c = omax a (omax b c) := by
  cases a <;> cases b <;> cases c <;> simp [omax, Int.max_assoc]
theorem omax_comm (a b : Option Int) : omax a b = omax b a := by
  cases a <;> cases b <;> simp [omax]
  omega
theorem absorb1 (a b : Option Int) : omax a (omin a b) = a := by
  cases a <;> cases b <;> simp [omax, omin]
  omega
theorem absorb2 (a b : Option Int) : omin a (omax a b) = a := by
  cases a <;> cases b <;> simp [omax, omin]
  omega
theorem distr (a b c : Option Int) : omin (omax a b) c = omax (omin a c) (omin b c) := by
  cases a <;> cases b <;> cases c <;> simp [omax, omin]
  omega
/-- the greatest time of a writer -/
def mo : List Pr → Int → Option Int
  | [], _ => none
  | p :: ps, w => if p.2 = w then omax (some p.1) (mo ps w) else mo ps w
theorem mo_app (ps qs : List Pr) (w : Int) : mo (ps ++ qs) w = omax (mo ps w) (mo qs w) := by
  induction ps with
  | nil => rfl
  | cons p ps ih =>
    rw [List.cons_append, mo, mo, ih]
    split
    · rw [omax_assoc]
    · rfl
theorem mo_perm {ps qs : List Pr} (h : ps.Perm qs) (w : Int) : mo ps w = mo qs w := by
  induction h with
  | nil => rfl
  | cons p _ ih => rw [mo, mo, ih]
  | swap p q l =>
    simp only [mo]
    split <;> split <;> first | rfl | rw [← omax_assoc, ← omax_assoc, omax_comm (some _) (some _)]
  | trans _ _ h1 h2 => rw [h1, h2]
/-- one pair for each writer, in order -/
structure IsR (A : List Pr) : Prop where
  pw : A.Pairwise fun a b => leP a b = true
  nd : (A.map (·.2)).Nodup
theorem mo_none {A : List Pr} {w : Int} (h : w ∉ A.map (·.2)) : mo A w = none := by
  induction A with
  | nil => rfl
  | cons p ps ih =>
    rw [List.map_cons, List.mem_cons, not_or] at h
    rw [mo, if_neg (fun e => h.1 e.symm), ih h.2]
theorem mo_mem {A : List Pr} (h : (A.map (·.2)).Nodup) (p : Pr) : p ∈ A ↔ mo A p.2 = some p.1 := by
  induction A with
  | nil => simp [mo]
  | cons q ps ih =>
    rw [List.map_cons, List.nodup_cons] at h
    rw [List.mem_cons, mo]
    by_cases e : q.2 = p.2
    · rw [if_pos e]
      have n := mo_none h.1
      rw [e] at n
      rw [n, omax_none]
      constructor
      · rintro (rfl | hm)
        · rfl
        · exact absurd (e ▸ List.mem_map_of_mem hm) h.1
      · intro z
        exact .inl (Prod.ext (Option.some.inj z).symm e.symm)
    · rw [if_neg e, ← ih h.2]
      constructor
      · rintro (rfl | hm)
        · exact absurd rfl e
        · exact hm
      · exact .inr
theorem nodup_of_map {α β : Type} {f : α → β} {l : List α} (h : (l.map f).Nodup) : l.Nodup := by
  induction l with
  | nil => exact List.nodup_nil
  | cons a l ih =>
    rw [List.map_cons, List.nodup_cons] at h
    rw [List.nodup_cons]
    exact ⟨fun m => h.1 (List.mem_map_of_mem m), ih h.2⟩
theorem perm_of_mem {α : Type} [DecidableEq α] {l m : List α} (h1 : l.Nodup) (h2 : m.Nodup) (h : ∀ x, x ∈ l ↔ x ∈ m) : l.Perm m := by
  rw [List.perm_iff_count]
  intro a
  rw [h1.count, h2.count]
  by_cases e : a ∈ l
  · rw [if_pos e, if_pos ((h a).mp e)]
  · rw [if_neg e, if_neg (fun z => e ((h a).mpr z))]
theorem IsR.ext {A B : List Pr} (a : IsR A) (b : IsR B) (h : ∀ w, mo A w = mo B w) : A = B :=
  sortP_uniq a.pw b.pw (perm_of_mem (nodup_of_map a.nd) (nodup_of_map b.nd) fun x => by rw [mo_mem a.nd, mo_mem b.nd, h])
theorem isR_sort {l : List Pr} (h : (l.map (·.2)).Nodup) : IsR (sortP l) := ⟨sortP_pw l, ((sortP_perm l).map _).nodup_iff.mpr h⟩
/-- the last time of a writer -/
def la (a : Option Int) (ps : List Pr) (w : Int) : Option Int := ps.foldl (fun acc p => if p.2 = w then some p.1 else acc) a
theorem la_mo {w : Int} : ∀ (ps : List Pr) (a : Option Int), ps.Pairwise (fun a b => leP a b = true) → (∀ t, a = some t → ∀ p ∈ ps, t ≤ p.1) → la a ps w = omax a (mo ps w)
  | [], a, _, _ => (omax_none a).symm
  | p :: ps, a, h, h2 => by
    rw [List.pairwise_cons] at h
    show la (if p.2 = w then some p.1 else a) ps w = _
    have le : ∀ q ∈ ps, p.1 ≤ q.1 := fun q hq => by
      have := h.1 q hq
      unfold leP at this
      simp only [decide_eq_true_eq] at this
      omega
    rw [mo]
    split
    · rw [la_mo ps _ h.2 (fun t e q hq => by cases e; exact le q hq)]
      cases a with
      | none => rfl
      | some t =>
        have := h2 t rfl p List.mem_cons_self
        rw [← omax_assoc]
        congr 1
        show _ = some (max t p.1)
        congr 1
        omega
    · exact la_mo ps a h.2 fun t e q hq => h2 t e q (List.mem_cons_of_mem _ hq)
theorem la_sort (ps : List Pr) (w : Int) : la none (sortP ps) w = mo ps w := by
  rw [la_mo _ _ (sortP_pw ps) (fun t e => by cases e), mo_perm (sortP_perm ps)]
  rfl
/-! ### the law's rows -/
def lstep (rows : List Pr) (p : Pr) : List Pr := rows.filter (fun r => !decide (r.2 = p.2)) ++ [p]
theorem lstep_nd {rows : List Pr} (h : (rows.map (·.2)).Nodup) (p : Pr) : ((lstep rows p).map (·.2)).Nodup := by
  unfold lstep
  rw [List.map_append, List.nodup_append]
  refine ⟨(List.filter_sublist.map _).nodup h, by simp, fun a ha b hb e => ?_⟩
  obtain ⟨r, hr, rfl⟩ := List.mem_map.mp ha
  have := (List.mem_filter.mp hr).2
  simp at this hb
  exact this (e.trans hb)
theorem mo_filter_ne (rows : List Pr) (v w : Int) : mo (rows.filter fun r => !decide (r.2 = v)) w = if v = w then none else mo rows w := by
  induction rows with
  | nil => simp [mo]
  | cons r rows ih =>
    by_cases e : r.2 = v
    · rw [List.filter_cons_of_neg (by simp [e]), ih, mo]
      split
      · rfl
      · rename_i z; rw [if_neg (by rw [e]; exact z)]
    · rw [List.filter_cons_of_pos (by simp [e]), mo, mo, ih]
      split
      · rename_i z
        rw [if_neg (fun q => e (z.trans q.symm))]
        rw [if_neg (fun q => e (z.trans q.symm))]
      · rfl
theorem lstep_mo (rows : List Pr) (p : Pr) (w : Int) : mo (lstep rows p) w = if p.2 = w then some p.1 else mo rows w := by
  unfold lstep
  rw [mo_app, mo_filter_ne, mo]
  split
  · rfl
  · exact omax_none _
theorem lfold_mo (w : Int) : ∀ (ps rows : List Pr), mo (ps.foldl lstep rows) w = la (mo rows w) ps w
  | [], _ => rfl
  | p :: ps, rows => by
    show mo (ps.foldl lstep (lstep rows p)) w = la (if p.2 = w then some p.1 else mo rows w) ps w
    rw [lfold_mo w ps, lstep_mo]
theorem lfold_nd : ∀ (ps rows : List Pr), (rows.map (·.2)).Nodup → ((ps.foldl lstep rows).map (·.2)).Nodup
  | [], _, h => h
  | p :: ps, rows, h => lfold_nd ps _ (lstep_nd h p)
/-- the greatest pairs -/
def R (ps : List Pr) : List Pr := sortP ((sortP ps).foldl lstep [])
theorem R_is (ps : List Pr) : IsR (R ps) := isR_sort (lfold_nd _ _ (by simp))
theorem R_mo (ps : List Pr) (w : Int) : mo (R ps) w = mo ps w := by
  unfold R
  rw [mo_perm (sortP_perm _), lfold_mo]
  exact la_sort ps w
theorem R_eq {A ps : List Pr} (h : IsR A) (e : ∀ w, mo A w = mo ps w) : R ps = A := (R_is ps).ext h fun w => by rw [R_mo, e]
theorem R_id {A : List Pr} (h : IsR A) : R A = A := R_eq h fun _ => rfl
theorem R_congr {ps qs : List Pr} (e : ∀ w, mo ps w = mo qs w) : R ps = R qs := R_eq (R_is qs) fun w => by rw [R_mo, e]
theorem lfold_len : ∀ (ps rows : List Pr), (ps.foldl lstep rows).length ≤ rows.length + ps.length
  | [], _ => Nat.le_refl _
  | p :: ps, rows => by
    have h := lfold_len ps (lstep rows p)
    have : (lstep rows p).length ≤ rows.length + 1 := by
      unfold lstep
      rw [List.length_append, List.length_singleton]
      exact Nat.add_le_add_right (List.length_filter_le _ _) 1
    rw [List.foldl_cons, List.length_cons]
    omega
theorem R_len (ps : List Pr) : (R ps).length ≤ ps.length := by
  unfold R
  rw [(sortP_perm _).length_eq]
  have := lfold_len (sortP ps) []
  rw [(sortP_perm ps).length_eq] at this
  simpa using this
/-! ### the version's rows -/
def vstep : List Pr → Pr → List Pr
  | [], p => [p]
  | q :: l, p => if q.2 = p.2 then (p.1, q.2) :: l else q :: vstep l p
theorem vstep_mem (l : List Pr) (p : Pr) (w : Int) : w ∈ (vstep l p).map (·.2) ↔ w ∈ l.map (·.2) ∨ w = p.2 := by
  induction l with
  | nil => simp [vstep]
  | cons q l ih =>
    rw [vstep]
    split
    · rename_i e
      simp only [List.map_cons, List.mem_cons, e]
      constructor
      · rintro (h | h)
        · exact .inr h
        · exact .inl (.inr h)
      · rintro ((h | h) | h)
        · exact .inl h
        · exact .inr h
        · exact .inl h
    · rw [List.map_cons, List.mem_cons, ih, List.map_cons, List.mem_cons, or_assoc]
theorem vstep_nd {l : List Pr} (h : (l.map (·.2)).Nodup) (p : Pr) : ((vstep l p).map (·.2)).Nodup := by
  induction l with
  | nil => simp [vstep]
  | cons q l ih =>
    rw [List.map_cons, List.nodup_cons] at h
    rw [vstep]
    split
    · rw [List.map_cons, List.nodup_cons]; exact h
    · rename_i e
      rw [List.map_cons, List.nodup_cons, vstep_mem, not_or]
      exact ⟨⟨h.1, e⟩, ih h.2⟩
theorem vstep_mo {l : List Pr} (h : (l.map (·.2)).Nodup) (p : Pr) (w : Int) : mo (vstep l p) w = if p.2 = w then some p.1 else mo l w := by
  induction l with
  | nil => simp only [vstep, mo]; split <;> rfl
  | cons q l ih =>
    rw [List.map_cons, List.nodup_cons] at h
    rw [vstep]
    by_cases e : q.2 = p.2
    · rw [if_pos e, mo, mo]
      by_cases z : p.2 = w
      · rw [if_pos (e.trans z), if_pos z, mo_none (by rw [← z, ← e]; exact h.1)]
        rfl
      · rw [if_neg (fun y => z (e.symm.trans y)), if_neg z, if_neg (fun y => z (e.symm.trans y))]
    · rw [if_neg e, mo, mo, ih h.2]
      by_cases z : p.2 = w
      · rw [if_pos z, if_neg (fun y => e (y.trans z.symm)), if_pos z]
      · rw [if_neg z, if_neg z]
theorem vfold (w : Int) : ∀ (ps l : List Pr), (l.map (·.2)).Nodup → ((ps.foldl vstep l).map (·.2)).Nodup ∧ mo (ps.foldl vstep l) w = la (mo l w) ps w
  | [], _, h => ⟨h, rfl⟩
  | p :: ps, l, h => by
    have := vfold w ps (vstep l p) (vstep_nd h p)
    rw [vstep_mo h] at this
    exact this
theorem vrows (ps : List Pr) : sortP ((sortP ps).foldl vstep []) = R ps := by
  refine (R_eq (isR_sort (vfold 0 _ [] (by simp)).1) fun w => ?_).symm
  rw [mo_perm (sortP_perm _), (vfold w _ [] (by simp)).2]
  exact la_sort ps w
/-! ### in, covers, met -/
/-- p is in the version A -/
def inV (A : List Pr) (p : Pr) : Bool := match mo A p.2 with
  | some t => decide (p.1 ≤ t)
  | none => false
/-- as the program looks -/
def inP : List Pr → Pr → Bool
  | [], _ => false
  | r :: A, p => if r.2 = p.2 then decide (p.1 ≤ r.1) else inP A p
theorem inP_eq {A : List Pr} (h : (A.map (·.2)).Nodup) (p : Pr) : inP A p = inV A p := by
  induction A with
  | nil => rfl
  | cons r A ih =>
    rw [List.map_cons, List.nodup_cons] at h
    unfold inV
    rw [inP, mo]
    by_cases e : r.2 = p.2
    · rw [if_pos e, if_pos e, mo_none (e ▸ h.1)]
      rfl
    · rw [if_neg e, if_neg e, ih h.2]
      rfl
/-- as the law looks -/
def inL (A : List Pr) (p : Pr) : Bool := decide (0 < (A.filter fun r => decide (r.2 = p.2) && decide (p.1 ≤ r.1)).length)
theorem inL_eq (A : List Pr) (p : Pr) : inL A p = inV A p := by
  unfold inL inV
  induction A with
  | nil => rfl
  | cons r A ih =>
    rw [mo]
    by_cases e : r.2 = p.2
    · rw [if_pos e]
      by_cases z : p.1 ≤ r.1
      · rw [List.filter_cons_of_pos (by simp [e, z])]
        cases mo A p.2 with
        | none => simp [omax, z]
        | some t => simp [omax]; omega
      · rw [List.filter_cons_of_neg (by simp [z]), ih]
        cases mo A p.2 with
        | none => simp [omax]; omega
        | some t => simp [omax]; omega
    · rw [List.filter_cons_of_neg (by simp [e]), if_neg e, ih]
def keepT (B : List Pr) (w : Int) : Option Int → Option Int
  | some t => if inV B (t, w) then some t else none
  | none => none
theorem mo_filter {A : List Pr} (h : (A.map (·.2)).Nodup) (B : List Pr) (w : Int) : mo (A.filter (inV B)) w = keepT B w (mo A w) := by
  induction A with
  | nil => rfl
  | cons r A ih =>
    rw [List.map_cons, List.nodup_cons] at h
    have e1 : r = (r.1, r.2) := rfl
    by_cases z : inV B r = true
    · rw [List.filter_cons_of_pos z, mo, mo, ih h.2]
      by_cases e : r.2 = w
      · rw [if_pos e, if_pos e, mo_none (e ▸ h.1)]
        subst e
        show omax (some r.1) none = keepT B r.2 (some r.1)
        show omax (some r.1) none = if inV B r = true then some r.1 else none
        rw [if_pos z]
        rfl
      · rw [if_neg e, if_neg e]
    · rw [List.filter_cons_of_neg z, mo, ih h.2]
      by_cases e : r.2 = w
      · rw [if_pos e, mo_none (e ▸ h.1)]
        subst e
        show none = keepT B r.2 (some r.1)
        show none = if inV B r = true then some r.1 else none
        rw [if_neg z]
      · rw [if_neg e]
/-- the met rows, as the program makes them -/
def vmet (A B : List Pr) : List Pr := R (A.filter (inV B) ++ B.filter (inV A))
theorem vmet_mo {A B : List Pr} (a : (A.map (·.2)).Nodup) (b : (B.map (·.2)).Nodup) (w : Int) : mo (vmet A B) w = omin (mo A w) (mo B w) := by
  unfold vmet
  rw [R_mo, mo_app, mo_filter a, mo_filter b]
  cases e1 : mo A w with
  | none =>
    cases e2 : mo B w with
    | none => rfl
    | some u => simp [keepT, inV, e1, omax, omin]
  | some t =>
    cases e2 : mo B w with
    | none => simp [keepT, inV, e2, omax, omin]
    | some u =>
      simp only [keepT, inV, e1, e2, omin]
      by_cases h1 : t ≤ u
      · by_cases h2 : u ≤ t
        · simp [h1, h2, omax]; omega
        · simp [h1, h2, omax]; omega
      · have h2 : u ≤ t := by omega
        simp [h1, h2, omax]; omega
/-- the met rows, as the law makes them -/
def metL (A B : List Pr) : List Pr := A.flatMap fun r => (B.filter fun o => decide (r.2 = o.2)).map fun o => (min r.1 o.1, r.2)
def lmet (A B : List Pr) : List Pr := sortP (metL A B)
theorem mo_none_of {A : List Pr} {w : Int} (h : ∀ p ∈ A, p.2 ≠ w) : mo A w = none := mo_none fun m => by
  obtain ⟨p, hp, e⟩ := List.mem_map.mp m
  exact h p hp e
theorem metB {B : List Pr} (b : (B.map (·.2)).Nodup) (r : Pr) : (B.filter fun o => decide (r.2 = o.2)).map (fun o => (min r.1 o.1, r.2)) = match mo B r.2 with
    | some t => [(min r.1 t, r.2)]
    | none => [] := by
  induction B with
  | nil => rfl
  | cons o B ih =>
    rw [List.map_cons, List.nodup_cons] at b
    by_cases e : r.2 = o.2
    · have n : B.filter (fun o => decide (r.2 = o.2)) = [] := List.filter_eq_nil_iff.mpr fun x hx => by
        simp only [decide_eq_true_eq]
        intro z
        exact b.1 (by rw [← e, z]; exact List.mem_map_of_mem hx)
      rw [List.filter_cons_of_pos (by simp [e]), n, mo, if_pos e.symm, mo_none (by rw [e]; exact b.1)]
      rfl
    · rw [List.filter_cons_of_neg (by simp [e]), ih b.2, mo, if_neg (fun z => e z.symm)]
theorem metL_cons (r : Pr) (A B : List Pr) : metL (r :: A) B = ((B.filter fun o => decide (r.2 = o.2)).map fun o => (min r.1 o.1, r.2)) ++ metL A B := rfl
theorem metL_mem {A B : List Pr} {p : Pr} (h : p ∈ metL A B) : p.2 ∈ A.map (·.2) := by
  unfold metL at h
  obtain ⟨r, hr, h⟩ := List.mem_flatMap.mp h
  obtain ⟨o, _, rfl⟩ := List.mem_map.mp h
  exact List.mem_map.mpr ⟨r, hr, rfl⟩
theorem metL_nd {A B : List Pr} (a : (A.map (·.2)).Nodup) (b : (B.map (·.2)).Nodup) : ((metL A B).map (·.2)).Nodup := by
  induction A with
  | nil => exact List.nodup_nil
  | cons r A ih =>
    rw [List.map_cons, List.nodup_cons] at a
    rw [metL_cons, metB b]
    cases mo B r.2 with
    | none => exact ih a.2
    | some t =>
      show (r.2 :: (metL A B).map (·.2)).Nodup
      rw [List.nodup_cons]
      refine ⟨fun m => ?_, ih a.2⟩
      obtain ⟨p, hp, e⟩ := List.mem_map.mp m
      have := metL_mem hp
      rw [e] at this
      exact a.1 this
theorem metL_mo {A B : List Pr} (a : (A.map (·.2)).Nodup) (b : (B.map (·.2)).Nodup) (w : Int) : mo (metL A B) w = omin (mo A w) (mo B w) := by
  induction A with
  | nil => rfl
  | cons r A ih =>
    rw [List.map_cons, List.nodup_cons] at a
    rw [metL_cons, metB b, mo_app, ih a.2, mo]
    by_cases e : r.2 = w
    · subst e
      rw [if_pos rfl, mo_none a.1]
      cases mo B r.2 with
      | none => rfl
      | some t => simp [mo, omax, omin]
    · rw [if_neg e]
      cases mo B r.2 with
      | none => rfl
      | some t => simp [mo, e, omax]
theorem lmet_is {A B : List Pr} (a : IsR A) (b : IsR B) : IsR (lmet A B) := isR_sort (metL_nd a.nd b.nd)
theorem lmet_mo {A B : List Pr} (a : IsR A) (b : IsR B) (w : Int) : mo (lmet A B) w = omin (mo A w) (mo B w) := by
  unfold lmet
  rw [mo_perm (sortP_perm _), metL_mo a.nd b.nd]
theorem vmet_eq {A B : List Pr} (a : IsR A) (b : IsR B) : vmet A B = lmet A B := (R_is _).ext (lmet_is a b) fun w => by
  rw [lmet_mo a b]
  exact vmet_mo a.nd b.nd w
/-- B has nothing that is not in A -/
def cov (A B : List Pr) : Bool := decide ((B.filter fun p => !inV A p).length = 0)
theorem cov_true {A B : List Pr} (b : IsR B) (h : ∀ w t, mo B w = some t → ∃ u, mo A w = some u ∧ t ≤ u) : cov A B = true := by
  unfold cov
  rw [decide_eq_true_eq, List.length_eq_zero_iff, List.filter_eq_nil_iff]
  intro p hp
  obtain ⟨u, h1, h2⟩ := h p.2 p.1 ((mo_mem b.nd p).mp hp)
  simp [inV, h1, h2]
theorem cov_join1 {A B : List Pr} (a : IsR A) : cov (R (A ++ B)) A = true := cov_true a fun w t h => by
  rw [R_mo, mo_app, h]
  cases mo B w with
  | none => exact ⟨t, rfl, Int.le_refl _⟩
  | some u => exact ⟨_, rfl, by omega⟩
theorem cov_join2 {A B : List Pr} (b : IsR B) : cov (R (A ++ B)) B = true := cov_true b fun w t h => by
  rw [R_mo, mo_app, h, omax_comm]
  cases mo A w with
  | none => exact ⟨t, rfl, Int.le_refl _⟩
  | some u => exact ⟨_, rfl, by omega⟩
theorem cov_met1 {A B : List Pr} (a : IsR A) (b : IsR B) : cov A (lmet A B) = true := cov_true (lmet_is a b) fun w t h => by
  rw [lmet_mo a b] at h
  cases e1 : mo A w with
  | none => rw [e1] at h; cases h
  | some x =>
    cases e2 : mo B w with
    | none => rw [e1, e2] at h; cases h
    | some y => rw [e1, e2] at h; cases h; exact ⟨x, rfl, by omega⟩
theorem cov_met2 {A B : List Pr} (a : IsR A) (b : IsR B) : cov B (lmet A B) = true := cov_true (lmet_is a b) fun w t h => by
  rw [lmet_mo a b] at h
  cases e1 : mo A w with
  | none => rw [e1] at h; cases h
  | some x =>
    cases e2 : mo B w with
    | none => rw [e1, e2] at h; cases h
    | some y => rw [e1, e2] at h; cases h; exact ⟨y, rfl, by omega⟩
theorem join_met {A B : List Pr} (a : IsR A) (b : IsR B) : R (A ++ lmet A B) = A := R_eq a fun w => by rw [mo_app, lmet_mo a b, absorb1]
theorem met_join {A B : List Pr} (a : IsR A) (b : IsR B) : lmet A (R (A ++ B)) = A := (lmet_is a (R_is _)).ext a fun w => by
  rw [lmet_mo a (R_is _), R_mo, mo_app, absorb2]
theorem met_over {A B C : List Pr} (a : IsR A) (b : IsR B) (c : IsR C) : R (lmet A C ++ lmet B C) = lmet (R (A ++ B)) C := R_eq (lmet_is (R_is _) c) fun w => by
  rw [lmet_mo (R_is _) c, R_mo, mo_app, mo_app, lmet_mo a c, lmet_mo b c, distr]
end K76

set_option Elab.async false
set_option maxRecDepth 100000
set_option maxHeartbeats 400000
set_option linter.all false
/-! K76: the walk -/
namespace K76
open PySem L2 DL Lw
/-- a block's own names -/
theorem blk (N : List Str) (sc : Scope) {scope : Scope} {own : List (Str × Nat)} (h0 : scope.kind = .function := by rfl) (h1 : ∀ y ∈ scope.names, scope.names.lookup y.1 = some y.2 := by decide +kernel) (h2 : ∀ p ∈ own, N[p.2]? = some p.1 := by decide +kernel)
    (h3 : ∀ y ∈ scope.names, y.2 = .free → sc.names.lookup y.1 = some .cell ∨ sc.names.lookup y.1 = some .free := by decide +kernel) (h4 : ∀ y ∈ scope.names, y.2 = .local ∨ y.2 = .cell → y.1 ∈ own.map (·.1) ∨ y.1 ∉ N := by decide +kernel) : BlkOk N sc scope own := ⟨h0, h1, h2, h3, h4⟩
abbrev sV (i : Nat) : Stmt := inClass (topS 1) i
section
variable {P : Program} {w : World} {K : PySem.W.Frag} {mg : Str → Option Value} {base : Heap} {C : Addr}
/-- a version with these rows -/
@[reducible] def vD (C : Addr) (A : List Pr) : D := .ins C [("rows", .lst (A.map dP))]
structure CT (K : PySem.W.Frag) (mg : Str → Option Value) (C : Addr) : Prop where
  gC : mg "Version" = some (.ref C)
  cl : Cls K C
  nR : NoAttr K C "rows"
  sf : PySem.W.selfFirst K C = true
  iter : mg "iter" = none
  sorted : mg "sorted" = none
  min : mg "min" = none
  max : mg "max" = none
theorem vrow {A : List Pr} : ([("rows", D.lst (A.map dP))] : List (Str × D)).lookup ("rows" : Str) = some (.lst (A.map dP)) := rfl
theorem at_dP {A : List Pr} {m : Nat} {p : Pr} (h : A[m]? = some p) : (A.map dP)[m]? = some (dP p) := by rw [List.getElem?_map, h]; rfl
/-! __iter__ -/
theorem sc_iter : FnScope ["self"] ["self"] (defScope (sV 1)) := ⟨rfl, rfl, rfl, by decide +kernel, rfl, by decide +kernel, by decide +kernel⟩
theorem ok_iter {f : Addr} {fd : FuncData} (F : Fun K "__iter__" "Version.__iter__" (sV 1) f fd) (T : CT K mg C) : FnOk P w K mg base CX0 1 f fd ["self"] (spIt C "rows") := by
  refine F.ok sc_iter (fun vs H Q E h => ?_) (fun cdv A outer s H vs Q E hr h => ?_)
  · obtain ⟨a, _, _, _, _, rfl, _⟩ := h
    rfl
  · obtain ⟨a, dx, fs, l, zs, rfl, ha, hf, hl, q⟩ := h
    refine ⟨_, pss_one (ps_ret (pe_callB call_iterR rfl T.iter (by decide +kernel) (pa_cons (pe_fld (pe_var (i := 0) rfl (.inl rfl)) rfl) pa_nil))), ?_⟩
    exact ⟨.ref a, rfl, a, _, _, _, _, rfl, ha, T.cl, T.nR, hf, l, zs, rfl, hl, fun it hit => q it hit⟩
/-! __contains__ -/
theorem sc_in : FnScope ["self", "pair", "known"] ["self", "pair"] (defScope (sV 2)) := ⟨rfl, rfl, rfl, by decide +kernel, rfl, by decide +kernel, by decide +kernel⟩
def GIn (C : Addr) (ds : List D) (d : D) : Prop := ∃ A p, ds = [vD C A, dP p] ∧ d = .bl (inP A p)
theorem g_in {f : Addr} {fd : FuncData} (M : MethAt K C "__contains__" "Version.__contains__" (sV 2) f fd) (T : CT K mg C) : GMt P w K mg base C 1 "__contains__" ["self", "pair"] (spD K 2 (GIn C)) := by
  refine M.sx (fun _ _ _ _ _ _ us hl => match us, hl with | [_, _], _ => rfl) sc_in rfl fun cdv A outer s H E ds d hr hl hG O => ?_
  obtain ⟨R, p, rfl, rfl⟩ := hG
  show SxB _ _ [.d (vD C R), .d (dP p), .no] _
  refine sx_cons (sx_forL 2 O (fun m ρ' => (∃ x, ρ' = [.d (vD C R), .d (dP p), x]) ∧ inP R p = inP (R.drop m) p) (xs := R) (g := dP) (e_fld (nm 0 rfl rfl) T.cl T.nR vrow) ⟨⟨_, rfl⟩, rfl⟩ ?_ ?_)
  · rintro m r ρ' hm ⟨⟨x, rfl⟩, hi⟩
    have hd : R.drop m = r :: R.drop (m + 1) := by
      obtain ⟨h1, h2⟩ := List.getElem?_eq_some_iff.mp hm
      rw [← h2]
      exact List.drop_eq_getElem_cons h1
    rw [hd, inP] at hi
    refine sx_cons (sx_if (t_cmp op_eq (e_ix (nm 2 rfl rfl) ci (rv_ixT rfl)) (e_ix (nm 1 rfl rfl) ci (rv_ixT rfl)) rv_eqI) (fun e => ?_) (fun e => ?_))
    · rw [decide_eq_true_eq] at e
      rw [if_pos e] at hi
      refine sx_cons (sx_ret (d := .bl (decide (p.1 ≤ r.1))) (e_cmp op_le (e_ix (nm 1 rfl rfl) ci (rv_ixT rfl)) (e_ix (nm 2 rfl rfl) ci (rv_ixT rfl)) rv_cmp) ?_)
      show D.bl _ = .bl _
      rw [hi]
    · rw [decide_eq_false_iff_not] at e
      rw [if_neg e] at hi
      exact sx_nil (sx_nil ⟨_, ⟨⟨_, rfl⟩, hi⟩, Le.refl _⟩)
  · rintro ρ' ⟨⟨x, rfl⟩, hi⟩
    refine sx_cons (sx_ret cb ?_)
    show D.bl _ = .bl _
    rw [hi, List.drop_length]
    rfl
/-! __init__ -/
abbrev nInit : List Str := ["self", "pairs", "latest", "pair", "writer"]
theorem sc_init : FnScope nInit ["self", "pairs"] (defScope (sV 0)) := ⟨rfl, rfl, rfl, by decide +kernel, rfl, by decide +kernel, by decide +kernel⟩
def kvs (l : List Pr) : List (Key × D) := l.map fun p => (.inl p.2, .int p.1)
theorem inl_iff {a b : Int} : (Sum.inl a : Key) = Sum.inl b ↔ a = b := ⟨fun h => Sum.inl.inj h, fun h => by rw [h]⟩
theorem any_kvs (l : List Pr) (v : Int) : ((kvs l).any fun kv => decide (kv.1 = .inl v)) = l.any fun p => decide (p.2 = v) := by
  unfold kvs
  rw [List.any_map]
  congr 1
  funext p
  simp [inl_iff]
theorem map_absent {l : List Pr} {v : Int} (d : D) (h : ∀ p ∈ l, p.2 ≠ v) : (kvs l).map (fun kv => if kv.1 = .inl v then (kv.1, d) else kv) = kvs l := by
  unfold kvs
  rw [List.map_map]
  refine List.map_congr_left fun p hp => ?_
  simp [inl_iff, h p hp]
theorem put_kvs {l : List Pr} (h : (l.map (·.2)).Nodup) (p : Pr) : putD (kvs l) (.inl p.2) (.int p.1) = kvs (vstep l p) := by
  induction l with
  | nil => rfl
  | cons q l ih =>
    rw [List.map_cons, List.nodup_cons] at h
    have ih := ih h.2
    unfold putD putG at ih ⊢
    rw [any_kvs] at ih ⊢
    rw [vstep]
    by_cases e : q.2 = p.2
    · rw [if_pos e, if_pos (by simp [e])]
      have := map_absent (l := l) (v := p.2) (.int p.1) fun x hx z => h.1 (by rw [e, ← z]; exact List.mem_map_of_mem hx)
      show (if (Sum.inl q.2 : Key) = .inl p.2 then _ else _) :: (kvs l).map _ = _
      rw [if_pos (by rw [e]), this]
      rfl
    · rw [if_neg e]
      show _ = ((Sum.inl q.2 : Key), D.int q.1) :: kvs (vstep l p)
      rw [← ih]
      rw [List.any_cons, show decide (q.2 = p.2) = false from decide_eq_false e, Bool.false_or]
      by_cases z : (l.any fun x => decide (x.2 = p.2)) = true
      · rw [if_pos z, if_pos z]
        show (if (Sum.inl q.2 : Key) = .inl p.2 then _ else _) :: (kvs l).map _ = _
        rw [if_neg (fun z => e (Sum.inl.inj z))]
      · rw [if_neg z, if_neg z]
        rfl
theorem fold_kvs : ∀ (ps l : List Pr), (l.map (·.2)).Nodup → ps.foldl (fun acc x => putD acc (.inl x.2) (.int x.1)) (kvs l) = kvs (ps.foldl vstep l)
  | [], _, _ => rfl
  | p :: ps, l, h => by
    rw [List.foldl_cons, List.foldl_cons, put_kvs h]
    exact fold_kvs ps _ (vstep_nd h p)
theorem val_kvs {l : List Pr} (h : (l.map (·.2)).Nodup) {p : Pr} (hp : p ∈ l) : valD (kvs l) (.inl p.2) = some (.int p.1) := by
  induction l with
  | nil => cases hp
  | cons q l ih =>
    rw [List.map_cons, List.nodup_cons] at h
    unfold valD valG kvs
    rw [List.map_cons, List.find?_cons]
    by_cases e : q.2 = p.2
    · have : q = p := by
        rcases List.mem_cons.mp hp with z | z
        · exact z.symm
        · exact absurd (e ▸ List.mem_map_of_mem z) h.1
      subst this
      simp
    · have hp : p ∈ l := (List.mem_cons.mp hp).resolve_left fun z => e (by rw [z])
      have := ih h.2 hp
      unfold valD valG kvs at this
      simp only [decide_eq_false (show ¬ (Sum.inl q.2 : Key) = Sum.inl p.2 from fun z => e (Sum.inl.inj z))]
      exact this
def GInit (as : List Ar) (fs : List (Str × D)) : Prop := ∃ ps : List Pr, as = [.l (ps.map dP)] ∧ fs = [(("rows" : Str), D.lst ((R ps).map dP))]
def PInit (as : List Ar) : Prop := ∃ ps : List Pr, as = [.l (ps.map dP)] ∧ ps.length ≤ 1000
theorem ok_init {f : Addr} {fd : FuncData} (F : Fun K "__init__" "Version.__init__" (sV 0) f fd) (T : CT K mg C) : FnOk P w K mg base CX0 1 f fd ["self", "pairs"] (spI K C 1 PInit GInit) := by
  refine fn_init F sc_init rfl (by decide) fun cdv A outer s H E as p hr hl hP O => ?_
  obtain ⟨ps, rfl, hL⟩ := hP
  show SxB _ _ [.obj p [(p, .ins C [])], .ro (ps.map dP), .no, .no, .no] _
  have hu := hr.units
  have hs : (sortP ps).length = ps.length := (sortP_perm ps).length_eq
  have nd : (((sortP ps).foldl vstep []).map (·.2)).Nodup := (vfold 0 _ [] (by simp)).1
  refine sx_cons (sx_set 2 O (e_dcK (i := 3) (xs := sortP ps) (g := dP) (kf := fun x => .inl x.2) (f := fun x => .int x.1) rfl sc_init.nd rfl (blk nInit (defScope (sV 0)))
    (eo_sortP hu T.sorted (nl 1 (.inr rfl) rfl) (by omega)).l (by omega) (fun x _ s H C cl fp => e_ix (nm 3 rfl rfl) ci (rv_ixT rfl)) (fun x _ s H C cl fp => e_ix (nm 3 rfl rfl) ci (rv_ixT rfl))) ?_)
  have ek : (sortP ps).foldl (fun acc x => putD acc (.inl x.2) (.int x.1)) [] = kvs ((sortP ps).foldl vstep []) := fold_kvs _ [] (by simp)
  rw [ek]
  have hll : ((sortP ps).foldl vstep []).length ≤ 1000 := by
    have := congrArg List.length (vrows ps)
    rw [(sortP_perm _).length_eq] at this
    have h2 := R_len ps
    omega
  have er := vrows ps
  generalize hL2 : (sortP ps).foldl vstep [] = L at *
  show SxB _ _ [.obj p [(p, .ins C [])], .ro (ps.map dP), .d (.dK (kvs L)), .no, .no] _
  have em : ((kvs L).map (·.1)).map (fun k => D.tup [(valD (kvs L) k).getD .non, kD k]) = L.map dP := by
    unfold kvs
    rw [List.map_map, List.map_map]
    refine List.map_congr_left fun q hq => ?_
    show D.tup [(valD (kvs L) (.inl q.2)).getD .non, .int q.2] = dP q
    rw [val_kvs nd hq]
    rfl
  refine sx_one (sx_fldG 0 0 (nmO 0 rfl rfl) (eo_sortP hu T.sorted (EvL.to (e_lcDK (i := 4) (kvs := kvs L) (F := fun k => D.tup [(valD (kvs L) k).getD .non, kD k]) 2 rfl sc_init.nd rfl (blk nInit (defScope (sV 0))) rfl (by unfold kvs; rw [List.length_map]; omega) (fun k hk s H C cl fp => by
      obtain ⟨kv, h1, h2⟩ := List.mem_map.mp hk
      obtain ⟨q, h3, rfl⟩ := List.mem_map.mp h1
      subst h2
      refine e_tup (ea_cons (e_dget (k := .inl q.2) (hu_of hr) (nm 2 rfl rfl) (nm 4 rfl rfl) ?_) (ea_cons (nm 4 rfl rfl) ea_nil))
      rw [val_kvs nd h3]
      rfl)).l em) (by omega)).dd rfl rfl T.cl T.nR (by decide) ?_)
  exact ⟨_, _, rfl, List.mem_cons_self, ps, rfl, by rw [← er]; rfl⟩
/-! what the top has written of the class -/
structure VT (K : PySem.W.Frag) (mg : Str → Option Value) (C : Addr) : Prop where
  T : CT K mg C
  B : Blt mg
  init : ∃ f fd, Fun K "__init__" "Version.__init__" (sV 0) f fd ∧ Mk K C f
  iter : ∃ f fd, Fun K "__iter__" "Version.__iter__" (sV 1) f fd ∧ ItrC K C f
  in_ : ∃ f fd, MethAt K C "__contains__" "Version.__contains__" (sV 2) f fd
  or_ : ∃ f fd, MethAt K C "__or__" "Version.__or__" (sV 3) f fd
  and_ : ∃ f fd, MethAt K C "__and__" "Version.__and__" (sV 4) f fd
  cov : ∃ f fd, MethAt K C "covers" "Version.covers" (sV 5) f fd
/-- Version(e) -/
theorem e_ver {X : Cx} {ρ : Rho} {e : Expr} {ps : List Pr} {p pos : Pos} (V : VT X.K X.mg C) (hr : Room 2 X.A) (h : EvL X e ρ (ps.map dP)) (hl : ps.length ≤ 1000) (hg : Gl X "Version" := by rfl) (he : starEach [e] X.env = (false, eval e X.env) :: starEach [] X.env := by rfl) (hpl : (backTo pos (starEach [] X.env)).any (·.1) = false := by rfl) :
    EvD X (.Call (.Name "Version" p) [e] [] pos) ρ (vD C (R ps)) := by
  obtain ⟨f, fd, F, M⟩ := V.init
  refine e_makeA M (ok_init F V.T) hr V.T.gC (F.binds fun _ _ _ _ _ _ us hl => match us, hl with | [_, _], _ => rfl) (aa_l h aa_nil he) ⟨ps, rfl, hl⟩ (fun gs hg => ?_) rfl hg (by decide) he hpl
  obtain ⟨qs, h1, rfl⟩ := hg
  have : qs.map dP = ps.map dP := by
    injection h1 with h1 _
    injection h1 with h1
    exact h1.symm
  have inj : ∀ (as bs : List Pr), as.map dP = bs.map dP → as = bs := fun as => by
    induction as with
    | nil => intro bs h; cases bs with
      | nil => rfl
      | cons _ _ => cases h
    | cons a as ih => intro bs h; cases bs with
      | nil => cases h
      | cons b bs =>
        rw [List.map_cons, List.map_cons] at h
        injection h with h1 h2
        injection h1 with h1
        injection h1 with h3 h4
        injection h3 with h3
        injection h4 with h4
        injection h4 with h4
        rw [ih bs h2, show a = b from Prod.ext h3 h4]
  rw [inj qs ps this]
theorem inG (V : VT K mg C) : GMt P w K mg base C 1 "__contains__" ["self", "pair"] (spD K 2 (GIn C)) := let ⟨_, _, M⟩ := V.in_; g_in M V.T
/-! __or__ -/
theorem sc_or : FnScope ["self", "other"] ["self", "other"] (defScope (sV 3)) := ⟨rfl, rfl, rfl, by decide +kernel, rfl, by decide +kernel, by decide +kernel⟩
def GOr (C : Addr) (ds : List D) (d : D) : Prop := ∃ A B : List Pr, ds = [vD C A, vD C B] ∧ A.length ≤ 400 ∧ B.length ≤ 400 ∧ d = vD C (R (A ++ B))
theorem g_or (V : VT K mg C) : GMt P w K mg base C 3 "__or__" ["self", "other"] (spD K 2 (GOr C)) := by
  obtain ⟨f, fd, M⟩ := V.or_
  refine M.sx (fun _ _ _ _ _ _ us hl => match us, hl with | [_, _], _ => rfl) sc_or rfl fun cdv A outer s H E ds d hr hl hG O => ?_
  obtain ⟨R1, R2, rfl, h1, h2, rfl⟩ := hG
  show SxB _ _ [.d (vD C R1), .d (vD C R2)] _
  refine sx_one (sx_ret (e_ver V hr ((eo_cat (e_fld (nm 0 rfl rfl) V.T.cl V.T.nR vrow).l (e_fld (nm 1 rfl rfl) V.T.cl V.T.nR vrow).l (by simp only [List.length_map]; omega)).l.to (List.map_append (f := dP)).symm) (by rw [List.length_append]; omega)) rfl)
/-! __and__ -/
abbrev nAnd : List Str := ["self", "other", "own", "pair"]
theorem sc_and : FnScope nAnd ["self", "other"] (defScope (sV 4)) := ⟨rfl, rfl, rfl, by decide +kernel, rfl, by decide +kernel, by decide +kernel⟩
def GAnd (C : Addr) (ds : List D) (d : D) : Prop := ∃ A B : List Pr, ds = [vD C A, vD C B] ∧ A.length ≤ 400 ∧ B.length ≤ 400 ∧ d = vD C (R (A.filter (inP B) ++ B.filter (inP A)))
theorem g_and (V : VT K mg C) : GMt P w K mg base C 3 "__and__" ["self", "other"] (spD K 2 (GAnd C)) := by
  obtain ⟨f, fd, M⟩ := V.and_
  refine M.sx (fun _ _ _ _ _ _ us hl => match us, hl with | [_, _], _ => rfl) sc_and rfl fun cdv A outer s H E ds d hr hl hG O => ?_
  obtain ⟨R1, R2, rfl, h1, h2, rfl⟩ := hG
  show SxB _ _ [.d (vD C R1), .d (vD C R2), .no, .no] _
  have l1 := List.length_filter_le (inP R2) R1
  have l2 := List.length_filter_le (inP R1) R2
  refine sx_cons (sx_setC 2 O (eo_lcT (i := 3) (xs := R1) (g := dP) (f := dP) (P := inP R2) rfl sc_and.nd rfl (blk nAnd (defScope (sV 4))) (e_fld (nm 0 rfl rfl) V.T.cl V.T.nR vrow).l (by omega)
    (fun x _ s H C' cl fp => t_inO (inG V) (hr.mono (show 1 ≤ 2 by decide)) (nm 3 rfl rfl) (nm 1 rfl rfl) ⟨R2, x, rfl, rfl⟩) (fun x _ _ s H C' cl fp => nm 3 rfl rfl)) ?_)
  show SxB _ _ [.d (vD C R1), .d (vD C R2), .acc ((R1.filter (inP R2)).map dP), .no] _
  refine sx_one (sx_ret (e_ver V hr ((eo_cat (nl 2 (.inl ⟨_, rfl⟩) rfl) (eo_lcT (i := 3) (xs := R2) (g := dP) (f := dP) (P := inP R1) rfl sc_and.nd rfl (blk nAnd (defScope (sV 4))) (e_fld (nm 1 rfl rfl) V.T.cl V.T.nR vrow).l (by omega)
    (fun x _ s H C' cl fp => t_inO (inG V) (hr.mono (show 1 ≤ 2 by decide)) (nm 3 rfl rfl) (nm 0 rfl rfl) ⟨R1, x, rfl, rfl⟩) (fun x _ _ s H C' cl fp => nm 3 rfl rfl)).l (by simp only [List.length_map]; omega)).l.to (List.map_append (f := dP)).symm) (by rw [List.length_append]; omega)) rfl)
/-! covers -/
abbrev nCov : List Str := ["self", "other", "pair"]
theorem sc_cov : FnScope nCov ["self", "other"] (defScope (sV 5)) := ⟨rfl, rfl, rfl, by decide +kernel, rfl, by decide +kernel, by decide +kernel⟩
def GCov (C : Addr) (ds : List D) (d : D) : Prop := ∃ A B : List Pr, ds = [vD C A, vD C B] ∧ B.length ≤ 400 ∧ d = .bl (decide ((B.filter fun p => !inP A p).length = 0))
theorem g_cov (V : VT K mg C) : GMt P w K mg base C 2 "covers" ["self", "other"] (spD K 2 (GCov C)) := by
  obtain ⟨f, fd, M⟩ := V.cov
  refine M.sx (fun _ _ _ _ _ _ us hl => match us, hl with | [_, _], _ => rfl) sc_cov rfl fun cdv A outer s H E ds d hr hl hG O => ?_
  obtain ⟨R1, R2, rfl, h2, rfl⟩ := hG
  show SxB _ _ [.d (vD C R1), .d (vD C R2), .no] _
  refine sx_one (sx_ret (e_cmp op_eq (e_len V.B.len (eo_lcT (i := 2) (xs := R2) (g := dP) (f := dP) (P := fun p => !inP R1 p) rfl sc_cov.nd rfl (blk nCov (defScope (sV 5))) (e_fld (nm 1 rfl rfl) V.T.cl V.T.nR vrow).l (by omega)
    (fun x _ s H C' cl fp => t_notinO (inG V) hr (nm 2 rfl rfl) (nm 0 rfl rfl) ⟨R1, x, rfl, rfl⟩) (fun x _ _ s H C' cl fp => nm 2 rfl rfl)).l) ci rv_eqI) ?_)
  show D.bl _ = .bl _
  rw [List.length_map]
  congr 1
  simp
end
end K76

set_option Elab.async false
set_option maxRecDepth 100000
set_option maxHeartbeats 400000
set_option linter.all false
/-! K76L: the law's helpers -/
namespace K76
open PySem L2 DL Lw
section
variable {P : Program} {w : World} {K : PySem.W.Frag} {mg : Str → Option Value} {base : Heap} {C : Addr}
theorem dP_inj : ∀ {as bs : List Pr}, as.map dP = bs.map dP → as = bs
  | [], [], _ => rfl
  | [], _ :: _, h => by cases h
  | _ :: _, [], h => by cases h
  | a :: as, b :: bs, h => by
    rw [List.map_cons, List.map_cons] at h
    injection h with h1 h2
    injection h1 with h1
    injection h1 with h3 h4
    injection h3 with h3
    injection h4 with h4
    injection h4 with h4
    rw [dP_inj h2, show a = b from Prod.ext h3 h4]
theorem snoc_dP (l : List Pr) (p : Pr) : l.map dP ++ [dP p] = (l ++ [p]).map dP := by rw [List.map_append]; rfl
/-! _law_rows -/
abbrev nRows : List Str := ["pairs", "rows", "pair", "row"]
theorem sc_rows : FnScope nRows ["pairs"] (defScope (topS 6)) := ⟨rfl, rfl, rfl, by decide +kernel, rfl, by decide +kernel, by decide +kernel⟩
def PRows (as : List Ar) : Prop := ∃ ps : List Pr, as = [.l (ps.map dP)] ∧ ps.length ≤ 1000
def GRows (as : List Ar) (r : Ar) : Prop := ∃ ps : List Pr, as = [.l (ps.map dP)] ∧ r = .l ((R ps).map dP)
theorem take_succ {α : Type} {xs : List α} {m : Nat} {x : α} (h : xs[m]? = some x) : xs.take (m + 1) = xs.take m ++ [x] := by
  rw [List.take_add_one, h]; rfl
theorem g_rows (T : DefAt K mg "_law_rows" (topS 6)) (ms : mg "sorted" = none) : GFn P w K mg base 1 "_law_rows" ["pairs"] (spA K 1 PRows GRows) := by
  refine T.sxA (fun _ _ _ _ _ _ us hl => match us, hl with | [_], _ => rfl) sc_rows rfl fun f cdv A outer s H E as hr hl hP O => ?_
  obtain ⟨ps, rfl, hL⟩ := hP
  show SxB _ _ [.ro (ps.map dP), .no, .no, .no] _
  have hu := hr.units
  have hs : (sortP ps).length = ps.length := (sortP_perm ps).length_eq
  refine sx_cons (sx_setO 1 O (eo_lst ea_nil) ?_)
  refine sx_cons (sx_forL 2 O (fun m ρ' => ∃ x, ρ' = [.ro (ps.map dP), .acc (((((sortP ps).take m).foldl lstep []).map dP)), x, .no]) (xs := sortP ps) (g := dP) (eo_sortP hu ms (nl 0 (.inr rfl) rfl) (by omega)).dd ⟨_, rfl⟩ ?_ ?_)
  · rintro m p ρ' hm ⟨x, rfl⟩
    have hlen : (((sortP ps).take m).foldl lstep []).length ≤ 1000 := by
      have h1 := lfold_len ((sortP ps).take m) []
      rw [List.length_take] at h1
      simp only [List.length_nil] at h1
      omega
    have hfl := List.length_filter_le (fun r : Pr => !decide (r.2 = p.2)) (((sortP ps).take m).foldl lstep [])
    refine sx_cons (sx_setO 1 O ((eo_cat (eo_lcT (i := 3) (xs := ((sortP ps).take m).foldl lstep []) (g := dP) (f := dP) (P := fun r => !decide (r.2 = p.2)) rfl sc_rows.nd rfl (blk nRows (defScope (topS 6))) (nl 1 (.inl ⟨_, rfl⟩) rfl) (by omega)
      (fun r _ s H C' cl fp => t_cmp op_ne (e_ix (nm 3 rfl rfl) ci (rv_ixT rfl)) (e_ix (nm 2 rfl rfl) ci (rv_ixT rfl)) rv_neI) (fun x _ _ s H C' cl fp => nm 3 rfl rfl)).l (eo_lst (ea_cons (nm 2 rfl rfl) ea_nil)).l (by rw [List.length_map]; simp only [List.length_singleton]; omega)).to (snoc_dP _ p)) (sx_nil ⟨_, ⟨.d (dP p), ?_⟩, Le.refl _⟩))
    rw [take_succ hm, List.foldl_append]
    rfl
  · rintro ρ' ⟨x, rfl⟩
    rw [List.take_length]
    have hlen : ((sortP ps).foldl lstep []).length ≤ 1000 := by
      have h1 := lfold_len (sortP ps) []
      simp only [List.length_nil] at h1
      omega
    exact sx_one (sx_retO (eo_sortP hu ms (nl 1 (.inl ⟨_, rfl⟩) rfl) (by omega)) ⟨ps, rfl, rfl⟩)
/-! _law_pairs -/
theorem sc_pairs : FnScope ["drawn", "at", "many", "few", "pairs", "k", "first", "time", "writer"] ["drawn", "at", "many", "few"] (defScope (topS 7)) := ⟨rfl, rfl, rfl, by decide +kernel, rfl, by decide +kernel, by decide +kernel⟩
def PPairs (as : List Ar) : Prop := ∃ (l : List Int) (a m : Nat) (b : Bool), as = [.d (dI l), .d (.int a), .d (.int m), .d (.bl b)] ∧ m ≤ 7 ∧ a + 3 * m ≤ l.length
def GPairs (as : List Ar) (r : Ar) : Prop := ∃ ps : List Pr, r = .l (ps.map dP) ∧ ps.length ≤ 7
theorem at_dI {l : List Int} {i : Nat} (h : i < l.length) : (l.map D.int)[i]? = some (.int l[i]) := by rw [List.getElem?_map, List.getElem?_eq_getElem h]; rfl
theorem atI_cast {α : Type} {xs : List α} {i : Int} {j : Nat} {x : α} (e : i = (j : Int)) (h : xs[j]? = some x) : atI xs i = some x := by rw [e]; exact atI_nat h
theorem g_pairs (T : DefAt K mg "_law_pairs" (topS 7)) (B : Blt mg) : GFn P w K mg base 1 "_law_pairs" ["drawn", "at", "many", "few"] (spA K 4 PPairs GPairs) := by
  refine T.sxA (fun _ _ _ _ _ _ us hl => match us, hl with | [_, _, _, _], _ => rfl) sc_pairs rfl fun f cdv A outer s H E as hr hl hP O => ?_
  obtain ⟨l, a, m, b, rfl, hm, ha⟩ := hP
  show SxB _ _ [.d (dI l), .d (.int a), .d (.int m), .d (.bl b), .no, .no, .no, .no, .no] _
  refine sx_cons (sx_setO 4 O (eo_lst ea_nil) ?_)
  refine sx_cons (sx_forR 5 O B.range (fun i ρ' => ∃ (ps : List Pr) (x5 x6 x7 x8 : Sl), ρ' = [.d (dI l), .d (.int a), .d (.int m), .d (.bl b), .acc (ps.map dP), x5, x6, x7, x8] ∧ ps.length = i) (nm 2 rfl rfl) ⟨by omega, by omega⟩ ⟨[], _, _, _, _, rfl, rfl⟩ ?_ ?_)
  · rintro i ρ' hi ⟨ps, x5, x6, x7, x8, rfl, hl⟩
    have h1 : a + 3 * i < l.length := by omega
    have h2 : a + 3 * i + 1 < l.length := by omega
    have h3 : a + 3 * i + 2 < l.length := by omega
    refine sx_cons (sx_set 6 O (e_callTy call_int1 B.int (by decide +kernel) (ea_cons (e_ix (nm 0 rfl rfl) (e_op op_add (nm 1 rfl rfl) (e_op op_mul ci (nm 5 rfl rfl) (rv_mul (.inl ⟨by decide, by decide⟩))) rv_add) (rv_ixL (atI_cast (j := a + 3 * i) (by push_cast; rfl) (at_dI h1)))) ea_nil) rc_int) ?_)
    have hmod : ∃ j : Nat, (l[a + 3 * i + 2] % 3 : Int) = (j : Int) ∧ j < 3 := ⟨(l[a + 3 * i + 2] % 3).toNat, by omega, by omega⟩
    obtain ⟨j, hj, hj3⟩ := hmod
    have hsel : ∃ t : Int, ([D.int (1 + l[a + 3 * i] % 5), D.int (1 + l[a + 3 * i]), D.int ((1 + l[a + 3 * i]) * 1000000000000)] : List D)[j]? = some (.int t) := by
      match j, hj3 with
      | 0, _ => exact ⟨_, rfl⟩
      | 1, _ => exact ⟨_, rfl⟩
      | 2, _ => exact ⟨_, rfl⟩
    obtain ⟨t, ht⟩ := hsel
    refine sx_cons (sx_set 7 O (e_ix (e_lst (ea_cons (e_op op_add ci (e_op op_mod (nm 6 rfl rfl) ci (rv_mod (by decide))) rv_add) (ea_cons (e_op op_add ci (nm 6 rfl rfl) rv_add) (ea_cons (e_op op_mul (e_op op_add ci (nm 6 rfl rfl) rv_add) ci (rv_mul (.inr ⟨by decide, by decide⟩))) ea_nil))))
      (e_op op_mod (e_callTy call_int1 B.int (by decide +kernel) (ea_cons (e_ix (nm 0 rfl rfl) (e_op op_add (e_op op_add (nm 1 rfl rfl) (e_op op_mul ci (nm 5 rfl rfl) (rv_mul (.inl ⟨by decide, by decide⟩))) rv_add) ci rv_add) (rv_ixL (atI_cast (j := a + 3 * i + 2) (by push_cast; rfl) (at_dI h3)))) ea_nil) rc_int) ci (rv_mod (by decide))) (rv_ixL (atI_cast hj ht))) ?_)
    refine sx_cons (sx_set 8 O (e_op op_add ci (e_op op_mod (e_callTy call_int1 B.int (by decide +kernel) (ea_cons (e_ix (nm 0 rfl rfl) (e_op op_add (e_op op_add (nm 1 rfl rfl) (e_op op_mul ci (nm 5 rfl rfl) (rv_mul (.inl ⟨by decide, by decide⟩))) rv_add) ci rv_add) (rv_ixL (atI_cast (j := a + 3 * i + 1) (by push_cast; rfl) (at_dI h2)))) ea_nil) rc_int) ci (rv_mod (by decide))) rv_add) ?_)
    refine sx_cut (fun ρ' => ∃ x : Int, ρ' = [.d (dI l), .d (.int a), .d (.int m), .d (.bl b), .acc (ps.map dP), .d (.int i), .d (.int l[a + 3 * i]), .d (.int t), .d (.int x)]) ?_ ?_
    · refine sx_if (t_val (nm 3 rfl rfl)) (fun _ => ?_) (fun _ => sx_nil ⟨_, ⟨_, rfl⟩, Le.refl _⟩)
      exact sx_one (sx_set 8 O (e_op op_add ci (e_op op_mod (e_callTy call_int1 B.int (by decide +kernel) (ea_cons (e_ix (nm 0 rfl rfl) (e_op op_add (e_op op_add (nm 1 rfl rfl) (e_op op_mul ci (nm 5 rfl rfl) (rv_mul (.inl ⟨by decide, by decide⟩))) rv_add) ci rv_add) (rv_ixL (atI_cast (j := a + 3 * i + 1) (by push_cast; rfl) (at_dI h2)))) ea_nil) rc_int) ci (rv_mod (by decide))) rv_add) ⟨_, ⟨_, rfl⟩, Le.refl _⟩)
    · rintro ρ' ⟨x, rfl⟩
      refine sx_cons (sx_app 4 (e_tup (ea_cons (nm 7 rfl rfl) (ea_cons (nm 8 rfl rfl) ea_nil))) rfl (sx_nil ⟨_, ⟨ps ++ [(t, x)], _, _, _, _, by rw [← snoc_dP]; rfl, by rw [List.length_append, hl]; rfl⟩, Le.refl _⟩) (by rw [List.length_map]; omega))
  · rintro ρ' ⟨ps, x5, x6, x7, x8, rfl, hl⟩
    exact sx_one (sx_retA 4 rfl ⟨ps, rfl, by omega⟩)
/-! _law_in -/
abbrev nIn : List Str := ["pair", "rows", "row"]
theorem sc_inL : FnScope nIn ["pair", "rows"] (defScope (topS 8)) := ⟨rfl, rfl, rfl, by decide +kernel, rfl, by decide +kernel, by decide +kernel⟩
def GInL (ds : List D) (d : D) : Prop := ∃ (A : List Pr) (p : Pr), ds = [dP p, .lst (A.map dP)] ∧ A.length ≤ 1000 ∧ d = .bl (inL A p)
theorem g_inL (T : DefAt K mg "_law_in" (topS 8)) (B : Blt mg) : GFn P w K mg base 1 "_law_in" ["pair", "rows"] (spD K 2 GInL) := by
  refine T.sx (fun _ _ _ _ _ _ us hl => match us, hl with | [_, _], _ => rfl) sc_inL rfl fun f cdv A outer s H E ds d hr hl hG O => ?_
  obtain ⟨R1, p, rfl, hL, rfl⟩ := hG
  show SxB _ _ [.d (dP p), .d (.lst (R1.map dP)), .no] _
  refine sx_one (sx_ret (e_cmp op_gt (e_len B.len (eo_lcT (i := 2) (xs := R1) (g := dP) (f := dP) (P := fun r => decide (r.2 = p.2) && decide (p.1 ≤ r.1)) rfl sc_inL.nd rfl (blk nIn (defScope (topS 8))) (nm 1 rfl rfl).l (by omega)
    (fun r _ s H C' cl fp => t_w (w_and (t_cmp op_eq (e_ix (nm 2 rfl rfl) ci (rv_ixT rfl)) (e_ix (nm 0 rfl rfl) ci (rv_ixT rfl)) rv_eqI) fun _ => w_and1 (t_cmp op_ge (e_ix (nm 2 rfl rfl) ci (rv_ixT rfl)) (e_ix (nm 0 rfl rfl) ci (rv_ixT rfl)) rv_cmp))) (fun x _ _ s H C' cl fp => nm 2 rfl rfl)).l) ci rv_cmp) ?_)
  show D.bl _ = .bl _
  rw [List.length_map]
  unfold inL
  congr 1
  simp
/-! _law_met -/
theorem sc_met : FnScope ["rows", "others", "made", "row", "other"] ["rows", "others"] (defScope (topS 9)) := ⟨rfl, rfl, rfl, by decide +kernel, rfl, by decide +kernel, by decide +kernel⟩
def GMet (as : List Ar) (r : Ar) : Prop := ∃ A B : List Pr, as = [.d (.lst (A.map dP)), .d (.lst (B.map dP))] ∧ r = .l ((lmet A B).map dP)
def PMet (as : List Ar) : Prop := ∃ A B : List Pr, as = [.d (.lst (A.map dP)), .d (.lst (B.map dP))] ∧ A.length ≤ 100 ∧ B.length ≤ 100
theorem metL_snoc (A B : List Pr) (r : Pr) : metL (A ++ [r]) B = metL A B ++ ((B.filter fun o => decide (r.2 = o.2)).map fun o => (min r.1 o.1, r.2)) := by
  unfold metL
  rw [List.flatMap_append]
  simp
theorem metL_len : ∀ (A B : List Pr), (metL A B).length ≤ A.length * B.length
  | [], B => by simp [metL]
  | r :: A, B => by
    rw [metL_cons, List.length_append, List.length_map, List.length_cons, Nat.succ_mul]
    have := List.length_filter_le (fun o : Pr => decide (r.2 = o.2)) B
    have := metL_len A B
    omega
theorem g_met (T : DefAt K mg "_law_met" (topS 9)) (ms : mg "sorted" = none) (mm : mg "min" = none) : GFn P w K mg base 1 "_law_met" ["rows", "others"] (spA K 2 PMet GMet) := by
  refine T.sxA (fun _ _ _ _ _ _ us hl => match us, hl with | [_, _], _ => rfl) sc_met rfl fun f cdv A outer s H E as hr hl hP O => ?_
  obtain ⟨R1, R2, rfl, hL1, hL2⟩ := hP
  show SxB _ _ [.d (.lst (R1.map dP)), .d (.lst (R2.map dP)), .no, .no, .no] _
  have hu := hr.units
  have bound : ∀ A' : List Pr, A'.length ≤ 100 → (metL A' R2).length ≤ 10000 := fun A' h => Nat.le_trans (metL_len A' R2) (Nat.le_trans (Nat.mul_le_mul h hL2) (by decide))
  refine sx_cons (sx_setO 2 O (eo_lst ea_nil) ?_)
  refine sx_cons (sx_forL 3 O (fun m ρ' => ∃ x y, ρ' = [.d (.lst (R1.map dP)), .d (.lst (R2.map dP)), .acc ((metL (R1.take m) R2).map dP), x, y]) (xs := R1) (g := dP) (nm 0 rfl rfl) ⟨_, _, rfl⟩ ?_ ?_)
  · rintro m r ρ' hm ⟨x, y, rfl⟩
    have hb := bound (R1.take m) (by rw [List.length_take]; omega)
    refine sx_one (sx_forL 4 O (fun j ρ' => ∃ y, ρ' = [.d (.lst (R1.map dP)), .d (.lst (R2.map dP)), .acc ((metL (R1.take m) R2 ++ (((R2.take j).filter fun o => decide (r.2 = o.2)).map fun o => (min r.1 o.1, r.2))).map dP), .d (dP r), y]) (xs := R2) (g := dP) (nm 1 rfl rfl) ⟨y, by simp⟩ ?_ ?_)
    · rintro j o ρ' hj ⟨y, rfl⟩
      have hf := List.length_filter_le (fun o : Pr => decide (r.2 = o.2)) (R2.take j)
      have ht : (R2.take j).length ≤ 100 := by rw [List.length_take]; omega
      refine sx_one (sx_if (t_cmp op_eq (e_ix (nm 3 rfl rfl) ci (rv_ixT rfl)) (e_ix (nm 4 rfl rfl) ci (rv_ixT rfl)) rv_eqI) (fun e => ?_) (fun e => sx_nil ?_))
      · refine sx_one (sx_app 2 (e_tup (ea_cons (e_callB (call_min2 rfl) mm (by decide +kernel) (ea_cons (e_ix (nm 3 rfl rfl) ci (rv_ixT rfl)) (ea_cons (e_ix (nm 4 rfl rfl) ci (rv_ixT rfl)) ea_nil)) rc_min) (ea_cons (e_ix (nm 3 rfl rfl) ci (rv_ixT rfl)) ea_nil))) rfl ⟨_, ⟨.d (dP o), ?_⟩, Le.refl _⟩ (by simp only [List.length_map, List.length_append]; omega))
        have ef : ([o] : List Pr).filter (fun o => decide (r.2 = o.2)) = [o] := by
          simp only [decide_eq_true_eq] at e
          simp [e]
        have key : ∀ (M : List Pr) (G : List Pr), M ++ (G ++ [o]).map (fun o => (min r.1 o.1, r.2)) = (M ++ G.map (fun o => (min r.1 o.1, r.2))) ++ [(min r.1 o.1, r.2)] := fun M G => by
          rw [List.map_append, ← List.append_assoc]
          rfl
        rw [take_succ hj, List.filter_append, ef, key, ← snoc_dP]
        rfl
      · refine ⟨_, ⟨.d (dP o), ?_⟩, Le.refl _⟩
        have ef : ([o] : List Pr).filter (fun o => decide (r.2 = o.2)) = [] := by
          simp only [decide_eq_false_iff_not] at e
          simp [e]
        rw [take_succ hj, List.filter_append, ef, List.append_nil]
        rfl
    · rintro ρ' ⟨y, rfl⟩
      refine ⟨_, ⟨.d (dP r), y, ?_⟩, Le.refl _⟩
      rw [take_succ hm, metL_snoc, List.take_length]
  · rintro ρ' ⟨x, y, rfl⟩
    rw [List.take_length]
    have := bound R1 hL1
    exact sx_one (sx_retO (eo_sortP hu ms (nl 2 (.inl ⟨_, rfl⟩) rfl) (by omega)) ⟨R1, R2, rfl, rfl⟩)
/-! _law_near -/
theorem sc_near : FnScope ["rows", "near", "row"] ["rows"] (defScope (topS 10)) := ⟨rfl, rfl, rfl, by decide +kernel, rfl, by decide +kernel, by decide +kernel⟩
def PNear (as : List Ar) : Prop := ∃ A : List Pr, as = [.l (A.map dP)] ∧ A.length ≤ 300
def GNear (as : List Ar) (r : Ar) : Prop := ∃ ps : List Pr, r = .l (ps.map dP)
theorem g_near (T : DefAt K mg "_law_near" (topS 10)) (B : Blt mg) (mm : mg "min" = none) (mx : mg "max" = none) : GFn P w K mg base 1 "_law_near" ["rows"] (spA K 1 PNear GNear) := by
  refine T.sxA (fun _ _ _ _ _ _ us hl => match us, hl with | [_], _ => rfl) sc_near rfl fun f cdv A outer s H E as hr hl hP O => ?_
  obtain ⟨R1, rfl, hL⟩ := hP
  show SxB _ _ [.ro (R1.map dP), .no, .no] _
  refine sx_cons (sx_setO 1 O (eo_lst ea_nil) ?_)
  refine sx_cons (sx_forL 2 O (fun m ρ' => ∃ (ps : List Pr) (x : Sl), ρ' = [.ro (R1.map dP), .acc (ps.map dP), x] ∧ ps.length = 4 * m) (xs := R1 ++ [(1, 50)]) (g := dP) ((eo_cat (nl 0 (.inr rfl) rfl) (eo_lst (ea_cons (e_tup (ea_cons ci (ea_cons ci ea_nil))) ea_nil)).l (by rw [List.length_map]; simp only [List.length_singleton]; omega)).to (snoc_dP R1 (1, 50))).dd ⟨[], _, rfl, rfl⟩ ?_ ?_)
  · rintro m r ρ' hm ⟨ps, x, rfl, hl⟩
    have hm' : m < (R1 ++ [((1, 50) : Pr)]).length := (List.getElem?_eq_some_iff.mp hm).1
    rw [List.length_append, List.length_singleton] at hm'
    refine sx_cons (sx_app 1 (nm 2 rfl rfl) rfl ?_ (by rw [List.length_map]; omega))
    refine sx_cons (sx_app 1 (e_tup (ea_cons (e_callB (call_max2 rfl) mx (by decide +kernel) (ea_cons ci (ea_cons (e_op op_sub (e_ix (nm 2 rfl rfl) ci (rv_ixT rfl)) ci rv_sub) ea_nil)) rc_max) (ea_cons (e_ix (nm 2 rfl rfl) ci (rv_ixT rfl)) ea_nil))) rfl ?_ (by simp only [List.length_append, List.length_map, List.length_singleton]; omega))
    refine sx_cons (sx_app 1 (e_tup (ea_cons (e_callB (call_min2 rfl) mm (by decide +kernel) (ea_cons ci (ea_cons (e_op op_add (e_ix (nm 2 rfl rfl) ci (rv_ixT rfl)) ci rv_add) ea_nil)) rc_min) (ea_cons (e_ix (nm 2 rfl rfl) ci (rv_ixT rfl)) ea_nil))) rfl ?_ (by simp only [List.length_append, List.length_map, List.length_singleton]; omega))
    refine sx_cons (sx_app 1 (e_tup (ea_cons (e_ix (nm 2 rfl rfl) ci (rv_ixT rfl)) (ea_cons (e_op op_add ci (e_op op_mod (e_callTy call_int1 B.int (by decide +kernel) (ea_cons (e_ix (nm 2 rfl rfl) ci (rv_ixT rfl)) ea_nil) rc_int) ci (rv_mod (by decide))) rv_add) ea_nil))) rfl (sx_nil ?_) (by simp only [List.length_append, List.length_map, List.length_singleton]; omega))
    refine ⟨_, ⟨ps ++ [r] ++ [(max 1 (r.1 - 1), r.2)] ++ [(min 1000000000000000 (r.1 + 1), r.2)] ++ [(r.1, 1 + r.2 % 99)], .d (dP r), ?_, ?_⟩, Le.refl _⟩
    · rw [← snoc_dP, ← snoc_dP, ← snoc_dP, ← snoc_dP]
      rfl
    · simp only [List.length_append, List.length_singleton]; omega
  · rintro ρ' ⟨ps, x, rfl, hl⟩
    exact sx_one (sx_retA 1 rfl ⟨ps, rfl⟩)
end
end K76

set_option Elab.async false
set_option maxRecDepth 100000
set_option maxHeartbeats 400000
set_option linter.all false
/-! K76W: _law_two and law -/
namespace K76
open PySem L2 DL Lw
/-- rows as data -/
@[reducible] def rD (A : List Pr) : D := .lst (A.map dP)
section
variable {P : Program} {w : World} {K : PySem.W.Frag} {mg : Str → Option Value} {base : Heap} {C : Addr}
theorem hor : PySem.dunder Operator.BitOr.info.2 = ("__or__" : Str) := by decide +kernel
theorem hand : PySem.dunder Operator.BitAnd.info.2 = ("__and__" : Str) := by decide +kernel
theorem fits_P : ∀ A : List Pr, fits (A.map dP) = true
  | [] => rfl
  | p :: A => by
    rw [List.map_cons, fits, fits_P A]
    simp [fit, fits]
theorem deps_P : ∀ A : List Pr, deps (A.map dP) ≤ 1
  | [] => Nat.zero_le _
  | p :: A => by
    rw [List.map_cons, deps]
    have := deps_P A
    simp [dep, deps]
    omega
theorem fit_r {A : List Pr} (h : A.length ≤ 1000) : fit (rD A) = true := by
  rw [fit, fits_P, List.length_map]
  simp
  omega
theorem dep_r (A : List Pr) : dep (rD A) ≤ 2 := by
  rw [dep]
  have := deps_P A
  omega
theorem fits_r : ∀ (l : List (List Pr)), (∀ A ∈ l, A.length ≤ 1000) → fits (l.map rD) = true
  | [], _ => rfl
  | A :: l, h => by
    rw [List.map_cons, fits, fit_r (h A List.mem_cons_self), fits_r l fun B hB => h B (List.mem_cons_of_mem _ hB)]
    rfl
theorem deps_r : ∀ (l : List (List Pr)), deps (l.map rD) ≤ 2
  | [] => Nat.zero_le _
  | A :: l => by
    rw [List.map_cons, deps]
    have := deps_r l
    have := dep_r A
    omega
/-- the law's comparison of lists of rows -/
theorem same_r {l : List (List Pr)} (h : ∀ A ∈ l, A.length ≤ 1000) (hl : l.length ≤ 100) : GSame 3 [.lst (l.map rD), .lst (l.map rD)] (.bl true) := by
  refine ⟨_, rfl, ?_, ?_, rfl⟩
  · rw [fit, fits_r l h, List.length_map]
    simp
    omega
  · rw [dep]
    have := deps_r l
    omega
theorem same_1 {A : List Pr} (h : A.length ≤ 1000) : GSame 3 [rD A, rD A] (.bl true) := ⟨_, rfl, fit_r h, Nat.le_trans (dep_r A) (by decide), rfl⟩
theorem same_b (b : Bool) : GSame 3 [.bl b, .bl b] (.bl true) := ⟨_, rfl, rfl, Nat.zero_le _, rfl⟩
theorem same_tt : GSame 3 [.lst [.bl true, .bl true], .lst [.bl true, .bl true]] (.bl true) := ⟨_, rfl, by decide, by decide, rfl⟩
theorem inP_fun {A : List Pr} (a : IsR A) : inP A = inV A := funext fun p => inP_eq a.nd p
theorem inL_fun (A : List Pr) : inL A = inV A := funext fun p => inL_eq A p
theorem met_eq {A B : List Pr} (a : IsR A) (b : IsR B) : R (A.filter (inP B) ++ B.filter (inP A)) = lmet A B := by
  rw [inP_fun a, inP_fun b]
  exact vmet_eq a b
theorem lmet_len {A B : List Pr} (a : IsR A) (b : IsR B) : (lmet A B).length ≤ A.length + B.length := by
  rw [← met_eq a b]
  refine Nat.le_trans (R_len _) ?_
  rw [List.length_append]
  have := List.length_filter_le (inP B) A
  have := List.length_filter_le (inP A) B
  omega
/-- what the top has written for the law -/
structure LT (K : PySem.W.Frag) (mg : Str → Option Value) (C : Addr) : Prop where
  V : VT K mg C
  stream : DefAt K mg "_law_stream" (topS 3)
  whole : DefAt K mg "_law_whole" (topS 4)
  same : DefAt K mg "_law_same" (topS 5)
  rows : DefAt K mg "_law_rows" (topS 6)
  pairs : DefAt K mg "_law_pairs" (topS 7)
  in_ : DefAt K mg "_law_in" (topS 8)
  met : DefAt K mg "_law_met" (topS 9)
  near : DefAt K mg "_law_near" (topS 10)
  two : DefAt K mg "_law_two" (topS 11)
section
variable {X : Cx} {ρ : Rho} {a b e : Expr} {A B : List Pr} {p pos : Pos}
theorem x_or (T : LT X.K X.mg C) (hr : Room 3 X.A) (ha : EvD X a ρ (vD C A)) (hb : EvD X b ρ (vD C B)) (h1 : A.length ≤ 400) (h2 : B.length ≤ 400) : EvD X (.BinOp a .BitOr b pos) ρ (vD C (R (A ++ B))) :=
  have F : GMt X.prog X.w X.K X.mg X.base C 3 (PySem.dunder Operator.BitOr.info.2) ["self", "other"] (spD X.K 2 (GOr C)) := by rw [hor]; exact g_or T.V
  e_binO F hr T.V.T.sf ha hb ⟨A, B, rfl, h1, h2, rfl⟩
theorem x_and (T : LT X.K X.mg C) (hr : Room 3 X.A) (ha : EvD X a ρ (vD C A)) (hb : EvD X b ρ (vD C B)) (iA : IsR A) (iB : IsR B) (h1 : A.length ≤ 400) (h2 : B.length ≤ 400) : EvD X (.BinOp a .BitAnd b pos) ρ (vD C (lmet A B)) :=
  have F : GMt X.prog X.w X.K X.mg X.base C 3 (PySem.dunder Operator.BitAnd.info.2) ["self", "other"] (spD X.K 2 (GAnd C)) := by rw [hand]; exact g_and T.V
  e_binO F hr T.V.T.sf ha hb ⟨A, B, rfl, h1, h2, by rw [met_eq iA iB]⟩
theorem x_list (T : LT X.K X.mg C) (hr : Room 3 X.A) (hc : X.calm = true) (ha : EvD X e ρ (vD C A)) (hg : Gl X "list" := by rfl)
    (he : starEach [e] X.env = (false, eval e X.env) :: starEach [] X.env := by rfl) (hpl : (backTo pos (starEach [] X.env)).any (·.1) = false := by rfl) : EvD X (.Call (.Name "list" p) [e] [] pos) ρ (rD A) := by
  obtain ⟨f, fd, F, I⟩ := T.V.iter
  exact e_listO I (ok_iter F T.V.T) (F.binds fun _ _ _ _ _ _ us hl => match us, hl with | [_], _ => rfl) hc hr T.V.B.list ha vrow hg he hpl
theorem x_rows (T : LT X.K X.mg C) (hr : Room 1 X.A) (h : EvL X e ρ (A.map dP)) (hl : A.length ≤ 1000) (hg : Gl X "_law_rows" := by rfl) (he : starEach [e] X.env = (false, eval e X.env) :: starEach [] X.env := by rfl) (hpl : (backTo pos (starEach [] X.env)).any (·.1) = false := by rfl) : EvD X (.Call (.Name "_law_rows" p) [e] [] pos) ρ (rD (R A)) :=
  (eo_callA (g_rows T.rows T.V.T.sorted) hr (aa_l h aa_nil he) ⟨A, rfl, hl⟩ (fun r hr => by
    obtain ⟨ps, h1, rfl⟩ := hr
    injection h1 with h1
    injection h1 with h1
    rw [dP_inj h1]) rfl hg (by decide) he hpl).dd
theorem x_met (T : LT X.K X.mg C) (hr : Room 1 X.A) (h1 : EvD X a ρ (rD A)) (h2 : EvD X b ρ (rD B)) (l1 : A.length ≤ 100) (l2 : B.length ≤ 100) (hg : Gl X "_law_met" := by rfl) (he : starEach [a, b] X.env = (false, eval a X.env) :: starEach [b] X.env := by rfl) (he2 : starEach [b] X.env = (false, eval b X.env) :: starEach [] X.env := by rfl) (hpl : (backTo pos (starEach [b] X.env)).any (·.1) = false := by rfl) : EvD X (.Call (.Name "_law_met" p) [a, b] [] pos) ρ (rD (lmet A B)) :=
  (eo_callA (g_met T.met T.V.T.sorted T.V.T.min) hr (aa_d h1 (aa_d h2 aa_nil he2) he) ⟨A, B, rfl, l1, l2⟩ (fun r hr => by
    obtain ⟨A', B', h1, rfl⟩ := hr
    injection h1 with h1 h2
    injection h1 with h1
    injection h1 with h1
    injection h2 with h2
    injection h2 with h2
    injection h2 with h2
    rw [dP_inj h1, dP_inj h2]) rfl hg (by decide) he hpl).dd
theorem x_same (T : LT X.K X.mg C) (hr : Room 5 X.A) {x y : D} (h1 : EvD X a ρ x) (h2 : EvD X b ρ y) (h : GSame 3 [x, y] (.bl true)) (hg : Gl X "_law_same" := by rfl) (he : starEach [a, b] X.env = (false, eval a X.env) :: starEach [b] X.env := by rfl) (he2 : starEach [b] X.env = (false, eval b X.env) :: starEach [] X.env := by rfl) (hpl : (backTo pos (starEach [b] X.env)).any (·.1) = false := by rfl) : EvD X (.Call (.Name "_law_same" p) [a, b] [] pos) ρ (.bl true) :=
  e_call (g_same T.same T.whole T.V.B 3) hr (ea_cons h1 (ea_cons h2 ea_nil he2) he) h rfl hg (by decide) he hpl
theorem x_in (T : LT X.K X.mg C) (hr : Room 1 X.A) {q : Pr} (h1 : EvD X a ρ (dP q)) (h2 : EvD X b ρ (rD A)) (l1 : A.length ≤ 1000) (hg : Gl X "_law_in" := by rfl) (he : starEach [a, b] X.env = (false, eval a X.env) :: starEach [b] X.env := by rfl) (he2 : starEach [b] X.env = (false, eval b X.env) :: starEach [] X.env := by rfl) (hpl : (backTo pos (starEach [b] X.env)).any (·.1) = false := by rfl) : EvD X (.Call (.Name "_law_in" p) [a, b] [] pos) ρ (.bl (inV A q)) :=
  (e_call (g_inL T.in_ T.V.B) hr (ea_cons h1 (ea_cons h2 ea_nil he2) he) ⟨A, q, rfl, l1, rfl⟩ rfl hg (by decide) he hpl).to (by rw [inL_eq])
end
theorem vno {A : List Pr} : ([(("rows" : Str), D.lst (A.map dP))] : List (Str × D)).lookup ("covers" : Str) = none := by
  have : (("covers" : Str) == ("rows" : Str)) = false := by decide +kernel
  simp [List.lookup, this]
theorem cov_eq {A B : List Pr} (a : IsR A) : decide ((B.filter fun p => !inP A p).length = 0) = cov A B := by
  rw [inP_fun a]
  rfl
abbrev nTwo : List Str := ["one", "two", "rows", "others", "joined", "met", "outside", "pair"]
theorem sc_two : FnScope nTwo ["one", "two", "rows", "others"] (defScope (topS 11)) := ⟨rfl, rfl, rfl, by decide +kernel, rfl, by decide +kernel, by decide +kernel⟩
def GTwo (C : Addr) (ds : List D) (d : D) : Prop := ∃ A B : List Pr, ds = [vD C A, vD C B, rD A, rD B] ∧ IsR A ∧ IsR B ∧ A.length ≤ 50 ∧ B.length ≤ 50 ∧ d = .bl true
section
variable {X : Cx} {ρ : Rho} {a b e o : Expr} {A B : List Pr} {p pos ap : Pos}
theorem x_cov (T : LT X.K X.mg C) (hr : Room 2 X.A) (ho : EvD X o ρ (vD C A)) (h2 : EvD X b ρ (vD C B)) (a : IsR A) (l2 : B.length ≤ 400) {pl : Sem Bool}
    (hst : starEach [b] X.env = (false, eval b X.env) :: starEach [] X.env := by rfl) (hpl : (backTo pos (starEach [] X.env)).any (·.1) = false := by rfl)
    (ht : eval (.Call (.Attribute o "covers" ap) [b] [] pos) X.env = (do
      let ov ← eval o X.env
      standAt ap.atName
      let (f, first) ← holding [ov] (getMethod ov "covers" pl)
      callWith pos f first (backTo pos (starEach [b] X.env)) (backToKw pos (keywordEach [] X.env))) := by rfl) : EvD X (.Call (.Attribute o "covers" ap) [b] [] pos) ρ (.bl (cov A B)) :=
  (e_meth (pl := pl) (g_cov T.V) hr T.V.T.cl ho vno (ea_cons h2 ea_nil hst) ⟨A, B, rfl, l2, rfl⟩ rfl hst hpl ht).to (by rw [cov_eq a])
end
theorem g_two (T : LT K mg C) : GFn P w K mg base 6 "_law_two" ["one", "two", "rows", "others"] (spD K 4 (GTwo C)) := by
  refine T.two.sx (fun _ _ _ _ _ _ us hl => match us, hl with | [_, _, _, _], _ => rfl) sc_two rfl fun f cdv A outer s H E ds d hr hl hG O => ?_
  obtain ⟨R1, R2, rfl, i1, i2, l1, l2, rfl⟩ := hG
  show SxB _ _ [.d (vD C R1), .d (vD C R2), .d (rD R1), .d (rD R2), .no, .no, .no, .no] _
  have lj : (R (R1 ++ R2)).length ≤ 100 := Nat.le_trans (R_len _) (by rw [List.length_append]; omega)
  have lm : (lmet R1 R2).length ≤ 100 := Nat.le_trans (lmet_len i1 i2) (by omega)
  have r3 := hr.mono (show 3 ≤ 5 by decide)
  have r2 := hr.mono (show 2 ≤ 5 by decide)
  have r1 := hr.mono (show 1 ≤ 5 by decide)
  refine sx_cons (sx_set 4 O (x_or T r3 (nm 0 rfl rfl) (nm 1 rfl rfl) (by omega) (by omega)) ?_)
  refine sx_cons (sx_set 5 O (x_and T r3 (nm 0 rfl rfl) (nm 1 rfl rfl) i1 i2 (by omega) (by omega)) ?_)
  show SxB _ _ [.d (vD C R1), .d (vD C R2), .d (rD R1), .d (rD R2), .d (vD C (R (R1 ++ R2))), .d (vD C (lmet R1 R2)), .no, .no] _
  refine sx_cons (sx_skip ((t_not (t_val (x_same T hr (e_lst (ea_cons (x_list T r3 rfl (nm 4 rfl rfl)) (ea_cons (x_list T r3 rfl (nm 5 rfl rfl)) ea_nil)))
    (e_lst (ea_cons (x_rows T r1 ((eo_cat (nm 2 rfl rfl).l (nm 3 rfl rfl).l (by simp only [List.length_map]; omega)).l.to (List.map_append (f := dP)).symm) (by rw [List.length_append]; omega)) (ea_cons (x_met T r1 (nm 2 rfl rfl) (nm 3 rfl rfl) (by omega) (by omega)) ea_nil)))
    (same_r (l := [R (R1 ++ R2), lmet R1 R2]) (by simp; omega) (show 2 ≤ 100 by decide))))).to rfl) ?_)
  refine sx_cons (sx_setC 6 O (eo_lcT (i := 7) (xs := R2) (g := dP) (f := dP) (P := fun p => !inV R1 p) rfl sc_two.nd rfl (blk nTwo (defScope (topS 11))) (nm 3 rfl rfl).l (by omega)
    (fun x _ s H C' cl fp => t_not (t_val (x_in T r1 (nm 7 rfl rfl) (nm 2 rfl rfl) (by omega)))) (fun x _ _ s H C' cl fp => nm 7 rfl rfl)) ?_)
  show SxB _ _ [.d (vD C R1), .d (vD C R2), .d (rD R1), .d (rD R2), .d (vD C (R (R1 ++ R2))), .d (vD C (lmet R1 R2)), .acc ((R2.filter fun p => !inV R1 p).map dP), .no] _
  refine sx_cons (sx_skip ((t_not (t_val (x_same T hr (x_cov T r2 (nm 0 rfl rfl) (nm 1 rfl rfl) i1 (by omega)) (e_cmp op_eq (e_len T.V.B.len (nl 6 (.inl ⟨_, rfl⟩) rfl)) ci rv_eqI) ?_))).to rfl) ?_)
  · have : D.bl (decide ((((R2.filter fun p => !inV R1 p).map dP).length : Int) = 0)) = .bl (cov R1 R2) := by
      rw [List.length_map]
      unfold cov
      congr 1
      simp
    rw [this]
    exact same_b _
  refine sx_cons (sx_skip ((t_not (t_val (x_same T hr (e_lst (ea_cons ((x_cov T r2 (nm 4 rfl rfl) (nm 0 rfl rfl) (R_is _) (by omega)).to (by rw [cov_join1 i1])) (ea_cons ((x_cov T r2 (nm 4 rfl rfl) (nm 1 rfl rfl) (R_is _) (by omega)).to (by rw [cov_join2 i2])) ea_nil))) (e_lst (ea_cons cb (ea_cons cb ea_nil))) same_tt))).to rfl) ?_)
  refine sx_cons (sx_skip ((t_not (t_val (x_same T hr (e_lst (ea_cons ((x_cov T r2 (nm 0 rfl rfl) (nm 5 rfl rfl) i1 (by omega)).to (by rw [cov_met1 i1 i2])) (ea_cons ((x_cov T r2 (nm 1 rfl rfl) (nm 5 rfl rfl) i2 (by omega)).to (by rw [cov_met2 i1 i2])) ea_nil))) (e_lst (ea_cons cb (ea_cons cb ea_nil))) same_tt))).to rfl) ?_)
  refine sx_cons (sx_skip ((t_not (t_val (x_same T hr (e_lst (ea_cons (x_list T r3 rfl ((x_or T r3 (nm 0 rfl rfl) (nm 5 rfl rfl) (by omega) (by omega)).to (by rw [join_met i1 i2]))) (ea_cons (x_list T r3 rfl ((x_and T r3 (nm 0 rfl rfl) (nm 4 rfl rfl) i1 (R_is _) (by omega) (by omega)).to (by rw [met_join i1 i2]))) ea_nil)))
    (e_lst (ea_cons (nm 2 rfl rfl) (ea_cons (nm 2 rfl rfl) ea_nil))) (same_r (l := [R1, R1]) (by simp; omega) (show 2 ≤ 100 by decide))))).to rfl) ?_)
  exact sx_one (sx_ret (x_same T hr (e_lst (ea_cons (x_list T r3 rfl (nm 0 rfl rfl)) (ea_cons (x_list T r3 rfl (nm 1 rfl rfl)) ea_nil))) (e_lst (ea_cons (nm 2 rfl rfl) (ea_cons (nm 3 rfl rfl) ea_nil))) (same_r (l := [R1, R2]) (by simp; omega) (show 2 ≤ 100 by decide))) rfl)
end
end K76

set_option Elab.async false
set_option maxRecDepth 100000
set_option maxHeartbeats 400000
set_option linter.all false
/-! K76Z: law -/
namespace K76
open PySem L2 DL Lw
section
variable {P : Program} {w : World} {K : PySem.W.Frag} {mg : Str → Option Value} {base : Heap} {C : Addr}
abbrev nLaw : List Str := ["script", "drawn", "lists", "k", "rows", "versions", "near", "pair", "i", "j", "one", "two", "due", "pairs", "version"]
theorem sc_law : FnScope nLaw ["script"] (defScope (topS 12)) := ⟨rfl, rfl, rfl, by decide +kernel, rfl, by decide +kernel, by decide +kernel⟩
/-- the three lists as they stand -/
structure Lists (a0 a1 a2 : Addr) (l0 l1 l2 : List Pr) (i0 i1 i2 : Nat) (gs : List (Addr × Cell)) : Prop where
  h0 : gs[i0]? = some (a0, .lst (l0.map dP))
  h1 : gs[i1]? = some (a1, .lst (l1.map dP))
  h2 : gs[i2]? = some (a2, .lst (l2.map dP))
  n01 : i0 ≠ i1
  n02 : i0 ≠ i2
  n12 : i1 ≠ i2
  z0 : l0.length ≤ 14
  z1 : l1.length ≤ 14
  z2 : l2.length ≤ 14
def GLaw (ds : List D) (d : D) : Prop := ∃ ns : List Int, ds = [dS ns] ∧ ns.length ≤ 63 ∧ d = .bl true
theorem g_law (T : LT K mg C) {f : Addr} {fd : FuncData} (F : Fun K "law" "law" (topS 12) f fd) : FnOk P w K mg base CX0 7 f fd ["script"] (spD K 1 GLaw) := by
  refine fn_sx F sc_law rfl fun cdv A outer s H E ds d hr hl hG => ?_
  obtain ⟨ns, rfl, hns, rfl⟩ := hG
  have O : Ok1 ((cxOf CX0 P w K mg base nLaw "law" (defScope (topS 12)) f cdv A outer s H E).nox) := ⟨rfl, sc_law.nd, PassesOwn.never⟩
  have B := T.V.B
  have r5 := hr.mono (show 5 ≤ 6 by decide)
  have r3 := hr.mono (show 3 ≤ 6 by decide)
  have r2 := hr.mono (show 2 ≤ 6 by decide)
  have r1 := hr.mono (show 1 ≤ 6 by decide)
  show SxB _ _ [.d (dS ns), .no, .no, .no, .no, .no, .no, .no, .no, .no, .no, .no, .no, .no, .no] _
  -- drawn
  refine sx_cons (sx_setR 1 O (g_stream T.stream B) r1 (ea_cons (nm 0 rfl rfl) (ea_cons ci ea_nil)) ⟨ns, 80, rfl, hns, by decide⟩ fun d hd => ?_)
  obtain ⟨l, rfl, hD, hln⟩ := hd
  have hlen : l.length = 80 := hln ns 80 rfl
  show SxB _ _ [.d (dS ns), .d (dI l), .no, .no, .no, .no, .no, .no, .no, .no, .no, .no, .no, .no, .no] _
  -- lists
  refine sx_cons (sx_setO 2 O (eo_lst ea_nil) ?_)
  refine sx_cut (fun ρ' => ∃ a0 a1 a2 l0 l1 l2 gs x3, Lists a0 a1 a2 l0 l1 l2 0 1 2 gs ∧ l0.length ≤ 7 ∧ l1.length ≤ 7 ∧ gs.length = 3 ∧ ρ' = [.d (dS ns), .d (dI l), .own (.lst [.ob a0, .ob a1, .ob a2]) gs, x3, .no, .no, .no, .no, .no, .no, .no, .no, .no, .no, .no]) ?_ ?_
  · refine sx_forR 3 O B.range (fun m ρ' => ∃ (gl : List (Addr × List Pr)) (x3 : Sl), ρ' = [.d (dS ns), .d (dI l), .own (.lst (gl.map fun g => .ob g.1)) (gl.map fun g => (g.1, .lst (g.2.map dP))), x3, .no, .no, .no, .no, .no, .no, .no, .no, .no, .no, .no] ∧ gl.length = m ∧ ∀ g ∈ gl, g.2.length ≤ 7) ci ⟨by decide, by decide⟩ ⟨[], _, rfl, rfl, fun _ h => nomatch h⟩ ?_ ?_
    · rintro m ρ' hm ⟨gl, x3, rfl, hgl, hz⟩
      have hm' : m < 3 := by omega
      have b1 : 1 + m < l.length := by omega
      have b0 : 0 < l.length := by omega
      have hq : ∃ q : Nat, (l[1 + m] % 8 : Int) = (q : Int) ∧ q ≤ 7 := ⟨(l[1 + m] % 8).toNat, by omega, by omega⟩
      obtain ⟨q, hq1, hq2⟩ := hq
      refine sx_one (sx_appO 2 (R := fun es => ∃ ps : List Pr, es = ps.map dP ∧ ps.length ≤ 7) (eo_callR (g_pairs T.pairs B) r1 (as := [.d (dI l), .d (.int (6 + 24 * (m : Int))), .d (.int (l[1 + m] % 8)), .d (.bl (decide (l[0] % 2 = 0)))])
        (aa_d (nm 1 rfl rfl) (aa_d (e_op op_add ci (e_op op_mul ci (nm 3 rfl rfl) (rv_mul (.inl ⟨by decide, by decide⟩))) rv_add)
          (aa_d (e_op op_mod (e_callTy call_int1 B.int (by decide +kernel) (ea_cons (e_ix (nm 1 rfl rfl) (e_op op_add ci (nm 3 rfl rfl) rv_add) (rv_ixL (atI_cast (j := 1 + m) (by push_cast; rfl) (at_dI b1)))) ea_nil) rc_int) ci (rv_mod (by decide)))
          (aa_d (e_cmp op_eq (e_op op_mod (e_callTy call_int1 B.int (by decide +kernel) (ea_cons (e_ix (nm 1 rfl rfl) ci (rv_ixL (atI_cast (j := 0) rfl (at_dI b0)))) ea_nil) rc_int) ci (rv_mod (by decide))) ci rv_eqI) aa_nil))))
        ⟨l, 6 + 24 * m, q, _, by rw [hq1]; push_cast; rfl, hq2, by omega⟩ (fun r hr => by
          obtain ⟨ps, rfl, hp⟩ := hr
          exact ⟨_, rfl, ps, rfl, hp⟩)) rfl (fun es a hes => ?_) (by rw [List.length_map]; omega))
      obtain ⟨ps, rfl, hp⟩ := hes
      refine ⟨_, ⟨gl ++ [(a, ps)], .d (.int m), ?_, by rw [List.length_append, hgl]; rfl, fun g hg => ?_⟩, Le.refl _⟩
      · rw [List.map_append, List.map_append]
        rfl
      · rcases List.mem_append.mp hg with z | z
        · exact hz g z
        · rw [List.mem_singleton.mp z]; exact hp
    · rintro ρ' ⟨gl, x3, rfl, hgl, hz⟩
      match gl, hgl with
      | [(a0, l0), (a1, l1), (a2, l2)], _ =>
        have z0 : l0.length ≤ 7 := hz (a0, l0) (by simp)
        have z1 : l1.length ≤ 7 := hz (a1, l1) (by simp)
        have z2 : l2.length ≤ 7 := hz (a2, l2) (by simp)
        exact ⟨_, ⟨a0, a1, a2, l0, l1, l2, _, _, ⟨rfl, rfl, rfl, by decide, by decide, by decide, by omega, by omega, by omega⟩, z0, z1, rfl, rfl⟩, Le.refl _⟩
  rintro ρ' ⟨a0, a1, a2, l0, l1, l2, gs, x3, L, y0, y1, hg3, rfl⟩
  -- the second list with the first one's pairs
  refine sx_cut (fun ρ' => ∃ a0 a1 a2 l0 l1 l2 i0 i1 i2 gs, Lists a0 a1 a2 l0 l1 l2 i0 i1 i2 gs ∧ ρ' = [.d (dS ns), .d (dI l), .own (.lst [.ob a0, .ob a1, .ob a2]) gs, x3, .no, .no, .no, .no, .no, .no, .no, .no, .no, .no, .no]) ?_ ?_
  · refine sx_if (t_cmp op_eq (e_op op_mod (e_callTy call_int1 B.int (by decide +kernel) (ea_cons (e_ix (nm 1 rfl rfl) ci (rv_ixL (atI_cast (j := 4) rfl (at_dI (by omega))))) ea_nil) rc_int) ci (rv_mod (by decide))) ci rv_eqI) (fun _ => ?_) (fun _ => sx_nil ⟨_, ⟨a0, a1, a2, l0, l1, l2, 0, 1, 2, gs, L, rfl⟩, Le.refl _⟩)
    refine sx_one (sx_ixO 2 (m := 1) ((eo_cat (lob 2 (e_ixL (nl 2 (.inl ⟨_, rfl⟩) rfl) ci (z := .ob a1) rfl) rfl (List.mem_of_getElem? L.h1)) (lob 2 (e_ixL (nl 2 (.inl ⟨_, rfl⟩) rfl) ci (z := .ob a0) rfl) rfl (List.mem_of_getElem? L.h0)) (by simp only [List.length_map]; omega)).to (List.map_append (f := dP)).symm) ci rfl (show 1 < 3 by decide) (fun a => ?_) (fun a => ci))
    refine ⟨_, ⟨a0, a, a2, l0, l1 ++ l0, l2, 0, 3, 2, gs ++ [(a, .lst ((l1 ++ l0).map dP))], ⟨?_, ?_, ?_, by decide, by decide, by decide, L.z0, by rw [List.length_append]; omega, L.z2⟩, rfl⟩, Le.refl _⟩
    · rw [List.getElem?_append_left (by omega)]; exact L.h0
    · rw [List.getElem?_append_right (by omega), hg3]; rfl
    · rw [List.getElem?_append_left (by omega)]; exact L.h2
  clear L y0 y1 hg3
  clear a0 a1 a2 l0 l1 l2 gs
  rintro ρ' ⟨a0, a1, a2, l0, l1, l2, i0, i1, i2, gs, L, rfl⟩
  have m0 := List.mem_of_getElem? L.h0
  have m1 := List.mem_of_getElem? L.h1
  have m2 := List.mem_of_getElem? L.h2
  obtain ⟨q0, q1, q2⟩ := And.intro L.z0 (And.intro L.z1 L.z2)
  -- rows, versions
  refine sx_cons (sx_setC 4 O (eo_lc (i := 13) (xs := [(a0, l0), (a1, l1), (a2, l2)]) (g := fun x => .ob x.1) (f := fun x => rD (R x.2)) rfl sc_law.nd rfl (blk nLaw (defScope (topS 12))) (nl 2 (.inl ⟨_, rfl⟩) rfl) (show 3 ≤ 1000000 by decide) (fun x hx s H C' cl fp => ?_)) ?_)
  · have hx2 : (x.1, Cell.lst (x.2.map dP)) ∈ gs ∧ x.2.length ≤ 14 := by
      rcases List.mem_cons.mp hx with rfl | hx
      · exact ⟨m0, q0⟩
      rcases List.mem_cons.mp hx with rfl | hx
      · exact ⟨m1, q1⟩
      rw [List.mem_singleton.mp hx]
      exact ⟨m2, q2⟩
    exact x_rows T r1 (lob 2 (nm 13 rfl rfl) rfl hx2.1) (by omega)
  show SxB _ _ [.d (dS ns), .d (dI l), .own (.lst [.ob a0, .ob a1, .ob a2]) gs, x3, .acc [rD (R l0), rD (R l1), rD (R l2)], .no, .no, .no, .no, .no, .no, .no, .no, .no, .no] _
  refine sx_cons (sx_setC 5 O (eo_lc (i := 13) (xs := [(a0, l0), (a1, l1), (a2, l2)]) (g := fun x => .ob x.1) (f := fun x => vD C (R x.2)) rfl sc_law.nd rfl (blk nLaw (defScope (topS 12))) (nl 2 (.inl ⟨_, rfl⟩) rfl) (show 3 ≤ 1000000 by decide) (fun x hx s H C' cl fp => ?_)) ?_)
  · have hx2 : (x.1, Cell.lst (x.2.map dP)) ∈ gs ∧ x.2.length ≤ 14 := by
      rcases List.mem_cons.mp hx with rfl | hx
      · exact ⟨m0, q0⟩
      rcases List.mem_cons.mp hx with rfl | hx
      · exact ⟨m1, q1⟩
      rw [List.mem_singleton.mp hx]
      exact ⟨m2, q2⟩
    exact e_ver T.V r2 (lob 2 (nm 13 rfl rfl) rfl hx2.1) (by omega)
  show SxB _ _ [.d (dS ns), .d (dI l), .own (.lst [.ob a0, .ob a1, .ob a2]) gs, x3, .acc [rD (R l0), rD (R l1), rD (R l2)], .acc [vD C (R l0), vD C (R l1), vD C (R l2)], .no, .no, .no, .no, .no, .no, .no, .no, .no] _
  have s0 : (R l0).length ≤ 14 := Nat.le_trans (R_len l0) q0
  have s1 : (R l1).length ≤ 14 := Nat.le_trans (R_len l1) q1
  have s2 : (R l2).length ≤ 14 := Nat.le_trans (R_len l2) q2
  have j0 := R_is l0
  have j1 := R_is l1
  have j2 := R_is l2
  generalize R l0 = A0 at *
  generalize R l1 = A1 at *
  generalize R l2 = A2 at *
  refine sx_frz 4 _ rfl (sx_frz 5 _ rfl ?_)
  show SxB _ _ [.d (dS ns), .d (dI l), .own (.lst [.ob a0, .ob a1, .ob a2]) gs, x3, .d (.lst [rD A0, rD A1, rD A2]), .d (.lst [vD C A0, vD C A1, vD C A2]), .no, .no, .no, .no, .no, .no, .no, .no, .no] _
  -- the lists grow
  refine sx_cut (fun ρ' => ∃ x2 x3, ρ' = [.d (dS ns), .d (dI l), x2, x3, .d (.lst [rD A0, rD A1, rD A2]), .d (.lst [vD C A0, vD C A1, vD C A2]), .no, .no, .no, .no, .no, .no, .no, .no, .no]) ?_ ?_
  · refine sx_forR 3 O B.range (fun m ρ' => ∃ gs e0 e1 e2 x3, (gs[i0]? = some (a0, .lst e0) ∧ e0.length ≤ 14 + m) ∧ (gs[i1]? = some (a1, .lst e1) ∧ e1.length ≤ 14 + m) ∧ (gs[i2]? = some (a2, .lst e2) ∧ e2.length ≤ 14 + m) ∧ ρ' = [.d (dS ns), .d (dI l), .own (.lst [.ob a0, .ob a1, .ob a2]) gs, x3, .d (.lst [rD A0, rD A1, rD A2]), .d (.lst [vD C A0, vD C A1, vD C A2]), .no, .no, .no, .no, .no, .no, .no, .no, .no]) ci ⟨by decide, by decide⟩
      ⟨gs, _, _, _, _, ⟨L.h0, by rw [List.length_map]; omega⟩, ⟨L.h1, by rw [List.length_map]; omega⟩, ⟨L.h2, by rw [List.length_map]; omega⟩, rfl⟩ ?_ ?_
    · rintro m ρ' hm ⟨gs, e0, e1, e2, x3, ⟨h0, t0⟩, ⟨h1, t1⟩, ⟨h2, t2⟩, rfl⟩
      have hm' : m = 0 ∨ m = 1 ∨ m = 2 := by omega
      rcases hm' with rfl | rfl | rfl
      ·
        refine sx_one (sx_appG 2 i0 (a := a0) (e_ixL (nl 2 (.inl ⟨_, rfl⟩) rfl) (nm 3 rfl rfl) rfl) (e_tup (ea_cons ci (ea_cons ci ea_nil))) rfl h0 ⟨_, ⟨_, e0 ++ [_], e1, e2, _, ⟨List.getElem?_set_self (List.getElem?_eq_some_iff.mp h0).1, by rw [List.length_append]; simp only [List.length_singleton]; omega⟩, ⟨by rw [List.getElem?_set_ne L.n01]; exact h1, by omega⟩, ⟨by rw [List.getElem?_set_ne L.n02]; exact h2, by omega⟩, rfl⟩, Le.refl _⟩ (by omega))
      ·
        refine sx_one (sx_appG 2 i1 (a := a1) (e_ixL (nl 2 (.inl ⟨_, rfl⟩) rfl) (nm 3 rfl rfl) rfl) (e_tup (ea_cons ci (ea_cons ci ea_nil))) rfl h1 ⟨_, ⟨_, e0, e1 ++ [_], e2, _, ⟨by rw [List.getElem?_set_ne (Ne.symm L.n01)]; exact h0, by omega⟩, ⟨List.getElem?_set_self (List.getElem?_eq_some_iff.mp h1).1, by rw [List.length_append]; simp only [List.length_singleton]; omega⟩, ⟨by rw [List.getElem?_set_ne L.n12]; exact h2, by omega⟩, rfl⟩, Le.refl _⟩ (by omega))
      ·
        refine sx_one (sx_appG 2 i2 (a := a2) (e_ixL (nl 2 (.inl ⟨_, rfl⟩) rfl) (nm 3 rfl rfl) rfl) (e_tup (ea_cons ci (ea_cons ci ea_nil))) rfl h2 ⟨_, ⟨_, e0, e1, e2 ++ [_], _, ⟨by rw [List.getElem?_set_ne (Ne.symm L.n02)]; exact h0, by omega⟩, ⟨by rw [List.getElem?_set_ne (Ne.symm L.n12)]; exact h1, by omega⟩, ⟨List.getElem?_set_self (List.getElem?_eq_some_iff.mp h2).1, by rw [List.length_append]; simp only [List.length_singleton]; omega⟩, rfl⟩, Le.refl _⟩ (by omega))
    · rintro ρ' ⟨gs, e0, e1, e2, x3, _, _, _, rfl⟩
      exact ⟨_, ⟨_, _, rfl⟩, Le.refl _⟩
  clear L m0 m1 m2 gs x3
  rintro ρ' ⟨x2, x3, rfl⟩
  -- near
  refine sx_cons (sx_setA 6 O (g_near T.near B T.V.T.min T.V.T.max) r1 (aa_l (((eo_cat (eo_cat (e_ixL (nm 4 rfl rfl).l ci (z := rD A0) rfl).l (e_ixL (nm 4 rfl rfl).l ci (z := rD A1) rfl).l (by simp only [List.length_map]; omega)).l (e_ixL (nm 4 rfl rfl).l ci (z := rD A2) rfl).l (by simp only [List.length_append, List.length_map]; omega)).l).to (show (A0.map dP ++ A1.map dP) ++ A2.map dP = (A0 ++ A1 ++ A2).map dP by rw [List.map_append, List.map_append])) aa_nil) ⟨_, rfl, by simp only [List.length_append]; omega⟩ (fun r hr => ?_))
  obtain ⟨np, rfl⟩ := hr
  refine sx_frz 6 _ rfl ?_
  show SxB _ _ [.d (dS ns), .d (dI l), x2, x3, .d (.lst [rD A0, rD A1, rD A2]), .d (.lst [vD C A0, vD C A1, vD C A2]), .d (.lst (np.map dP)), .no, .no, .no, .no, .no, .no, .no, .no] _
  have at3 : ∀ m : Nat, m < 3 → ∃ A' : List Pr, ([rD A0, rD A1, rD A2] : List D)[m]? = some (rD A') ∧ ([vD C A0, vD C A1, vD C A2] : List D)[m]? = some (vD C A') ∧ IsR A' ∧ A'.length ≤ 14 := fun m hm => by
    match m, hm with
    | 0, _ => exact ⟨A0, rfl, rfl, j0, s0⟩
    | 1, _ => exact ⟨A1, rfl, rfl, j1, s1⟩
    | 2, _ => exact ⟨A2, rfl, rfl, j2, s2⟩
  refine sx_cut (fun ρ' => ∃ x3 x7, ρ' = [.d (dS ns), .d (dI l), x2, x3, .d (.lst [rD A0, rD A1, rD A2]), .d (.lst [vD C A0, vD C A1, vD C A2]), .d (.lst (np.map dP)), x7, .no, .no, .no, .no, .no, .no, .no]) ?_ ?_
  · refine sx_forR 3 O B.range (fun m ρ' => ∃ x3 x7, ρ' = [.d (dS ns), .d (dI l), x2, x3, .d (.lst [rD A0, rD A1, rD A2]), .d (.lst [vD C A0, vD C A1, vD C A2]), .d (.lst (np.map dP)), x7, .no, .no, .no, .no, .no, .no, .no]) ci ⟨by decide, by decide⟩ ⟨_, _, rfl⟩ ?_ ?_
    · rintro m ρ' hm ⟨x3, x7, rfl⟩
      obtain ⟨A', e1, e2, iA, sA⟩ := at3 m (by omega)
      refine sx_cons (sx_skip ((t_not (t_val (x_same T r5 (x_list T r3 rfl (e_ix (nm 5 rfl rfl) (nm 3 rfl rfl) (rv_ixL (atI_nat e2)))) (e_ix (nm 4 rfl rfl) (nm 3 rfl rfl) (rv_ixL (atI_nat e1))) (same_1 (by omega))))).to rfl) ?_)
      refine sx_one (sx_forL 7 O (fun i ρ' => ∃ x7, ρ' = [.d (dS ns), .d (dI l), x2, .d (.int m), .d (.lst [rD A0, rD A1, rD A2]), .d (.lst [vD C A0, vD C A1, vD C A2]), .d (.lst (np.map dP)), x7, .no, .no, .no, .no, .no, .no, .no]) (xs := np) (g := dP) (nm 6 rfl rfl) ⟨_, rfl⟩ ?_ ?_)
      · rintro i p ρ' hp ⟨x7, rfl⟩
        refine sx_one (sx_skip ((t_not (t_val (x_same T r5 ((e_inO (inG T.V) r1 (nm 7 rfl rfl) (e_ix (nm 5 rfl rfl) (nm 3 rfl rfl) (rv_ixL (atI_nat e2))) ⟨A', p, rfl, rfl⟩).to (show D.bl (inP A' p) = .bl (inV A' p) by rw [inP_fun iA])) (x_in T r1 (nm 7 rfl rfl) (e_ix (nm 4 rfl rfl) (nm 3 rfl rfl) (rv_ixL (atI_nat e1))) (by omega)) (same_b _)))).to rfl) ⟨_, ⟨_, rfl⟩, Le.refl _⟩)
      · rintro ρ' ⟨x7, rfl⟩
        exact ⟨_, ⟨_, _, rfl⟩, Le.refl _⟩
    · rintro ρ' ⟨x3, x7, rfl⟩
      exact ⟨_, ⟨_, _, rfl⟩, Le.refl _⟩
  clear x3
  rintro ρ' ⟨x3, x7, rfl⟩
  -- each two
  refine sx_cut (fun ρ' => ∃ x8 x9, ρ' = [.d (dS ns), .d (dI l), x2, x3, .d (.lst [rD A0, rD A1, rD A2]), .d (.lst [vD C A0, vD C A1, vD C A2]), .d (.lst (np.map dP)), x7, x8, x9, .no, .no, .no, .no, .no]) ?_ ?_
  · refine sx_forR 8 O B.range (fun m ρ' => ∃ x8 x9, ρ' = [.d (dS ns), .d (dI l), x2, x3, .d (.lst [rD A0, rD A1, rD A2]), .d (.lst [vD C A0, vD C A1, vD C A2]), .d (.lst (np.map dP)), x7, x8, x9, .no, .no, .no, .no, .no]) ci ⟨by decide, by decide⟩ ⟨_, _, rfl⟩ ?_ ?_
    · rintro m ρ' hm ⟨x8, x9, rfl⟩
      obtain ⟨A', e1, e2, iA, sA⟩ := at3 m (by omega)
      refine sx_one (sx_forR 9 O B.range (fun n ρ' => ∃ x9, ρ' = [.d (dS ns), .d (dI l), x2, x3, .d (.lst [rD A0, rD A1, rD A2]), .d (.lst [vD C A0, vD C A1, vD C A2]), .d (.lst (np.map dP)), x7, .d (.int m), x9, .no, .no, .no, .no, .no]) ci ⟨by decide, by decide⟩ ⟨_, rfl⟩ ?_ ?_)
      · rintro n ρ' hn ⟨x9, rfl⟩
        obtain ⟨B', f1, f2, iB, sB⟩ := at3 n (by omega)
        refine sx_one (sx_skip ((t_not (t_val (e_call (g_two T) hr (ea_cons (e_ix (nm 5 rfl rfl) (nm 8 rfl rfl) (rv_ixL (atI_nat e2))) (ea_cons (e_ix (nm 5 rfl rfl) (nm 9 rfl rfl) (rv_ixL (atI_nat f2))) (ea_cons (e_ix (nm 4 rfl rfl) (nm 8 rfl rfl) (rv_ixL (atI_nat e1))) (ea_cons (e_ix (nm 4 rfl rfl) (nm 9 rfl rfl) (rv_ixL (atI_nat f1))) ea_nil)))) ⟨A', B', rfl, iA, iB, by omega, by omega, rfl⟩))).to rfl) ⟨_, ⟨_, rfl⟩, Le.refl _⟩)
      · rintro ρ' ⟨x9, rfl⟩
        exact ⟨_, ⟨_, _, rfl⟩, Le.refl _⟩
    · rintro ρ' ⟨x8, x9, rfl⟩
      exact ⟨_, ⟨_, _, rfl⟩, Le.refl _⟩
  rintro ρ' ⟨x8, x9, rfl⟩
  -- over one another
  have lj : (R (A0 ++ A1)).length ≤ 28 := Nat.le_trans (R_len _) (by rw [List.length_append]; omega)
  have m02 : (lmet A0 A2).length ≤ 28 := Nat.le_trans (lmet_len j0 j2) (by omega)
  have m12 : (lmet A1 A2).length ≤ 28 := Nat.le_trans (lmet_len j1 j2) (by omega)
  refine sx_cons (sx_set 10 O (x_and T r3 (x_or T r3 (e_ix (nm 5 rfl rfl) ci (rv_ixL (d := vD C A0) rfl)) (e_ix (nm 5 rfl rfl) ci (rv_ixL (d := vD C A1) rfl)) (by omega) (by omega)) (e_ix (nm 5 rfl rfl) ci (rv_ixL (d := vD C A2) rfl)) (R_is _) j2 (by omega) (by omega)) ?_)
  refine sx_cons (sx_set 11 O (x_or T r3 (x_and T r3 (e_ix (nm 5 rfl rfl) ci (rv_ixL (d := vD C A0) rfl)) (e_ix (nm 5 rfl rfl) ci (rv_ixL (d := vD C A2) rfl)) j0 j2 (by omega) (by omega)) (x_and T r3 (e_ix (nm 5 rfl rfl) ci (rv_ixL (d := vD C A1) rfl)) (e_ix (nm 5 rfl rfl) ci (rv_ixL (d := vD C A2) rfl)) j1 j2 (by omega) (by omega)) (by omega) (by omega)) ?_)
  refine sx_cons (sx_set 12 O (x_met T r1 (x_rows T r1 ((eo_cat (e_ixL (nm 4 rfl rfl).l ci (z := rD A0) rfl).l (e_ixL (nm 4 rfl rfl).l ci (z := rD A1) rfl).l (by simp only [List.length_map]; omega)).l.to (List.map_append (f := dP)).symm) (by rw [List.length_append]; omega)) (e_ix (nm 4 rfl rfl) ci (rv_ixL (d := rD A2) rfl)) (by omega) (by omega)) ?_)
  rw [met_over j0 j1 j2]
  have lM : (lmet (R (A0 ++ A1)) A2).length ≤ 100 := Nat.le_trans (lmet_len (R_is _) j2) (by omega)
  generalize lmet (R (A0 ++ A1)) A2 = M at *
  show SxB _ _ [.d (dS ns), .d (dI l), x2, x3, .d (.lst [rD A0, rD A1, rD A2]), .d (.lst [vD C A0, vD C A1, vD C A2]), .d (.lst (np.map dP)), x7, x8, x9, .d (vD C M), .d (vD C M), .d (rD M), .no, .no] _
  refine sx_cons (sx_skip ((t_not (t_val (x_same T r5 (e_lst (ea_cons (x_list T r3 rfl (nm 10 rfl rfl)) (ea_cons (x_list T r3 rfl (nm 11 rfl rfl)) ea_nil))) (e_lst (ea_cons (nm 12 rfl rfl) (ea_cons (nm 12 rfl rfl) ea_nil))) (same_r (l := [M, M]) (by simp; omega) (show 2 ≤ 100 by decide))))).to rfl) ?_)
  refine sx_one (sx_ret (x_same T r5 (eo_lc (i := 14) (xs := [A0, A1, A2]) (g := fun A => vD C A) (f := rD) rfl sc_law.nd rfl (blk nLaw (defScope (topS 12))) (nm 5 rfl rfl).l (show 3 ≤ 1000000 by decide) (fun x hx s H C' cl fp => x_list T r3 rfl (nm 14 rfl rfl))).dd (nm 4 rfl rfl) (same_r (l := [A0, A1, A2]) (by simp; omega) (show 3 ≤ 100 by decide))) rfl)
end
end K76

set_option Elab.async false
set_option maxRecDepth 100000
set_option maxHeartbeats 400000
set_option linter.all false
namespace K76
open PySem L2 DL Lw
theorem dv_ints {K : PySem.W.Frag} {H : Hp} : ∀ ns : List Int, DVs K H (ns.map V.int) (ns.map D.int)
  | [] => .nil
  | n :: ns => .cons (.int n) (dv_ints ns)
theorem law_in {K : PySem.W.Frag} {H : Hp} {a : Addr} {ns : List Int} {E : XK} (hl : ns.length ≤ 63) (hS : SqL K H a (ns.map V.int)) : spD K 1 GLaw [.ref a] H (fun v _ => v = .bl true) E :=
  ⟨H, [dS ns], .bl true, Ex.refl _, .cons (.rdl hS (dv_ints ns)) .nil, rfl, ⟨ns, rfl, hl, rfl⟩, fun v Hs' H' g dv => by cases dv; rfl⟩
theorem all_mk {l : PySem.W.OpenLaw} {w : World} {K : PySem.W.Frag} {h : Heap} {mg : Str → Option Value} {fa C f0 f1 f2 f3 f4 f5 f6 f7 f8 f9 f10 f11 f12 f13 f14 f15 : Addr} (X : K.In h) (G : h.Ns mainGlobals mg) (hfa : mg "law" = some (.ref fa))
    {od0 an0 od1 an1 od2 an2 od3 an3 od4 an4 od5 an5 od6 an6 od7 an7 od8 an8 od9 an9 od10 an10 od11 an11 od12 an12 od13 an13 od14 an14 od15 an15 : Option Addr} {sl0 sl1 sl2 sl3 sl4 sl5 sl6 sl7 sl8 sl9 sl10 sl11 sl12 sl13 sl14 sl15 : Array (Option Value)} {oc0 kV0 dc0 pm0 cd0 ct0 oc1 kV1 dc1 pm1 cd1 ct1 oc2 kV2 dc2 pm2 cd2 ct2 oc3 kV3 dc3 pm3 cd3 ct3 oc4 kV4 dc4 pm4 cd4 ct4 oc5 kV5 dc5 pm5 cd5 ct5 oc6 kV6 dc6 pm6 cd6 ct6 oc7 kV7 dc7 pm7 cd7 ct7 oc8 kV8 dc8 pm8 cd8 ct8 oc9 kV9 dc9 pm9 cd9 ct9 oc10 kV10 dc10 pm10 cd10 ct10 oc11 kV11 dc11 pm11 cd11 ct11 oc12 kV12 dc12 pm12 cd12 ct12 oc13 kV13 dc13 pm13 cd13 ct13 oc14 kV14 dc14 pm14 cd14 ct14 oc15 kV15 dc15 pm15 cd15 ct15 : Value}
    (aC : PySem.W.nsIn K mainGlobals "Version" = some (some (.ref C)))
    (a0 : PySem.W.nsIn K mainGlobals "_law_stream" = some (some (.ref f0))) (l0 : K.lookup f0 = some ⟨oc0, od0, .func (PySem.W.fnOf "_law_stream" "_law_stream" (defArgs (topS 3)) (defBody (topS 3)) (defScope (topS 3)) .none kV0 dc0 pm0 an0 cd0 ct0), sl0⟩) (c0 : PySem.W.codeIn K cd0 "_law_stream" = true) (k0 : PySem.W.keepIn K (.ref f0) = true)
    (a1 : PySem.W.nsIn K mainGlobals "_law_whole" = some (some (.ref f1))) (l1 : K.lookup f1 = some ⟨oc1, od1, .func (PySem.W.fnOf "_law_whole" "_law_whole" (defArgs (topS 4)) (defBody (topS 4)) (defScope (topS 4)) .none kV1 dc1 pm1 an1 cd1 ct1), sl1⟩) (c1 : PySem.W.codeIn K cd1 "_law_whole" = true) (k1 : PySem.W.keepIn K (.ref f1) = true)
    (a2 : PySem.W.nsIn K mainGlobals "_law_same" = some (some (.ref f2))) (l2 : K.lookup f2 = some ⟨oc2, od2, .func (PySem.W.fnOf "_law_same" "_law_same" (defArgs (topS 5)) (defBody (topS 5)) (defScope (topS 5)) .none kV2 dc2 pm2 an2 cd2 ct2), sl2⟩) (c2 : PySem.W.codeIn K cd2 "_law_same" = true) (k2 : PySem.W.keepIn K (.ref f2) = true)
    (a3 : PySem.W.nsIn K mainGlobals "_law_rows" = some (some (.ref f3))) (l3 : K.lookup f3 = some ⟨oc3, od3, .func (PySem.W.fnOf "_law_rows" "_law_rows" (defArgs (topS 6)) (defBody (topS 6)) (defScope (topS 6)) .none kV3 dc3 pm3 an3 cd3 ct3), sl3⟩) (c3 : PySem.W.codeIn K cd3 "_law_rows" = true) (k3 : PySem.W.keepIn K (.ref f3) = true)
    (a4 : PySem.W.nsIn K mainGlobals "_law_pairs" = some (some (.ref f4))) (l4 : K.lookup f4 = some ⟨oc4, od4, .func (PySem.W.fnOf "_law_pairs" "_law_pairs" (defArgs (topS 7)) (defBody (topS 7)) (defScope (topS 7)) .none kV4 dc4 pm4 an4 cd4 ct4), sl4⟩) (c4 : PySem.W.codeIn K cd4 "_law_pairs" = true) (k4 : PySem.W.keepIn K (.ref f4) = true)
    (a5 : PySem.W.nsIn K mainGlobals "_law_in" = some (some (.ref f5))) (l5 : K.lookup f5 = some ⟨oc5, od5, .func (PySem.W.fnOf "_law_in" "_law_in" (defArgs (topS 8)) (defBody (topS 8)) (defScope (topS 8)) .none kV5 dc5 pm5 an5 cd5 ct5), sl5⟩) (c5 : PySem.W.codeIn K cd5 "_law_in" = true) (k5 : PySem.W.keepIn K (.ref f5) = true)
    (a6 : PySem.W.nsIn K mainGlobals "_law_met" = some (some (.ref f6))) (l6 : K.lookup f6 = some ⟨oc6, od6, .func (PySem.W.fnOf "_law_met" "_law_met" (defArgs (topS 9)) (defBody (topS 9)) (defScope (topS 9)) .none kV6 dc6 pm6 an6 cd6 ct6), sl6⟩) (c6 : PySem.W.codeIn K cd6 "_law_met" = true) (k6 : PySem.W.keepIn K (.ref f6) = true)
    (a7 : PySem.W.nsIn K mainGlobals "_law_near" = some (some (.ref f7))) (l7 : K.lookup f7 = some ⟨oc7, od7, .func (PySem.W.fnOf "_law_near" "_law_near" (defArgs (topS 10)) (defBody (topS 10)) (defScope (topS 10)) .none kV7 dc7 pm7 an7 cd7 ct7), sl7⟩) (c7 : PySem.W.codeIn K cd7 "_law_near" = true) (k7 : PySem.W.keepIn K (.ref f7) = true)
    (a8 : PySem.W.nsIn K mainGlobals "_law_two" = some (some (.ref f8))) (l8 : K.lookup f8 = some ⟨oc8, od8, .func (PySem.W.fnOf "_law_two" "_law_two" (defArgs (topS 11)) (defBody (topS 11)) (defScope (topS 11)) .none kV8 dc8 pm8 an8 cd8 ct8), sl8⟩) (c8 : PySem.W.codeIn K cd8 "_law_two" = true) (k8 : PySem.W.keepIn K (.ref f8) = true)
    (a9 : PySem.W.nsIn K mainGlobals "law" = some (some (.ref f9))) (l9 : K.lookup f9 = some ⟨oc9, od9, .func (PySem.W.fnOf "law" "law" (defArgs (topS 12)) (defBody (topS 12)) (defScope (topS 12)) .none kV9 dc9 pm9 an9 cd9 ct9), sl9⟩) (c9 : PySem.W.codeIn K cd9 "law" = true) (k9 : PySem.W.keepIn K (.ref f9) = true)
    (a10 : PySem.W.findIn K (.ref C) "__init__" = some (some (.ref f10))) (i10 : PySem.W.isFn K (.ref f10) = true) (l10 : K.lookup f10 = some ⟨oc10, od10, .func (PySem.W.fnOf "__init__" "Version.__init__" (defArgs (sV 0)) (defBody (sV 0)) (defScope (sV 0)) .none kV10 dc10 pm10 an10 cd10 ct10), sl10⟩) (c10 : PySem.W.codeIn K cd10 "Version.__init__" = true) (k10 : PySem.W.keepIn K (.ref f10) = true)
    (a11 : PySem.W.findIn K (.ref C) "__iter__" = some (some (.ref f11))) (i11 : PySem.W.isFn K (.ref f11) = true) (l11 : K.lookup f11 = some ⟨oc11, od11, .func (PySem.W.fnOf "__iter__" "Version.__iter__" (defArgs (sV 1)) (defBody (sV 1)) (defScope (sV 1)) .none kV11 dc11 pm11 an11 cd11 ct11), sl11⟩) (c11 : PySem.W.codeIn K cd11 "Version.__iter__" = true) (k11 : PySem.W.keepIn K (.ref f11) = true)
    (a12 : PySem.W.findIn K (.ref C) "__contains__" = some (some (.ref f12))) (i12 : PySem.W.isFn K (.ref f12) = true) (l12 : K.lookup f12 = some ⟨oc12, od12, .func (PySem.W.fnOf "__contains__" "Version.__contains__" (defArgs (sV 2)) (defBody (sV 2)) (defScope (sV 2)) .none kV12 dc12 pm12 an12 cd12 ct12), sl12⟩) (c12 : PySem.W.codeIn K cd12 "Version.__contains__" = true) (k12 : PySem.W.keepIn K (.ref f12) = true)
    (a13 : PySem.W.findIn K (.ref C) "__or__" = some (some (.ref f13))) (i13 : PySem.W.isFn K (.ref f13) = true) (l13 : K.lookup f13 = some ⟨oc13, od13, .func (PySem.W.fnOf "__or__" "Version.__or__" (defArgs (sV 3)) (defBody (sV 3)) (defScope (sV 3)) .none kV13 dc13 pm13 an13 cd13 ct13), sl13⟩) (c13 : PySem.W.codeIn K cd13 "Version.__or__" = true) (k13 : PySem.W.keepIn K (.ref f13) = true)
    (a14 : PySem.W.findIn K (.ref C) "__and__" = some (some (.ref f14))) (i14 : PySem.W.isFn K (.ref f14) = true) (l14 : K.lookup f14 = some ⟨oc14, od14, .func (PySem.W.fnOf "__and__" "Version.__and__" (defArgs (sV 4)) (defBody (sV 4)) (defScope (sV 4)) .none kV14 dc14 pm14 an14 cd14 ct14), sl14⟩) (c14 : PySem.W.codeIn K cd14 "Version.__and__" = true) (k14 : PySem.W.keepIn K (.ref f14) = true)
    (a15 : PySem.W.findIn K (.ref C) "covers" = some (some (.ref f15))) (i15 : PySem.W.isFn K (.ref f15) = true) (l15 : K.lookup f15 = some ⟨oc15, od15, .func (PySem.W.fnOf "covers" "Version.covers" (defArgs (sV 5)) (defBody (sV 5)) (defScope (sV 5)) .none kV15 dc15 pm15 an15 cd15 ct15), sl15⟩) (c15 : PySem.W.codeIn K cd15 "Version.covers" = true) (k15 : PySem.W.keepIn K (.ref f15) = true)
    (pg : PySem.W.plainGet K C Str.empty = true) (hd : PySem.W.hasDictIn K C = true) (po : PySem.W.plainOver K C = true) (sa : PySem.W.findIn K (.ref C) "__setattr__" = some (some (.builtin "object.__setattr__"))) (mk : PySem.W.makesIn K C = true) (kc : PySem.W.keepIn K (.ref C) = true) (nR : PySem.W.findIn K (.ref C) "rows" = some none) (sf : PySem.W.selfFirst K C = true) (nl : PySem.W.findIn K (.ref C) "__len__" = some none) (nh : PySem.W.findIn K (.ref C) "__length_hint__" = some none)
    (z_isinstance : PySem.W.nsIn K mainGlobals "isinstance" = some none) (z_int : PySem.W.nsIn K mainGlobals "int" = some none) (z_bool : PySem.W.nsIn K mainGlobals "bool" = some none) (z_str : PySem.W.nsIn K mainGlobals "str" = some none) (z_list : PySem.W.nsIn K mainGlobals "list" = some none) (z_tuple : PySem.W.nsIn K mainGlobals "tuple" = some none) (z_len : PySem.W.nsIn K mainGlobals "len" = some none) (z_range : PySem.W.nsIn K mainGlobals "range" = some none) (z_iter : PySem.W.nsIn K mainGlobals "iter" = some none) (z_sorted : PySem.W.nsIn K mainGlobals "sorted" = some none) (z_min : PySem.W.nsIn K mainGlobals "min" = some none) (z_max : PySem.W.nsIn K mainGlobals "max" = some none) :
    ∃ fd : FuncData, (∀ (s : Shared) (v : Value), BindsTo s fd ⟨[v], []⟩ [("script", v)]) ∧ ∀ base : Heap, K.In base → base.Ns mainGlobals mg → FnOk l.prog w K mg base CX0 7 fa fd ["script"] (spD K 1 GLaw) := by
  have e := hfa.symm.trans (PySem.W.mg_of X G a9)
  cases e
  have F0 := fun_mk (st := (topS 3)) l0 c0 k0
  have F1 := fun_mk (st := (topS 4)) l1 c1 k1
  have F2 := fun_mk (st := (topS 5)) l2 c2 k2
  have F3 := fun_mk (st := (topS 6)) l3 c3 k3
  have F4 := fun_mk (st := (topS 7)) l4 c4 k4
  have F5 := fun_mk (st := (topS 8)) l5 c5 k5
  have F6 := fun_mk (st := (topS 9)) l6 c6 k6
  have F7 := fun_mk (st := (topS 10)) l7 c7 k7
  have F8 := fun_mk (st := (topS 11)) l8 c8 k8
  have F9 := fun_mk (st := (topS 12)) l9 c9 k9
  have F10 := fun_mk (st := (sV 0)) l10 c10 k10
  have F11 := fun_mk (st := (sV 1)) l11 c11 k11
  have F12 := fun_mk (st := (sV 2)) l12 c12 k12
  have F13 := fun_mk (st := (sV 3)) l13 c13 k13
  have F14 := fun_mk (st := (sV 4)) l14 c14 k14
  have F15 := fun_mk (st := (sV 5)) l15 c15 k15
  have T0 : DefAt K mg "_law_stream" (topS 3) := ⟨f0, _, F0, PySem.W.mg_of X G a0⟩
  have T1 : DefAt K mg "_law_whole" (topS 4) := ⟨f1, _, F1, PySem.W.mg_of X G a1⟩
  have T2 : DefAt K mg "_law_same" (topS 5) := ⟨f2, _, F2, PySem.W.mg_of X G a2⟩
  have T3 : DefAt K mg "_law_rows" (topS 6) := ⟨f3, _, F3, PySem.W.mg_of X G a3⟩
  have T4 : DefAt K mg "_law_pairs" (topS 7) := ⟨f4, _, F4, PySem.W.mg_of X G a4⟩
  have T5 : DefAt K mg "_law_in" (topS 8) := ⟨f5, _, F5, PySem.W.mg_of X G a5⟩
  have T6 : DefAt K mg "_law_met" (topS 9) := ⟨f6, _, F6, PySem.W.mg_of X G a6⟩
  have T7 : DefAt K mg "_law_near" (topS 10) := ⟨f7, _, F7, PySem.W.mg_of X G a7⟩
  have T8 : DefAt K mg "_law_two" (topS 11) := ⟨f8, _, F8, PySem.W.mg_of X G a8⟩
  have M10 : MethAt K C "__init__" "Version.__init__" (sV 0) f10 _ := ⟨F10, a10, i10⟩
  have M11 : MethAt K C "__iter__" "Version.__iter__" (sV 1) f11 _ := ⟨F11, a11, i11⟩
  have M12 : MethAt K C "__contains__" "Version.__contains__" (sV 2) f12 _ := ⟨F12, a12, i12⟩
  have M13 : MethAt K C "__or__" "Version.__or__" (sV 3) f13 _ := ⟨F13, a13, i13⟩
  have M14 : MethAt K C "__and__" "Version.__and__" (sV 4) f14 _ := ⟨F14, a14, i14⟩
  have M15 : MethAt K C "covers" "Version.covers" (sV 5) f15 _ := ⟨F15, a15, i15⟩
  have g_isinstance := PySem.W.mg_none_of X G z_isinstance
  have g_int := PySem.W.mg_none_of X G z_int
  have g_bool := PySem.W.mg_none_of X G z_bool
  have g_str := PySem.W.mg_none_of X G z_str
  have g_list := PySem.W.mg_none_of X G z_list
  have g_tuple := PySem.W.mg_none_of X G z_tuple
  have g_len := PySem.W.mg_none_of X G z_len
  have g_range := PySem.W.mg_none_of X G z_range
  have g_iter := PySem.W.mg_none_of X G z_iter
  have g_sorted := PySem.W.mg_none_of X G z_sorted
  have g_min := PySem.W.mg_none_of X G z_min
  have g_max := PySem.W.mg_none_of X G z_max
  have T : LT K mg C := ⟨⟨⟨PySem.W.mg_of X G aC, ⟨pg, hd, po, sa⟩, nR, sf, g_iter, g_sorted, g_min, g_max⟩, ⟨g_isinstance, g_int, g_bool, g_str, g_list, g_tuple, g_len, g_range⟩,
    ⟨_, _, F10, ⟨mk, a10, i10, kc⟩⟩, ⟨_, _, F11, ⟨a11, i11, nl, nh⟩⟩, ⟨_, _, M12⟩, ⟨_, _, M13⟩, ⟨_, _, M14⟩, ⟨_, _, M15⟩⟩, T0, T1, T2, T3, T4, T5, T6, T7, T8⟩
  exact ⟨PySem.W.fnOf "law" "law" (defArgs (topS 12)) (defBody (topS 12)) (defScope (topS 12)) .none kV9 dc9 pm9 an9 cd9 ct9, fun s v => .of_eq rfl, fun base _ _ => g_law T F9⟩

end K76
open PySem PySem.W PyProof.Rows
set_option maxHeartbeats 0 in
theorem PySem.Challenge.cw_marksandbranches_k76_versions_joined_and_holds : PySem.Challenge.rw_marksandbranches_k76_versions_joined_and.Holds := by
  w_on; o_law; k_head; (case hw => w_witness2)
  k_fill
  refine L2.walk_of (l := PySem.Challenge.rw_marksandbranches_k76_versions_joined_and) (n := 63) (k := 7) (x := "script") (CX := fun _ => L2.CX0) (sp := fun w => DL.spD _ 1 K76.GLaw) rfl (by decide) rfl ⟨rfl, by decide, by decide⟩ (fun w h Y => PySem.W.kIn_of Y) ?F (fun _ H a ns hl _ hS => K76.law_in hl hS) (fun _ _ _ _ _ h => h)
  case F =>
    intro w mg fa h KX G hmg
    refine' K76.all_mk KX G hmg ?aC ?a0 ?l0 ?c0 ?k0 ?a1 ?l1 ?c1 ?k1 ?a2 ?l2 ?c2 ?k2 ?a3 ?l3 ?c3 ?k3 ?a4 ?l4 ?c4 ?k4 ?a5 ?l5 ?c5 ?k5 ?a6 ?l6 ?c6 ?k6 ?a7 ?l7 ?c7 ?k7 ?a8 ?l8 ?c8 ?k8 ?a9 ?l9 ?c9 ?k9 ?a10 ?i10 ?l10 ?c10 ?k10 ?a11 ?i11 ?l11 ?c11 ?k11 ?a12 ?i12 ?l12 ?c12 ?k12 ?a13 ?i13 ?l13 ?c13 ?k13 ?a14 ?i14 ?l14 ?c14 ?k14 ?a15 ?i15 ?l15 ?c15 ?k15 ?pg ?hd ?po ?sa ?mk ?kc ?nR ?sf ?nl ?nh ?z_isinstance ?z_int ?z_bool ?z_str ?z_list ?z_tuple ?z_len ?z_range ?z_iter ?z_sorted ?z_min ?z_max
    (case aC => k_is); (case a0 => k_is); (case l0 => k_is); (case c0 => k_is); (case k0 => k_is); (case a1 => k_is); (case l1 => k_is); (case c1 => k_is); (case k1 => k_is); (case a2 => k_is); (case l2 => k_is); (case c2 => k_is); (case k2 => k_is); (case a3 => k_is); (case l3 => k_is); (case c3 => k_is); (case k3 => k_is); (case a4 => k_is); (case l4 => k_is); (case c4 => k_is); (case k4 => k_is); (case a5 => k_is); (case l5 => k_is); (case c5 => k_is); (case k5 => k_is); (case a6 => k_is); (case l6 => k_is); (case c6 => k_is); (case k6 => k_is); (case a7 => k_is); (case l7 => k_is); (case c7 => k_is); (case k7 => k_is); (case a8 => k_is); (case l8 => k_is); (case c8 => k_is); (case k8 => k_is); (case a9 => k_is); (case l9 => k_is); (case c9 => k_is); (case k9 => k_is); (case a10 => k_is); (case i10 => k_is); (case l10 => k_is); (case c10 => k_is); (case k10 => k_is); (case a11 => k_is); (case i11 => k_is); (case l11 => k_is); (case c11 => k_is); (case k11 => k_is); (case a12 => k_is); (case i12 => k_is); (case l12 => k_is); (case c12 => k_is); (case k12 => k_is); (case a13 => k_is); (case i13 => k_is); (case l13 => k_is); (case c13 => k_is); (case k13 => k_is); (case a14 => k_is); (case i14 => k_is); (case l14 => k_is); (case c14 => k_is); (case k14 => k_is); (case a15 => k_is); (case i15 => k_is); (case l15 => k_is); (case c15 => k_is); (case k15 => k_is); (case pg => k_is); (case hd => k_is); (case po => k_is); (case sa => k_is); (case mk => k_is); (case kc => k_is); (case nR => k_is); (case sf => k_is); (case nl => k_is); (case nh => k_is); (case z_isinstance => k_is); (case z_int => k_is); (case z_bool => k_is); (case z_str => k_is); (case z_list => k_is); (case z_tuple => k_is); (case z_len => k_is); (case z_range => k_is); (case z_iter => k_is); (case z_sorted => k_is); (case z_min => k_is); (case z_max => k_is)


