import PyProof.Rows.All
import Wide.All
import OpenK.AllK
import Wide.FinOn
import HandS.ForMost
import HandS.Evl
import HandS.Deep
import HandS.IsInst
import HandS.Style
import HandS.TupAny
import HandS.TupMul
import PyProof.FactsAll.tuple_2
import HandS.SetFor
import HandS.Strs
import HandS.Conv
import HandS.EndBits
import PySem.Challenge.RW_tracetalk_k21_news_for_long
set_option Elab.async false
set_option linter.all false
set_option maxRecDepth 100000
set_option maxHeartbeats 4000000
namespace Lt
open PySem PySem.Spec PyProof.Rows L2 Evl

/-! ### data -/
inductive DV where
  | non | bl (b : Bool) | int (i : Int) | str (x : Str) | tup (xs : List DV) | lst (xs : List DV)
  | obj (C : Addr) (ns : List Str) (ds : List DV) | scr (ns : List Int) | ref (a : Addr) | ty (n : String)
inductive MO where
  | lst (ds : List DV) | dK (kvs : List (Key × DV)) | dT (kvs : List (List Key × DV)) | ins (C : Addr) (ns : List Str) (ds : List DV)
abbrev Mem := List (Addr × MO)
abbrev DSt := List (Option DV)
abbrev DQ := DV → Mem → Prop
abbrev DTE := DSt → Mem → DQ → Prop
abbrev DTT := DSt → Mem → (Bool → Mem → Prop) → Prop
abbrev DTA := DSt → Mem → (List DV → Mem → Prop) → Prop
def get : Mem → Addr → Option MO
  | [], _ => none
  | (b, o) :: r, a => if a = b then some o else get r a
def put : Mem → Addr → MO → Mem
  | [], _, _ => []
  | (b, x) :: r, a, o => if a = b then (b, o) :: r else (b, x) :: put r a o
def del : Mem → Addr → Mem
  | [], _ => []
  | (b, x) :: r, a => if a = b then del r a else (b, x) :: del r a
def Fresh (p : Addr) (M : Mem) : Prop := ∀ b ∈ M.map (·.1), p ≠ b

mutual
inductive Rep (K : PySem.W.Frag) (F : Hp) : V → DV → Prop
  | non : Rep K F .non .non
  | bl (b : Bool) : Rep K F (.bl b) (.bl b)
  | int (i : Int) : Rep K F (.int i) (.int i)
  | str (x : Str) : Rep K F (.str x) (.str x)
  | ref (a : Addr) : Rep K F (.ref a) (.ref a)
  | ty (n : String) : Rep K F (.ty n) (.ty n)
  | tup {a : Addr} {vs : List V} {ds : List DV} : F a = some (.tup vs) → Reps K F vs ds → Rep K F (.ref a) (.tup ds)
  | lst {a : Addr} {vs : List V} {ds : List DV} : F a = some (.lst vs) → Reps K F vs ds → Rep K F (.ref a) (.lst ds)
  | scr {a : Addr} {ns : List Int} : SqL K F a (ns.map V.int) → Rep K F (.ref a) (.scr ns)
  | obj {a C dx : Addr} {fs : List (Str × V)} {ns : List Str} {ds : List DV} : F a = some (.ins C dx fs) → fs.map (·.1) = ns → Reps K F (fs.map (·.2)) ds → Rep K F (.ref a) (.obj C ns ds)
inductive Reps (K : PySem.W.Frag) (F : Hp) : List V → List DV → Prop
  | nil : Reps K F [] []
  | cons {v : V} {vs : List V} {d : DV} {ds : List DV} : Rep K F v d → Reps K F vs ds → Reps K F (v :: vs) (d :: ds)
end

section
variable {K : PySem.W.Frag} {F G H F2 H2 : Hp}
mutual
theorem Rep.mono (e : Ex F F2) : ∀ (d : DV) (v : V), Rep K F v d → Rep K F2 v d
  | .non, _, h => by cases h; exact .non
  | .bl _, _, h => by cases h; exact .bl _
  | .int _, _, h => by cases h; exact .int _
  | .str _, _, h => by cases h; exact .str _
  | .ref _, _, h => by cases h; exact .ref _
  | .ty _, _, h => by cases h; exact .ty _
  | .scr _, _, h => by cases h with | scr h => exact .scr (ex_l e h)
  | .tup ds, _, h => by cases h with | tup h r => exact .tup (e _ _ h) (Reps.mono e ds _ r)
  | .lst ds, _, h => by cases h with | lst h r => exact .lst (e _ _ h) (Reps.mono e ds _ r)
  | .obj C ns ds, _, h => by cases h with | obj h n r => exact .obj (e _ _ h) n (Reps.mono e ds _ r)
theorem Reps.mono (e : Ex F F2) : ∀ (ds : List DV) (vs : List V), Reps K F vs ds → Reps K F2 vs ds
  | [], _, h => by cases h; exact .nil
  | d :: ds, _, h => by cases h with | cons a b => exact .cons (Rep.mono e d _ a) (Reps.mono e ds _ b)
end
theorem Rep.up {v : V} {d : DV} (h : Rep K F v d) (e : Ex F F2) : Rep K F2 v d := Rep.mono e d v h
theorem Reps.up {vs : List V} {ds : List DV} (h : Reps K F vs ds) (e : Ex F F2) : Reps K F2 vs ds := Reps.mono e ds vs h
theorem Reps.length : ∀ {vs : List V} {ds : List DV}, Reps K F vs ds → vs.length = ds.length
  | _, _, .nil => rfl
  | _, _, .cons _ r => by simp [Reps.length r]
theorem Reps.at : ∀ {vs : List V} {ds : List DV} {i : Nat} {d : DV}, Reps K F vs ds → ds[i]? = some d → ∃ v, vs[i]? = some v ∧ Rep K F v d
  | _, _, _, _, .nil, e => by simp at e
  | _, _, 0, _, .cons r _, e => by simp at e; subst e; exact ⟨_, rfl, r⟩
  | _, _, i + 1, _, .cons _ t, e => by
    obtain ⟨u, h1, h2⟩ := Reps.at (i := i) t (by simpa using e)
    exact ⟨u, by simpa using h1, h2⟩
theorem Reps.at' : ∀ {vs : List V} {ds : List DV} {i : Nat} {v : V}, Reps K F vs ds → vs[i]? = some v → ∃ d, ds[i]? = some d ∧ Rep K F v d
  | _, _, _, _, .nil, e => by simp at e
  | _, _, 0, _, .cons r _, e => by simp at e; subst e; exact ⟨_, rfl, r⟩
  | _, _, i + 1, _, .cons _ t, e => by
    obtain ⟨u, h1, h2⟩ := Reps.at' (i := i) t (by simpa using e)
    exact ⟨u, by simpa using h1, h2⟩
theorem Reps.app : ∀ {vs us : List V} {ds es : List DV}, Reps K F vs ds → Reps K F us es → Reps K F (vs ++ us) (ds ++ es)
  | _, _, _, _, .nil, s => s
  | _, _, _, _, .cons r t, s => .cons r (Reps.app t s)
theorem Reps.set : ∀ {vs : List V} {ds : List DV} {v : V} {d : DV} (i : Nat), Reps K F vs ds → Rep K F v d → Reps K F (vs.set i v) (ds.set i d)
  | _, _, _, _, _, .nil, _ => .nil
  | _, _, _, _, 0, .cons _ t, r => .cons r t
  | _, _, _, _, i + 1, .cons q t, r => .cons q (Reps.set i t r)
theorem Reps.take : ∀ {vs : List V} {ds : List DV} (n : Nat), Reps K F vs ds → Reps K F (vs.take n) (ds.take n)
  | _, _, 0, _ => .nil
  | _, _, _ + 1, .nil => .nil
  | _, _, n + 1, .cons r t => .cons r (Reps.take n t)
theorem Reps.drop : ∀ {vs : List V} {ds : List DV} (n : Nat), Reps K F vs ds → Reps K F (vs.drop n) (ds.drop n)
  | _, _, 0, r => r
  | _, _, _ + 1, .nil => .nil
  | _, _, n + 1, .cons _ t => Reps.drop n t
theorem Reps.rev {vs : List V} {ds : List DV} (h : Reps K F vs ds) : Reps K F vs.reverse ds.reverse := by
  induction ds generalizing vs with
  | nil => cases h; exact .nil
  | cons d ds ih => cases h with | cons a b => rw [List.reverse_cons, List.reverse_cons]; exact (ih b).app (.cons a .nil)
theorem Reps.ints : ∀ (ns : List Int), Reps K F (ns.map V.int) (ns.map DV.int)
  | [] => .nil
  | n :: r => .cons (.int n) (Reps.ints r)
theorem Reps.ints_inv : ∀ {ns : List Int} {vs : List V}, Reps K F vs (ns.map DV.int) → vs = ns.map V.int
  | [], _, h => by cases h; rfl
  | n :: r, _, h => by cases h with | cons a b => cases a; rw [Reps.ints_inv b]; rfl
theorem Reps.dropLast {vs : List V} {ds : List DV} (h : Reps K F vs ds) : Reps K F vs.dropLast ds.dropLast := by
  rw [List.dropLast_eq_take, List.dropLast_eq_take, h.length]
  exact h.take _
theorem Reps.erase : ∀ {vs : List V} {ds : List DV} (i : Nat), Reps K F vs ds → Reps K F (vs.eraseIdx i) (ds.eraseIdx i)
  | _, _, _, .nil => .nil
  | _, _, 0, .cons _ t => t
  | _, _, i + 1, .cons r t => .cons r (Reps.erase i t)
theorem Reps.rep {vs : List V} {ds : List DV} (h : Reps K F vs ds) : ∀ k : Nat, Reps K F (List.replicate k vs).flatten (List.replicate k ds).flatten
  | 0 => .nil
  | k + 1 => by rw [List.replicate_succ, List.replicate_succ, List.flatten_cons, List.flatten_cons]; exact h.app (Reps.rep h k)

/-! ### the memory as it lies in the abstract heap -/
def MRel (K : PySem.W.Frag) (F H : Hp) (a : Addr) : MO → Prop
  | .lst ds => ∃ vs, H a = some (.lst vs) ∧ Reps K F vs ds
  | .dK kvs => ∃ vs, H a = some (.dK vs) ∧ vs.map (·.1) = kvs.map (·.1) ∧ Reps K F (vs.map (·.2)) (kvs.map (·.2))
  | .dT kvs => ∃ vs, H a = some (.dT vs) ∧ vs.map (·.1) = kvs.map (·.1) ∧ Reps K F (vs.map (·.2)) (kvs.map (·.2))
  | .ins C ns ds => ∃ dx fs, H a = some (.ins C dx fs) ∧ fs.map (·.1) = ns ∧ Reps K F (fs.map (·.2)) ds
theorem MRel.there {a : Addr} {o : MO} (h : MRel K F H a o) : ∃ u, H a = some u := by
  cases o with
  | lst _ => obtain ⟨_, e, _⟩ := h; exact ⟨_, e⟩
  | dK _ => obtain ⟨_, e, _⟩ := h; exact ⟨_, e⟩
  | dT _ => obtain ⟨_, e, _⟩ := h; exact ⟨_, e⟩
  | ins _ _ _ => obtain ⟨_, _, e, _⟩ := h; exact ⟨_, e⟩
theorem MRel.up {a : Addr} {o : MO} (h : MRel K F H a o) (e : Ex F F2) (e2 : H2 a = H a) : MRel K F2 H2 a o := by
  cases o with
  | lst _ => obtain ⟨_, q, r⟩ := h; exact ⟨_, e2.trans q, r.up e⟩
  | dK _ => obtain ⟨_, q, n, r⟩ := h; exact ⟨_, e2.trans q, n, r.up e⟩
  | dT _ => obtain ⟨_, q, n, r⟩ := h; exact ⟨_, e2.trans q, n, r.up e⟩
  | ins _ _ _ => obtain ⟨_, _, q, n, r⟩ := h; exact ⟨_, _, e2.trans q, n, r.up e⟩
structure Rel (K : PySem.W.Frag) (F : Hp) (M : Mem) (G H : Hp) : Prop where
  exF : Ex F H
  exG : Ex G H
  mem : ∀ a o, get M a = some o → F a = none ∧ G a = none ∧ MRel K F H a o
theorem get_cons {M : Mem} {a b : Addr} {o : MO} : get ((b, o) :: M) a = if a = b then some o else get M a := rfl
theorem get_mem : ∀ {M : Mem} {a : Addr} {o : MO}, get M a = some o → a ∈ M.map (·.1)
  | [], _, _, h => by cases h
  | (b, x) :: r, a, o, h => by
    rw [get_cons] at h
    by_cases e : a = b
    · simp [e]
    · rw [if_neg e] at h; exact List.mem_cons_of_mem _ (get_mem h)
theorem get_put {o x : MO} : ∀ {M : Mem} {a : Addr}, get M a = some x → ∀ b, get (put M a o) b = if b = a then some o else get M b
  | [], _, h, _ => by cases h
  | (c, y) :: r, a, h, b => by
    rw [get_cons] at h
    unfold put
    by_cases e : a = c
    · subst e
      rw [if_pos rfl, get_cons, get_cons]
      by_cases e2 : b = a
      · rw [if_pos e2, if_pos e2]
      · rw [if_neg e2, if_neg e2, if_neg e2]
    · rw [if_neg e] at h ⊢
      rw [get_cons, get_cons, get_put h b]
      by_cases e2 : b = c
      · have : b ≠ a := fun z => e (z ▸ e2 ▸ rfl)
        rw [if_pos e2, if_neg this, if_pos e2]
      · rw [if_neg e2, if_neg e2]
theorem get_del {a : Addr} : ∀ (M : Mem) (b : Addr), get (del M a) b = if b = a then none else get M b
  | [], _ => by simp [get, del]
  | (c, y) :: r, b => by
    unfold del
    by_cases e : a = c
    · subst e
      rw [if_pos rfl, get_del r b, get_cons]
      by_cases e2 : b = a
      · rw [if_pos e2, if_pos e2]
      · rw [if_neg e2, if_neg e2, if_neg e2]
    · rw [if_neg e, get_cons, get_cons, get_del r b]
      by_cases e2 : b = c
      · have : b ≠ a := fun z => e (z ▸ e2)
        rw [if_pos e2, if_neg this, if_pos e2]
      · rw [if_neg e2, if_neg e2]
theorem get_app : ∀ (M N : Mem) (a : Addr), get (M ++ N) a = match get M a with | some o => some o | none => get N a
  | [], _, _ => rfl
  | (c, y) :: r, N, a => by
    rw [List.cons_append, get_cons, get_cons]
    by_cases e : a = c
    · rw [if_pos e, if_pos e]
    · rw [if_neg e, if_neg e]; exact get_app r N a
end
end Lt
namespace Lt
open PySem PySem.Spec PyProof.Rows L2 Evl

/-- F2 has all that is frozen in F; what is new in it is none of G -/
structure Gr (F G F2 : Hp) : Prop where
  ex : Ex F F2
  nw : ∀ a u, F2 a = some u → F a = none → G a = none
section
variable {K : PySem.W.Frag} {F G H F2 F3 H2 : Hp} {M : Mem} {a p : Addr}
theorem Gr.refl : Gr F G F := ⟨Ex.refl F, fun a u h n => by rw [h] at n; cases n⟩
theorem Gr.trans (x : Gr F G F2) (y : Gr F2 G F3) : Gr F G F3 := ⟨x.ex.trans y.ex, fun a u h n => by
  cases q : F2 a with
  | none => exact y.nw a u h q
  | some w => exact x.nw a w q n⟩
theorem Rel.out (R : Rel K F M G H) (h : H p = none) : F p = none ∧ G p = none ∧ Fresh p M ∧ get M p = none := by
  refine ⟨fresh_back R.exF h, fresh_back R.exG h, ?_, ?_⟩
  · have hall : ∀ b, get M b ≠ none → p ≠ b := fun b hb e => by
      subst e
      cases q : get M p with
      | none => exact hb q
      | some o =>
        obtain ⟨u, e⟩ := (R.mem p o q).2.2.there
        rw [h] at e; cases e
    have : ∀ (N : Mem) (b : Addr), b ∈ N.map (·.1) → get N b ≠ none := by
      intro N
      induction N with
      | nil => intro b hb; simp at hb
      | cons x r ih =>
        intro b hb
        rw [show x = (x.1, x.2) from rfl, get_cons]
        by_cases e : b = x.1
        · rw [if_pos e]; exact fun z => nomatch z
        · rw [if_neg e]
          refine ih b ?_
          simp only [List.map_cons, List.mem_cons] at hb
          exact hb.resolve_left e
    exact fun b hb => hall b (this M b hb)
  · cases q : get M p with
    | none => rfl
    | some o =>
      obtain ⟨u, e⟩ := (R.mem p o q).2.2.there
      rw [h] at e; cases e
theorem Rel.froz (R : Rel K F M G H) (h : H p = none) (o : HO) : Rel K (upd F p o) M G (upd H p o) ∧ Gr F G (upd F p o) := by
  obtain ⟨h1, h2, _, h3⟩ := R.out h
  refine ⟨⟨fun a u e => ?_, fun a u e => ?_, fun a x e => ?_⟩, Ex.new h1, fun a u e n => ?_⟩
  · by_cases q : a = p
    · subst q; rw [upd_same] at e ⊢; exact e
    · rw [upd_ne q] at e ⊢; exact R.exF a u e
  · have q : a ≠ p := fun z => by subst z; rw [h2] at e; cases e
    rw [upd_ne q]; exact R.exG a u e
  · have q : a ≠ p := fun z => by subst z; rw [h3] at e; cases e
    obtain ⟨f, g, m⟩ := R.mem a x e
    exact ⟨by rw [upd_ne q]; exact f, g, m.up (Ex.new h1) (upd_ne q)⟩
  · by_cases q : a = p
    · subst q; exact h2
    · rw [upd_ne q, n] at e; cases e
theorem Rel.newM (R : Rel K F M G H) (h : H p = none) (u : HO) {o : MO} (m : MRel K F (upd H p u) p o) : Rel K F ((p, o) :: M) G (upd H p u) := by
  obtain ⟨h1, h2, _, h3⟩ := R.out h
  refine ⟨fun a u e => ?_, fun a u e => ?_, fun a x e => ?_⟩
  · have q : a ≠ p := fun z => by subst z; rw [h1] at e; cases e
    rw [upd_ne q]; exact R.exF a u e
  · have q : a ≠ p := fun z => by subst z; rw [h2] at e; cases e
    rw [upd_ne q]; exact R.exG a u e
  · rw [get_cons] at e
    by_cases q : a = p
    · subst q; rw [if_pos rfl] at e; cases e; exact ⟨h1, h2, m⟩
    · rw [if_neg q] at e
      obtain ⟨f, g, m⟩ := R.mem a x e
      exact ⟨f, g, m.up (Ex.refl F) (upd_ne q)⟩
theorem Rel.wr (R : Rel K F M G H) {x o : MO} (hx : get M a = some x) (u : HO) (m : MRel K F (upd H a u) a o) : Rel K F (put M a o) G (upd H a u) := by
  obtain ⟨h1, h2, _⟩ := R.mem a x hx
  refine ⟨fun b u e => ?_, fun b u e => ?_, fun b y e => ?_⟩
  · have q : b ≠ a := fun z => by subst z; rw [h1] at e; cases e
    rw [upd_ne q]; exact R.exF b u e
  · have q : b ≠ a := fun z => by subst z; rw [h2] at e; cases e
    rw [upd_ne q]; exact R.exG b u e
  · rw [get_put hx] at e
    by_cases q : b = a
    · subst q; rw [if_pos rfl] at e; cases e; exact ⟨h1, h2, m⟩
    · rw [if_neg q] at e
      obtain ⟨f, g, m⟩ := R.mem b y e
      exact ⟨f, g, m.up (Ex.refl F) (upd_ne q)⟩
/-- fewer tracked things -/
theorem Rel.sub {M2 : Mem} (R : Rel K F M G H) (s : ∀ a o, get M2 a = some o → get M a = some o) : Rel K F M2 G H := ⟨R.exF, R.exG, fun a o e => R.mem a o (s a o e)⟩
theorem Rel.keepG (R : Rel K F M G H) {G2 : Hp} (s : Ex G2 G) : Rel K F M G2 H := ⟨R.exF, fun a u e => R.exG a u (s a u e), fun a o e => by
  obtain ⟨f, g, m⟩ := R.mem a o e
  exact ⟨f, fresh_back s g, m⟩⟩
theorem Rel.freezeH (R : Rel K F M G H) {x : MO} {u : HO} (hx : get M a = some x) (hu : H a = some u) : Rel K (upd F a u) (del M a) G H ∧ Gr F G (upd F a u) := by
  obtain ⟨h1, h2, _⟩ := R.mem a x hx
  refine ⟨⟨fun b w e => ?_, R.exG, fun b o e => ?_⟩, Ex.new h1, fun b w e n => ?_⟩
  · by_cases q : b = a
    · subst q; rw [upd_same] at e; exact hu.trans e
    · rw [upd_ne q] at e; exact R.exF b w e
  · rw [get_del] at e
    by_cases q : b = a
    · rw [if_pos q] at e; cases e
    · rw [if_neg q] at e
      obtain ⟨f, g, m⟩ := R.mem b o e
      exact ⟨by rw [upd_ne q]; exact f, g, m.up (Ex.new h1) rfl⟩
  · by_cases q : b = a
    · subst q; exact h2
    · rw [upd_ne q, n] at e; cases e
theorem Rel.freeze (R : Rel K F M G H) {ds : List DV} (hx : get M a = some (.lst ds)) : ∃ F2, Gr F G F2 ∧ Rel K F2 (del M a) G H ∧ Rep K F2 (.ref a) (.lst ds) := by
  obtain ⟨h1, h2, vs, e, r⟩ := R.mem a _ hx
  obtain ⟨R2, g⟩ := R.freezeH hx e
  exact ⟨_, g, R2, .lst upd_same (r.up g.ex)⟩
theorem Rel.freezeO (R : Rel K F M G H) {C : Addr} {ns : List Str} {ds : List DV} (hx : get M a = some (.ins C ns ds)) : ∃ F2, Gr F G F2 ∧ Rel K F2 (del M a) G H ∧ Rep K F2 (.ref a) (.obj C ns ds) := by
  obtain ⟨h1, h2, dx, fs, e, n, r⟩ := R.mem a _ hx
  obtain ⟨R2, g⟩ := R.freezeH hx e
  exact ⟨_, g, R2, .obj upd_same n (r.up g.ex)⟩

/-! ### states -/
def Srel (K : PySem.W.Frag) (F : Hp) (σ : L2.St) (s : DSt) : Prop := σ.length = s.length ∧ ∀ (i : Nat) (d : DV), s[i]? = some (some d) → ∃ v, σ[i]? = some (some v) ∧ Rep K F v d
theorem Srel.up {σ : L2.St} {s : DSt} (h : Srel K F σ s) (e : Ex F F2) : Srel K F2 σ s := ⟨h.1, fun i d q => let ⟨v, a, b⟩ := h.2 i d q; ⟨v, a, b.up e⟩⟩
theorem Srel.set {σ : L2.St} {s : DSt} (h : Srel K F σ s) {v : V} {d : DV} (r : Rep K F v d) (i : Nat) : Srel K F (σ.set i (some v)) (s.set i (some d)) := by
  refine ⟨by simp [h.1], fun j e q => ?_⟩
  by_cases hj : i = j
  · subst hj
    by_cases hl : i < s.length
    · rw [List.getElem?_set_self hl] at q
      cases q
      exact ⟨v, List.getElem?_set_self (by rw [h.1]; exact hl), r⟩
    · rw [List.getElem?_eq_none (by simpa using hl)] at q; cases q
  · rw [List.getElem?_set_ne hj] at q ⊢
    exact h.2 j e q
def dwipe (s : DSt) : List Nat → DSt
  | [] => s
  | v :: vs => (dwipe s vs).set v none
theorem Srel.none {σ : L2.St} {s : DSt} (h : Srel K F σ s) (i : Nat) : Srel K F (σ.set i none) (s.set i none) := by
  refine ⟨by simp [h.1], fun j e q => ?_⟩
  by_cases hj : i = j
  · subst hj
    by_cases hl : i < s.length
    · rw [List.getElem?_set_self hl] at q; cases q
    · rw [List.getElem?_eq_none (by simpa using hl)] at q; cases q
  · rw [List.getElem?_set_ne hj] at q ⊢
    exact h.2 j e q
theorem Srel.wipe {σ : L2.St} {s : DSt} (h : Srel K F σ s) : ∀ vs : List Nat, Srel K F (wipe σ vs) (dwipe s vs)
  | [] => h
  | v :: vs => (Srel.wipe h vs).none v
theorem Srel.forget {σ : L2.St} {s s2 : DSt} (h : Srel K F σ s) (hl : s2.length = s.length) (w : ∀ (i : Nat) d, s2[i]? = some (some d) → s[i]? = some (some d)) : Srel K F σ s2 := ⟨h.1.trans hl.symm, fun i d q => h.2 i d (w i d q)⟩

/-! ### what is wanted behind -/
def Post (K : PySem.W.Frag) (F G : Hp) (Qd : DQ) (Q : VK) : Prop := ∀ d M v F2 H2, Qd d M → Gr F G F2 → Rel K F2 M G H2 → Rep K F2 v d → Q v H2
theorem Post.up {Qd : DQ} {Q : VK} (h : Post K F G Qd Q) (e : Gr F G F2) : Post K F2 G Qd Q := fun d M v F3 H3 q g => h d M v F3 H3 q (e.trans g)
def PostT (K : PySem.W.Frag) (F G : Hp) (Qd : Bool → Mem → Prop) (Q : Bool → Hp → Prop) : Prop := ∀ b M F2 H2, Qd b M → Gr F G F2 → Rel K F2 M G H2 → Q b H2
theorem PostT.up {Qd : Bool → Mem → Prop} {Q : Bool → Hp → Prop} (h : PostT K F G Qd Q) (e : Gr F G F2) : PostT K F2 G Qd Q := fun b M F3 H3 q g => h b M F3 H3 q (e.trans g)
def PostA (K : PySem.W.Frag) (F G : Hp) (Qd : List DV → Mem → Prop) (Q : List V → Hp → Prop) : Prop := ∀ ds M vs F2 H2, Qd ds M → Gr F G F2 → Rel K F2 M G H2 → Reps K F2 vs ds → Q vs H2
theorem PostA.up {Qd : List DV → Mem → Prop} {Q : List V → Hp → Prop} (h : PostA K F G Qd Q) (e : Gr F G F2) : PostA K F2 G Qd Q := fun b M v F3 H3 q g => h b M v F3 H3 q (e.trans g)
end
def lowE (K : PySem.W.Frag) (c : DTE) : TE := fun σ H Q => ∃ s F M G Qd, Srel K F σ s ∧ Rel K F M G H ∧ c s M Qd ∧ Post K F G Qd Q
def lowT (K : PySem.W.Frag) (c : DTT) : TT := fun σ H Q => ∃ s F M G Qd, Srel K F σ s ∧ Rel K F M G H ∧ c s M Qd ∧ PostT K F G Qd Q
def lowA (K : PySem.W.Frag) (c : DTA) : TA := fun σ H Q => ∃ s F M G Qd, Srel K F σ s ∧ Rel K F M G H ∧ c s M Qd ∧ PostA K F G Qd Q
section
variable {X : Cx} {e a b : Expr} {es : List Expr} {pos : Pos} {ca cb c : DTE} {ct cu : DTT}
theorem pe_imp {t t' : TE} (h : PE X e t) (w : ∀ σ H Q, t' σ H Q → t σ H Q) : PE X e t' := ⟨fun pins s σ H Q I q => h.run pins s σ H Q I (w σ H Q q)⟩
theorem pt_imp {t t' : TT} (h : PT X e t) (w : ∀ σ H Q, t' σ H Q → t σ H Q) : PT X e t' := ⟨fun pins s σ H Q I q => h.run pins s σ H Q I (w σ H Q q)⟩
theorem pw_imp {t t' : TT} (h : PW X e t) (w : ∀ σ H Q, t' σ H Q → t σ H Q) : PW X e t' := ⟨fun wh pins s σ H Q I q => h.run wh pins s σ H Q I (w σ H Q q)⟩
theorem pa_imp {t t' : TA} (h : PA X es t) (w : ∀ σ H Q, t' σ H Q → t σ H Q) : PA X es t' := ⟨fun pos pins s σ H Q I q => h.run pos pins s σ H Q I (w σ H Q q)⟩
theorem ps_imp {st : Stmt} {t t' : TS} (h : PS X st t) (w : ∀ D σ H, t' D σ H → t D σ H) : PS X st t' := ⟨fun pins s σ H D I q => h.run pins s σ H D I (w D σ H q)⟩
theorem pss_imp {st : List Stmt} {t t' : TS} (h : PSs X st t) (w : ∀ D σ H, t' D σ H → t D σ H) : PSs X st t' := ⟨fun pins s σ H D I q => h.run pins s σ H D I (w D σ H q)⟩
abbrev DE (X : Cx) (e : Expr) (c : DTE) : Prop := PE X e (lowE X.K c)
abbrev DT (X : Cx) (e : Expr) (c : DTT) : Prop := PT X e (lowT X.K c)
abbrev DW (X : Cx) (e : Expr) (c : DTT) : Prop := PW X e (lowT X.K c)
abbrev DA (X : Cx) (es : List Expr) (c : DTA) : Prop := PA X es (lowA X.K c)

/-! ### names, constants -/
def dVar (i : Nat) : DTE := fun s M Q => match s[i]? with | some (some d) => Q d M | _ => False
def dC (d : DV) : DTE := fun _ M Q => Q d M
theorem de_var {i : Nat} {x : Str} {pos : Pos} (hN : X.N[i]? = some x := by rfl) (hv : Vis X.env.scope x := by first | exact Or.inl rfl | exact Or.inr (Or.inl rfl) | exact Or.inr (Or.inr rfl)) (hd : (x == ("__debug__" : Str)) = false := by decide)
    (hcd : (x == ("__classdict__" : Str)) = false := by decide) : DE X (.Name x pos) (dVar i) := pe_imp (pe_var hN hv hd hcd) fun σ H Q q => by
  obtain ⟨s, F, M, G, Qd, S, R, h, P⟩ := q
  unfold dVar at h
  split at h
  · rename_i d e
    obtain ⟨v, e1, r⟩ := S.2 i d e
    exact ⟨v, e1, P d M v F H h Gr.refl R r⟩
  · exact h.elim
theorem low_c {K : PySem.W.Frag} {v : V} {d : DV} (r : ∀ F, Rep K F v d) : ∀ σ H Q, lowE K (dC d) σ H Q → tC v σ H Q := fun σ H Q ⟨s, F, M, G, Qd, S, R, h, P⟩ => P d M v F H h Gr.refl R (r F)
theorem de_int {i j} : DE X (.Constant (.int i) j pos) (dC (.int i)) := pe_imp pe_int (low_c fun _ => .int i)
theorem de_bl {b j} : DE X (.Constant (.bool b) j pos) (dC (.bl b)) := pe_imp pe_bl (low_c fun _ => .bl b)
theorem de_non {j} : DE X (.Constant .none j pos) (dC .non) := pe_imp pe_non (low_c fun _ => .non)
theorem de_str {x j} : DE X (.Constant (.str x) j pos) (dC (.str x)) := pe_imp pe_str (low_c fun _ => .str x)
/-- a module's int | a module's object (a class, a def) -/
theorem de_globI {x : Str} {i : Int} {t : Tok} (hm : X.mg x = some (.int i t)) (hg : Gl X x := by rfl) (hd : (x == ("__debug__" : Str)) = false := by decide) : DE X (.Name x pos) (dC (.int i)) := pe_imp (pe_glob (v := .int i) hg hm ⟨t, rfl⟩ hd) (low_c fun _ => .int i)
theorem de_globS {x y : Str} {t : Tok} (hm : X.mg x = some (.str y t)) (hg : Gl X x := by rfl) (hd : (x == ("__debug__" : Str)) = false := by decide) : DE X (.Name x pos) (dC (.str y)) := pe_imp (pe_glob (v := .str y) hg hm ⟨t, rfl⟩ hd) (low_c fun _ => .str y)
theorem de_globR {x : Str} {a : Addr} (hm : X.mg x = some (.ref a)) (hg : Gl X x := by rfl) (hd : (x == ("__debug__" : Str)) = false := by decide) : DE X (.Name x pos) (dC (.ref a)) := pe_imp (pe_glob (v := .ref a) hg hm rfl hd) (low_c fun _ => .ref a)
theorem de_ty {x : Str} {n : String} (hm : X.mg x = none) (hv : bootBuiltins x = some (.type n)) (hg : Gl X x := by rfl) (hn : x ≠ "__name__" := by decide) (hd : (x == ("__debug__" : Str)) = false := by decide) : DE X (.Name x pos) (dC (.ty n)) := pe_imp (pe_bltn (v := .ty n) hg hm hv rfl hn hd) (low_c fun _ => .ty n)

/-! ### operations -/
abbrev DR2 := DV → DV → Mem → DQ → Prop
abbrev DR1 := DV → Mem → DQ → Prop
abbrev DRN := List DV → Mem → DQ → Prop
def Op2 (K : PySem.W.Frag) (r : DR2) (rV : R2) : Prop := ∀ F M G H x y v u Qd Q, Rel K F M G H → Rep K F v x → Rep K F u y → r x y M Qd → Post K F G Qd Q → rV v u H Q
def Op1 (K : PySem.W.Frag) (r : DR1) (rV : V → Hp → VK → Prop) : Prop := ∀ F M G H x v Qd Q, Rel K F M G H → Rep K F v x → r x M Qd → Post K F G Qd Q → rV v H Q
def OpN (K : PySem.W.Frag) (r : DRN) (rV : List V → Hp → VK → Prop) : Prop := ∀ F M G H xs vs Qd Q, Rel K F M G H → Reps K F vs xs → r xs M Qd → Post K F G Qd Q → rV vs H Q
def dOp (r : DR2) (ca cb : DTE) : DTE := fun s M Q => ca s M fun x M1 => cb s M1 fun y M2 => r x y M2 Q
def dUn (r : DR1) (ca : DTE) : DTE := fun s M Q => ca s M fun x M1 => r x M1 Q
def dCB (r : DRN) (ca : DTA) : DTE := fun s M Q => ca s M fun xs M1 => r xs M1 Q
theorem low_op {K : PySem.W.Frag} {r : DR2} {rV : R2} (hc : Op2 K r rV) : ∀ σ H Q, lowE K (dOp r ca cb) σ H Q → tOp rV (lowE K ca) (lowE K cb) σ H Q := fun σ H Q ⟨s, F, M, G, Qd, S, R, h, P⟩ =>
  ⟨s, F, M, G, _, S, R, h, fun x M1 v F1 H1 q g1 R1 r1 => ⟨s, F1, M1, G, _, S.up g1.ex, R1, q, fun y M2 u F2 H2 q2 g2 R2 r2 => hc F2 M2 G H2 x y v u Qd Q R2 (r1.up g2.ex) r2 q2 (P.up (g1.trans g2))⟩⟩
theorem low_un {K : PySem.W.Frag} {r : DR1} {rV : V → Hp → VK → Prop} (hc : Op1 K r rV) : ∀ σ H Q, lowE K (dUn r ca) σ H Q → tUn rV (lowE K ca) σ H Q := fun σ H Q ⟨s, F, M, G, Qd, S, R, h, P⟩ =>
  ⟨s, F, M, G, _, S, R, h, fun x M1 v F1 H1 q g1 R1 r1 => hc F1 M1 G H1 x v Qd Q R1 r1 q (P.up g1)⟩
theorem low_cb {K : PySem.W.Frag} {r : DRN} {rV : List V → Hp → VK → Prop} {cl : DTA} (hc : OpN K r rV) : ∀ σ H Q, lowE K (dCB r cl) σ H Q → tCB rV (lowA K cl) σ H Q := fun σ H Q ⟨s, F, M, G, Qd, S, R, h, P⟩ =>
  ⟨s, F, M, G, _, S, R, h, fun xs M1 vs F1 H1 q g1 R1 r1 => hc F1 M1 G H1 xs vs Qd Q R1 r1 q (P.up g1)⟩
theorem de_bin {op : Operator} {r : DR2} {rV : R2} (ho : OpR X (binaryOp op) rV) (hc : Op2 X.K r rV) (ha : DE X a ca) (hb : DE X b cb) : DE X (.BinOp a op b pos) (dOp r ca cb) := pe_imp (pe_op ho ha hb) (low_op hc)
theorem de_cmp {op : CmpOp} {r : DR2} {rV : R2} (ho : OpR X (compareOp op) rV) (hc : Op2 X.K r rV) (ha : DE X a ca) (hb : DE X b cb) (hm : behindInMarks op b = false) : DE X (.Compare a [op] [b] pos) (dOp r ca cb) := pe_imp (pe_cmpR ho ha hb hm) (low_op hc)
theorem de_un {op : UnaryOp} {r : DR1} {rV : V → Hp → VK → Prop} (ho : UnR X (unaryOp op) rV) (hc : Op1 X.K r rV) (ha : DE X a ca) : DE X (.UnaryOp op a pos) (dUn r ca) := pe_imp (pe_un ho ha) (low_un hc)
/-! ### arguments -/
def dNil : DTA := fun _ M Q => Q [] M
def dCons (ca : DTE) (cr : DTA) : DTA := fun s M Q => ca s M fun x M1 => cr s M1 fun xs M2 => Q (x :: xs) M2
theorem da_nil : DA X [] dNil := pa_imp pa_nil fun σ H Q ⟨s, F, M, G, Qd, S, R, h, P⟩ => P [] M [] F H h Gr.refl R .nil
theorem da_cons {cl : DTA} (ha : DE X e ca) (hr : DA X es cl) (hs : starEach (e :: es) X.env = (false, eval e X.env) :: starEach es X.env := by rfl) : DA X (e :: es) (dCons ca cl) := pa_imp (pa_cons ha hr hs) fun σ H Q ⟨s, F, M, G, Qd, S, R, h, P⟩ =>
  ⟨s, F, M, G, _, S, R, h, fun x M1 v F1 H1 q g1 R1 r1 => ⟨s, F1, M1, G, _, S.up g1.ex, R1, q, fun xs M2 vs F2 H2 q2 g2 R2 r2 => P (x :: xs) M2 (v :: vs) F2 H2 q2 (g1.trans g2) R2 (.cons (r1.up g2.ex) r2)⟩⟩
theorem de_callB {id : String} {x : Str} {p : Pos} {cl : DTA} {r : DRN} {rV : List V → Hp → VK → Prop} (ho : CallR X (.builtin id) rV) (hc : OpN X.K r rV) (hm : X.mg x = none) (hv : bootBuiltins x = some (.builtin id)) (ha : DA X (e :: es) cl) (hg : Gl X x := by rfl) (hn : x ≠ "__name__" := by decide) (hdb : (x == ("__debug__" : Str)) = false := by decide)
    (hq : starEach (e :: es) X.env = (false, eval e X.env) :: starEach es X.env := by rfl) (hpl : (backTo pos (starEach es X.env)).any (·.1) = false := by rfl) : DE X (.Call (.Name x p) (e :: es) [] pos) (dCB r cl) := pe_imp (pe_callB ho hg hm hv ha hn hdb hq hpl) (low_cb hc)
theorem de_callTy {T : String} {x : Str} {p : Pos} {cl : DTA} {r : DRN} {rV : List V → Hp → VK → Prop} (ho : CallR X (.type T) rV) (hc : OpN X.K r rV) (hm : X.mg x = none) (hv : bootBuiltins x = some (.type T)) (ha : DA X (e :: es) cl) (hg : Gl X x := by rfl) (hn : x ≠ "__name__" := by decide) (hdb : (x == ("__debug__" : Str)) = false := by decide)
    (hq : starEach (e :: es) X.env = (false, eval e X.env) :: starEach es X.env := by rfl) (hpl : (backTo pos (starEach es X.env)).any (·.1) = false := by rfl) : DE X (.Call (.Name x p) (e :: es) [] pos) (dCB r cl) := pe_imp (pe_callTy ho hg hm hv ha hn hdb hq hpl) (low_cb hc)
end
end Lt
/-! a tuple times an int, of any size that has room -/
namespace Lt
open PySem PySem.Spec PyProof.Rows L2 Evl
section
variable {at_ : Addr} {its : Array Value} {ln : Nat} {od : Option Addr} {slo : Array (Option Value)} {k : Int} {tk : Tok}
theorem mulT_one (hk : k = 1) : Meets (Builtin.«tuple.__mul__» ⟨[.ref at_, .int k tk], []⟩) (fun _ R s => s.heap.get? at_ = some { cls := .type "tuple", dict := od, data := .seq its ln, slots := slo } ∧ R (.ok (.ret (.ref at_))) s) := by
  subst hk
  refine .of_wp fun prog w A R s z => ?_
  obtain ⟨hp, g, dd, tks, os⟩ := s
  obtain ⟨hl, z⟩ := z
  have f1 := AutoSeq1.idx_int
  have c0 : (decide ((1 : Int) < -(2 ^ 63)) || decide ((1 : Int) ≥ 2 ^ 63)) = false := by decide
  wp_walk using wpAny_loadPart' hl
  repeat (first
    | (refine wpAny_ite_true (decide_eq_true (by rw [show ((1 : Int) == 1) = true from rfl, Bool.or_true])) ?_; wp_walk using wpAny_loadPart' hl)
    | (refine wpAny_ite_false (decide_eq_false (by rw [c0]; exact Bool.false_ne_true)) ?_; wp_walk using wpAny_loadPart' hl))
  exact ⟨_, rfl, z⟩
theorem mulT_new (k1 : k ≠ 1) (lo : -(2 ^ 63) ≤ k) (hi : k < 2 ^ 63) (some1 : its.isEmpty = false) (room : its.size * k.toNat ≤ sizeLine) (fl : (List.foldl (fun a b => a ++ b) #[] (List.replicate k.toNat its)).size ≤ sizeLine) :
    Meets (Builtin.«tuple.__mul__» ⟨[.ref at_, .int k tk], []⟩) (fun _ R s => s.heap.get? at_ = some { cls := .type "tuple", dict := od, data := .seq its ln, slots := slo } ∧
      R (.ok (.ret (.ref s.heap.objs.size))) { s with heap := s.heap.push { cls := .type "tuple", data := .seq (List.foldl (fun a b => a ++ b) #[] (List.replicate k.toNat its)) }, toks := s.toks }) := by
  refine .of_wp fun prog w A R s z => ?_
  obtain ⟨hp, g, dd, tks, os⟩ := s
  obtain ⟨hl, z⟩ := z
  have f1 := AutoSeq1.idx_int
  have out : ¬ (decide (k < -(2 ^ 63)) || decide (k ≥ 2 ^ 63)) = true := by simp; omega
  have same : ¬ (its.isEmpty || k == 1) = true := by simp [some1, k1]
  have line : (sizeLine : Int) < (2 ^ 63 - 1) / 8 := by decide
  wp_walk using wpAny_loadPart' hl
  by_cases k0 : k ≤ 0
  · have none1 : (decide (k ≤ 0) || its.isEmpty) = true := by simp [k0]
    have e0 : List.foldl (fun a b => a ++ b) #[] (List.replicate k.toNat its) = #[] := by rw [show k.toNat = 0 by omega]; rfl
    rw [e0] at z
    repeat (first
      | (refine wpAny_ite_false (decide_eq_false out) ?_; wp_walk using wpAny_loadPart' hl)
      | (refine wpAny_ite_false (decide_eq_false same) ?_; wp_walk using wpAny_loadPart' hl)
      | (refine wpAny_ite_true (decide_eq_true none1) ?_; wp_walk using wpAny_loadPart' hl)
      | (refine wpAny_ite_false (decide_eq_false (Nat.not_lt.mpr (Nat.zero_le _))) ?_; wp_walk using wpAny_loadPart' hl))
    exact ⟨_, rfl, z⟩
  · have none0 : ¬ (decide (k ≤ 0) || its.isEmpty) = true := by simp [some1]; omega
    have prod : ((its.size : Nat) : Int) * k ≤ sizeLine := by
      have : ((its.size * k.toNat : Nat) : Int) ≤ (sizeLine : Int) := Int.ofNat_le.mpr room
      rwa [Int.natCast_mul, Int.toNat_of_nonneg (by omega)] at this
    have big : ¬ ((its.size : Nat) : Int) * k > (2 ^ 63 - 1) / 8 := by omega
    have many : ¬ Builtin.Tuple.tupleTooMany (((its.size : Nat) : Int) * k) = true := by
      unfold Builtin.Tuple.tupleTooMany
      simp; omega
    repeat (first
      | (refine wpAny_ite_false (decide_eq_false out) ?_; wp_walk using wpAny_loadPart' hl)
      | (refine wpAny_ite_false (decide_eq_false same) ?_; wp_walk using wpAny_loadPart' hl)
      | (refine wpAny_ite_false (decide_eq_false none0) ?_; wp_walk using wpAny_loadPart' hl)
      | (refine wpAny_ite_false (decide_eq_false big) ?_; wp_walk using wpAny_loadPart' hl)
      | (refine wpAny_ite_false (decide_eq_false many) ?_; wp_walk using wpAny_loadPart' hl)
      | (refine wpAny_ite_false (decide_eq_false (Nat.not_lt.mpr fl)) ?_; wp_walk using wpAny_loadPart' hl))
    exact ⟨_, rfl, z⟩
end
/-- a tuple with something in it, times an int -/
def rMulT (K : PySem.W.Frag) : R2 := fun x y H Q => ∃ (b : Addr) (j : Int) (ws : List V), x = .ref b ∧ y = .int j ∧ SqT K H b ws ∧ ws ≠ [] ∧ (-(2 ^ 63) ≤ j ∧ j < 2 ^ 63) ∧ ws.length * j.toNat ≤ sizeLine ∧
  (j = 1 → Q (.ref b) H) ∧ (j ≠ 1 → ∀ p, H p = none → Q (.ref p) (upd H p (.tup (List.replicate j.toNat ws).flatten)))
theorem op_mulT {X : Cx} : OpR X (binaryOp .Mult) (rMulT X.K) := by
  intro pins s σ H x y v u Q I rx ry h
  obtain ⟨b, j, ws, rfl, rfl, hT, hne, ⟨lo, hi⟩, room, q1, qn⟩ := h
  cases rx
  obtain ⟨tk, rfl⟩ := ry
  obtain ⟨its, r, ⟨⟨cls, od, data, slo⟩, ho, hc, ln, hd⟩, hs⟩ := I.tuple hT
  simp only at hc hd
  subst hc hd
  have same : its.length = ws.length := r.length.symm
  have full : its.toArray.isEmpty = false := by
    cases its with
    | nil => exact absurd (List.eq_nil_of_length_eq_zero same.symm) hne
    | cons a l => rfl
  have long : (List.replicate j.toNat its).flatten.length ≤ sizeLine := by
    rw [PyProof.Rows.lm_len_rep_flat, same, Nat.mul_comm]
    exact room
  have size : (List.foldl (fun a b => a ++ b) #[] (List.replicate j.toNat its.toArray)) = (List.replicate j.toNat its).flatten.toArray := size_rep its j.toNat
  refine wpAny_binaryOp_repeat_ref (T := "tuple") (U := "int") (by decide) ⟨_, ho, rfl⟩ (fun s' => typeIs_int s' j tk) noFill_tuple_mul F.fills_int_mul F.slot_int_rmul repeat_tuple F.slot_int_index.lookup ?_
  refine call_meets F.slot_int_rmul (typeIs_int s j tk) F.entry_int_rmul (F.args_int_rmul_2 _ _) (int_rmul_tuple j tk b its.toArray ln od slo) ⟨ho, rfl, ⟨_, ho, rfl⟩, ?_⟩
  by_cases k1 : j = 1
  · refine call_meets F.slot_tuple_mul ⟨_, ho, rfl⟩ F.entry_tuple_mul (F.args_tuple_mul_2 _ _) (mulT_one k1) ⟨ho, ?_⟩
    exact ⟨.ref b, H, I, rfl, q1 k1⟩
  · refine call_meets F.slot_tuple_mul ⟨_, ho, rfl⟩ F.entry_tuple_mul (F.args_tuple_mul_2 _ _) (mulT_new k1 lo hi full (by rw [List.size_toArray, same]; exact room) (by rw [size, List.size_toArray]; exact long)) ⟨ho, ?_⟩
    rw [size]
    refine ⟨.ref s.heap.objs.size, _, I.laid (t' := s.toks) (o := .tup (List.replicate j.toNat ws).flatten) (fun c ob z => Heap.get?_push_of_some _ z) (Nat.le_refl _) ?_, rfl, qn k1 _ (I.hok.fresh (Nat.le_refl _))⟩
    exact ⟨by rw [PyProof.Rows.lm_len_rep_flat, Nat.mul_comm]; exact room, _, r.rep j.toNat, IsTup.new _ _⟩
/-! ### a list takes the items of a tuple -/
theorem extT_run (at_ : Addr) (its : Array Value) (ln : Nat) (bt : Addr) (jts : Array Value) (lm : Nat) (od : Option Addr) (slo : Array (Option Value)) (lim : ¬ (!its.isEmpty && Builtin.List.listTooLong (its.size + jts.size)) = true) (own1 : its.size ≤ sizeLine) (both : its.size + jts.size ≤ sizeLine + 1) :
    Meets (Builtin.«list.extend» ⟨[.ref at_, .ref bt], []⟩) (fun _ R s => s.heap.get? at_ = some { cls := .type "list", dict := none, data := .seq its ln, slots := #[] } ∧ s.heap.get? bt = some { cls := .type "tuple", dict := od, data := .seq jts lm, slots := slo } ∧
      R (.ok (.ret Value.none)) { s with heap := s.heap.update at_ (Obj.mapSeq fun x => x ++ jts), toks := s.toks }) := by
  refine .of_wp fun prog w A R s z => ?_
  obtain ⟨hp, g, dd, tks, os⟩ := s
  obtain ⟨hl, hb, z⟩ := z
  have f1 := AutoSeq1.idx_int
  have f2 := AutoSeq1.sub_tuple_tuple
  have f3 := AutoSeq1.sub_list_list
  have f4 := AutoSeq1.sub_tuple_list
  have f5 := AutoSeq1.sub_list_tuple
  have hz' : (its ++ jts).size ≤ sizeLine + 1 := by rw [Array.size_append]; exact both
  wp_walk using (wpAny_updateSeq hl rfl (hz := own1) (_hz' := hz')), wpAny_loadPart' hl, wpAny_loadPart' hb
  exact ⟨_, rfl, z⟩
def rExtT (K : PySem.W.Frag) : V → List V → Hp → VK → Prop := fun x vs H Q => ∃ (l b : Addr) (ws zs : List V), x = .ref l ∧ vs = [.ref b] ∧ H l = some (.lst ws) ∧ SqT K H b zs ∧ ws.length + zs.length ≤ sizeLine ∧ Q .non (upd H l (.lst (ws ++ zs)))
theorem mt_extT {X : Cx} : MtM X "list.extend" (rExtT X.K) := by
  intro pins s σ H x vs v us Q I rx rv h
  obtain ⟨l, b, ws, zs, rfl, rfl, hH, hT, room, q⟩ := h
  cases rx
  obtain ⟨u, rfl, ru⟩ := rv.one
  cases ru
  obtain ⟨z, its, ln, r, hl, e⟩ := I.lstM hH
  obtain ⟨jts, r2, ⟨⟨cls, od, data, slo⟩, ho, hc, lm, hd⟩, hs⟩ := I.tuple hT
  simp only at hc hd
  subst hc hd
  have same := r2.length
  have hsz : its.toArray.size + jts.toArray.size ≤ sizeLine := by rw [List.size_toArray, List.size_toArray]; omega
  have lim : ¬ (!its.toArray.isEmpty && Builtin.List.listTooLong (its.toArray.size + jts.toArray.size)) = true := by
    rw [notLongL hsz, Bool.and_false]
    exact Bool.false_ne_true
  refine call_meets F.slot_list_extend ⟨_, e, rfl⟩ F.entry_list_extend (F.args_list_extend_2 _ _) (extT_run l its.toArray ln b jts.toArray lm od slo lim (by omega) (by omega)) ⟨e, ho, ?_⟩
  refine ⟨.non, _, I.lset (its' := its ++ jts) hH e (by simp) (r.append r2) ?_, rfl, q⟩
  rw [List.length_append]
  omega
end Lt
namespace Lt
open PySem PySem.Spec PyProof.Rows L2 Evl

/-! ### deep data -/
mutual
def toPy : DV → Option PyData
  | .non => some .none
  | .bl b => some (.bool b)
  | .int i => some (.int i)
  | .str x => some (.str x)
  | .tup ds => (toPys ds).map PyData.tuple
  | .lst ds => (toPys ds).map PyData.list
  | _ => none
def toPys : List DV → Option (List PyData)
  | [] => some []
  | d :: ds => match toPy d, toPys ds with
    | some p, some ps => some (p :: ps)
    | _, _ => none
end
def asL (M : Mem) : DV → Option (List DV)
  | .lst ds => some ds
  | .ref a => match get M a with
    | some (.lst ds) => some ds
    | _ => none
  | _ => none
def toPyM (M : Mem) (d : DV) : Option PyData := match d with
  | .ref a => match get M a with
    | some (.lst ds) => (toPys ds).map PyData.list
    | _ => none
  | d => toPy d
def keyD : DV → Option Key
  | .int i => some (.inl i)
  | .str x => some (.inr x)
  | _ => none
def keysD : List DV → Option (List Key)
  | [] => some []
  | d :: ds => match keyD d, keysD ds with
    | some k, some ks => some (k :: ks)
    | _, _ => none
def intsD : List DV → Option (List Int)
  | [] => some []
  | d :: ds => match d, intsD ds with
    | .int k, some ks => some (k :: ks)
    | _, _ => none
def blsD : List DV → Option (List Bool)
  | [] => some []
  | d :: ds => match d, blsD ds with
    | .bl k, some ks => some (k :: ks)
    | _, _ => none
def strsD : List DV → Option (List Str)
  | [] => some []
  | d :: ds => match d, strsD ds with
    | .str k, some ks => some (k :: ks)
    | _, _ => none
theorem intsD_map : ∀ ns : List Int, intsD (ns.map DV.int) = some ns
  | [] => rfl
  | n :: r => by simp [intsD, intsD_map r]
theorem blsD_map : ∀ ns : List Bool, blsD (ns.map DV.bl) = some ns
  | [] => rfl
  | n :: r => by simp [blsD, blsD_map r]
theorem strsD_map : ∀ ns : List Str, strsD (ns.map DV.str) = some ns
  | [] => rfl
  | n :: r => by simp [strsD, strsD_map r]
theorem intsD_inv : ∀ {ds : List DV} {ns : List Int}, intsD ds = some ns → ds = ns.map DV.int
  | [], ns, h => by cases h; rfl
  | d :: ds, ns, h => by
    unfold intsD at h
    split at h
    · rename_i k ks e; cases h; rw [intsD_inv e]; rfl
    · cases h
theorem blsD_inv : ∀ {ds : List DV} {ns : List Bool}, blsD ds = some ns → ds = ns.map DV.bl
  | [], ns, h => by cases h; rfl
  | d :: ds, ns, h => by
    unfold blsD at h
    split at h
    · rename_i k ks e; cases h; rw [blsD_inv e]; rfl
    · cases h
theorem strsD_inv : ∀ {ds : List DV} {ns : List Str}, strsD ds = some ns → ds = ns.map DV.str
  | [], ns, h => by cases h; rfl
  | d :: ds, ns, h => by
    unfold strsD at h
    split at h
    · rename_i k ks e; cases h; rw [strsD_inv e]; rfl
    · cases h
section
variable {K : PySem.W.Frag} {F G H F2 H2 : Hp} {M : Mem} {v u : V} {d x y : DV} {ds : List DV} {Qd : DQ} {Q : VK}
theorem Reps.bls_inv : ∀ {ns : List Bool} {vs : List V}, Reps K F vs (ns.map DV.bl) → vs = ns.map V.bl
  | [], _, h => by cases h; rfl
  | n :: r, _, h => by cases h with | cons a b => cases a; rw [Reps.bls_inv b]; rfl
theorem Reps.strs_inv : ∀ {ns : List Str} {vs : List V}, Reps K F vs (ns.map DV.str) → vs = ns.map V.str
  | [], _, h => by cases h; rfl
  | n :: r, _, h => by cases h with | cons a b => cases a; rw [Reps.strs_inv b]; rfl
theorem Reps.strs : ∀ (ns : List Str), Reps K F (ns.map V.str) (ns.map DV.str)
  | [] => .nil
  | n :: r => .cons (.str n) (Reps.strs r)
theorem Reps.keys : ∀ {ds : List DV} {vs : List V} {ks : List Key}, Reps K F vs ds → keysD ds = some ks → vs = ks.map kV
  | [], _, _, h, e => by cases h; cases e; rfl
  | d :: ds, _, ks, h, e => by
    cases h with
    | cons a b =>
      unfold keysD at e
      split at e
      · rename_i k ks' e1 e2
        cases e
        rw [Reps.keys b e2, List.map_cons]
        cases d <;> first | (cases e1; cases a; rfl) | cases e1
      · cases e
theorem Rep.key {k : Key} (r : Rep K F v d) (e : keyD d = some k) : v = kV k := by
  cases d <;> first | (cases e; cases r; rfl) | cases e
mutual
theorem Rep.dp (hx : Ex F H) : ∀ (d : DV) (v : V) (p : PyData), Rep K F v d → toPy d = some p → Dp K H v p
  | .non, _, _, h, e => by cases h; cases e; exact .non
  | .bl _, _, _, h, e => by cases h; cases e; exact .bl _
  | .int _, _, _, h, e => by cases h; cases e; exact .int _
  | .str _, _, _, h, e => by cases h; cases e; exact .str _
  | .tup ds, _, _, h, e => by
    cases h with
    | tup h r =>
      unfold toPy at e
      cases q : toPys ds with
      | none => rw [q] at e; cases e
      | some ps => rw [q] at e; cases e; exact .tup (.of (hx _ _ h)) (Reps.dp hx ds _ ps r q)
  | .lst ds, _, _, h, e => by
    cases h with
    | lst h r =>
      unfold toPy at e
      cases q : toPys ds with
      | none => rw [q] at e; cases e
      | some ps => rw [q] at e; cases e; exact .lst (.of (hx _ _ h)) (Reps.dp hx ds _ ps r q)
  | .ref _, _, _, _, e => by cases e
  | .ty _, _, _, _, e => by cases e
  | .scr _, _, _, _, e => by cases e
  | .obj .., _, _, _, e => by cases e
theorem Reps.dp (hx : Ex F H) : ∀ (ds : List DV) (vs : List V) (ps : List PyData), Reps K F vs ds → toPys ds = some ps → DpAll K H vs ps
  | [], _, _, h, e => by cases h; cases e; exact .nil
  | d :: ds, _, _, h, e => by
    cases h with
    | cons a b =>
      unfold toPys at e
      split at e
      · rename_i p ps e1 e2
        cases e
        exact .cons (Rep.dp hx d _ p a e1) (Reps.dp hx ds _ ps b e2)
      · cases e
end
theorem Rel.asL (R : Rel K F M G H) (r : Rep K F v d) (h : asL M d = some ds) : ∃ a vs, v = .ref a ∧ H a = some (.lst vs) ∧ Reps K F vs ds := by
  unfold Lt.asL at h
  split at h
  · cases h; cases r with | lst e q => exact ⟨_, _, rfl, R.exF _ _ e, q⟩
  · cases r
    split at h
    · rename_i e
      cases h
      obtain ⟨_, _, vs, q, r⟩ := R.mem _ _ e
      exact ⟨_, vs, rfl, q, r⟩
    · cases h
  · cases h
theorem Rel.dp {p : PyData} (R : Rel K F M G H) (r : Rep K F v d) (h : toPyM M d = some p) : Dp K H v p := by
  cases d with
  | ref a =>
    cases r
    cases e : get M a with
    | none => simp only [toPyM, e] at h; cases h
    | some o =>
      cases o with
      | lst ds =>
        obtain ⟨_, _, vs, q, r⟩ := R.mem _ _ e
        simp only [toPyM, e] at h
        cases q2 : toPys ds with
        | none => rw [q2] at h; cases h
        | some ps => rw [q2] at h; cases h; exact .lst (.of q) (Reps.dp R.exF ds _ ps r q2)
      | _ => simp only [toPyM, e] at h; cases h
  | _ => exact Rep.dp R.exF _ _ _ r h
/-- a new list: mutable | frozen -/
def nl (m : Bool) (ds : List DV) (M : Mem) (Q : DQ) : Prop := match m with
  | true => ∀ p, Fresh p M → Q (.ref p) ((p, .lst ds) :: M)
  | false => Q (.lst ds) M
theorem Post.here (P : Post K F G Qd Q) (R : Rel K F M G H) (r : Rep K F v d) (q : Qd d M) : Q v H := P d M v F H q Gr.refl R r
theorem Post.nl {vs : List V} (m : Bool) (P : Post K F G Qd Q) (R : Rel K F M G H) (r : Reps K F vs ds) (q : nl m ds M Qd) : ∀ p, H p = none → Q (.ref p) (upd H p (.lst vs)) := fun p hp => by
  cases m with
  | false =>
    obtain ⟨R2, g⟩ := R.froz hp (.lst vs)
    exact P _ _ _ _ _ q g R2 (.lst upd_same (r.up g.ex))
  | true => exact P _ _ _ _ _ (q p (R.out hp).2.2.1) Gr.refl (R.newM hp (.lst vs) ⟨vs, upd_same, r⟩) (.ref p)
theorem Post.nt {vs : List V} (P : Post K F G Qd Q) (R : Rel K F M G H) (r : Reps K F vs ds) (q : Qd (.tup ds) M) : ∀ p, H p = none → Q (.ref p) (upd H p (.tup vs)) := fun p hp => by
  obtain ⟨R2, g⟩ := R.froz hp (.tup vs)
  exact P _ _ _ _ _ q g R2 (.tup upd_same (r.up g.ex))

/-! ### arithmetic -/
def dAdd (m : Bool) : DR2 := fun x y M Q => match x, y with
  | .int i, .int j => Q (.int (i + j)) M
  | .str a, .str b => a.length + b.length ≤ sizeLine ∧ Q (.str (a ++ b)) M
  | .tup xs, .tup ys => xs.length + ys.length ≤ sizeLine ∧ Q (.tup (xs ++ ys)) M
  | x, y => match asL M x, asL M y with
    | some xs, some ys => xs.length + ys.length ≤ sizeLine ∧ nl m (xs ++ ys) M Q
    | _, _ => False
def rAddA (K : PySem.W.Frag) : R2 := fun x y H Q => rI0 (fun i j => .int (i + j)) x y H Q ∨ (fun x y H Q => ∃ i j, x = .str i ∧ y = .str j ∧ i.length + j.length ≤ sizeLine ∧ Q (.str (i ++ j)) H) x y H Q ∨ rCatA K x y H Q ∨ rCat x y H Q
theorem op_addA {X : Cx} : OpR X (binaryOp .Add) (rAddA X.K) := op_add.or (op_add_str.or (op_catA.or op_cat))
theorem c_add (m : Bool) : Op2 K (dAdd m) (rAddA K) := by
  intro F M G H x y v u Qd Q R rx ry h P
  unfold dAdd at h
  split at h
  · cases rx; cases ry; exact .inl ⟨_, _, rfl, rfl, P.here R (.int _) h⟩
  · cases rx; cases ry; exact .inr (.inl ⟨_, _, rfl, rfl, h.1, P.here R (.str _) h.2⟩)
  · cases rx with
    | tup h1 r1 =>
      cases ry with
      | tup h2 r2 =>
        refine .inr (.inr (.inl ⟨_, _, _, _, rfl, rfl, .of (R.exF _ _ h1), .of (R.exF _ _ h2), by rw [r1.length, r2.length]; exact h.1, fun e => ?_, fun _ e => ?_, fun _ _ => P.nt R (r1.app r2) h.2⟩))
        · subst e; cases r1; exact P.here R (.tup h2 r2) h.2
        · subst e; cases r2
          have q := h.2
          rw [List.append_nil] at q
          exact P.here R (.tup h1 r1) q
  · split at h
    · rename_i e1 e2
      obtain ⟨a, vs, rfl, q1, r1⟩ := R.asL rx e1
      obtain ⟨b, us, rfl, q2, r2⟩ := R.asL ry e2
      exact .inr (.inr (.inr ⟨_, _, _, _, rfl, rfl, q1, q2, by rw [r1.length, r2.length]; exact h.1, P.nl m R (r1.app r2) h.2⟩))
    · exact h.elim
def dIntOp (C : Int → Int → Prop) (g : Int → Int → Int) : DR2 := fun x y M Q => match x, y with
  | .int i, .int j => C i j ∧ Q (.int (g i j)) M
  | _, _ => False
theorem c_intOp {C : Int → Int → Prop} {g : Int → Int → Int} : Op2 K (dIntOp C g) (rI C fun i j => .int (g i j)) := by
  intro F M G H x y v u Qd Q R rx ry h P
  unfold dIntOp at h
  split at h
  · cases rx; cases ry; exact ⟨_, _, rfl, rfl, h.1, P.here R (.int _) h.2⟩
  · exact h.elim
def dInt0 (g : Int → Int → Int) : DR2 := fun x y M Q => match x, y with
  | .int i, .int j => Q (.int (g i j)) M
  | _, _ => False
theorem c_int0 {g : Int → Int → Int} : Op2 K (dInt0 g) (rI0 fun i j => .int (g i j)) := by
  intro F M G H x y v u Qd Q R rx ry h P
  unfold dInt0 at h
  split at h
  · cases rx; cases ry; exact ⟨_, _, rfl, rfl, P.here R (.int _) h⟩
  · exact h.elim
def dCmpI (g : Int → Int → Bool) : DR2 := fun x y M Q => match x, y with
  | .int i, .int j => Q (.bl (g i j)) M
  | _, _ => False
theorem c_cmpI {g : Int → Int → Bool} : Op2 K (dCmpI g) (rI0 fun i j => .bl (g i j)) := by
  intro F M G H x y v u Qd Q R rx ry h P
  unfold dCmpI at h
  split at h
  · cases rx; cases ry; exact ⟨_, _, rfl, rfl, P.here R (.bl _) h⟩
  · exact h.elim
abbrev dSub : DR2 := dInt0 fun i j => i - j
abbrev dMod : DR2 := dIntOp (fun _ j => 0 < j) fun i j => i % j
abbrev dDiv : DR2 := dIntOp CDiv fun i j => i / j
abbrev dPow : DR2 := dIntOp CPow fun i j => i ^ j.toNat
abbrev dLt : DR2 := dCmpI fun i j => decide (i < j)
abbrev dLe : DR2 := dCmpI fun i j => decide (i ≤ j)
abbrev dGt : DR2 := dCmpI fun i j => decide (j < i)
abbrev dGe : DR2 := dCmpI fun i j => decide (j ≤ i)
/-- a * b: ints; a list, a tuple by an int -/
def dMul (m : Bool) : DR2 := fun x y M Q => match x, y with
  | .int i, .int j => CMul i j ∧ Q (.int (i * j)) M
  | .tup xs, .int k => xs ≠ [] ∧ (-(2 ^ 63) ≤ k ∧ k < 2 ^ 63) ∧ xs.length * k.toNat ≤ sizeLine ∧ Q (.tup (List.replicate k.toNat xs).flatten) M
  | x, .int k => match asL M x with
    | some xs => -(2 ^ 63) ≤ k ∧ k < 2 ^ 63 ∧ xs.length * k.toNat ≤ sizeLine ∧ nl m (List.replicate k.toNat xs).flatten M Q
    | none => False
  | _, _ => False
def rMulA (K : PySem.W.Frag) : R2 := fun x y H Q => rI CMul (fun i j => .int (i * j)) x y H Q ∨ rMulT K x y H Q ∨ rRep x y H Q
theorem op_mulA {X : Cx} : OpR X (binaryOp .Mult) (rMulA X.K) := op_mul.or (op_mulT.or op_rep)
theorem c_mul (m : Bool) : Op2 K (dMul m) (rMulA K) := by
  intro F M G H x y v u Qd Q R rx ry h P
  unfold dMul at h
  split at h
  · cases rx; cases ry; exact .inl ⟨_, _, rfl, rfl, h.1, P.here R (.int _) h.2⟩
  · cases rx with
    | tup h1 r1 =>
      cases ry
      obtain ⟨n, a, c, q⟩ := h
      refine .inr (.inl ⟨_, _, _, rfl, rfl, .of (R.exF _ _ h1), fun e => ?_, a, by rw [r1.length]; exact c, fun k1 => ?_, fun _ => P.nt R (r1.rep _) q⟩)
      · subst e; cases r1; exact n rfl
      · subst k1
        refine P.here R (.tup h1 r1) ?_
        simpa using q
  · cases ry
    split at h
    · rename_i e
      obtain ⟨a, vs, rfl, q1, r1⟩ := R.asL rx e
      obtain ⟨h1, h2, h3, q⟩ := h
      exact .inr (.inr ⟨_, _, _, rfl, rfl, q1, h1, h2, by rw [r1.length]; exact h3, P.nl m R (r1.rep _) q⟩)
    · exact h.elim
  · exact h.elim
def dNeg : DR1 := fun x M Q => match x with
  | .int i => Q (.int (-i)) M
  | _ => False
theorem c_neg : Op1 K dNeg (rU fun i => .int (-i)) := by
  intro F M G H x v Qd Q R rx h P
  unfold dNeg at h
  split at h
  · cases rx; exact ⟨_, rfl, P.here R (.int _) h⟩
  · exact h.elim

/-! ### ==, !=, in, is -/
def dEqB (n : Bool) : DR2 := fun x y M Q => match x, y with
  | .int i, .int j => Q (.bl (n ^^ decide (i = j))) M
  | .str i, .str j => Q (.bl (n ^^ decide (i = j))) M
  | .bl i, .bl j => Q (.bl (n ^^ decide (i = j))) M
  | x, y => match toPyM M x, toPyM M y with
    | some p, some q => SeqAt.shaped p = true ∧ SeqAt.shaped q = true ∧ Q (.bl (n ^^ PyData.eqv p q)) M
    | _, _ => False
def rEqA (K : PySem.W.Frag) : R2 := fun x y H Q => rEq x y H Q ∨ rEqD K x y H Q
def rNeA (K : PySem.W.Frag) : R2 := fun x y H Q => rNe x y H Q ∨ rNeD K x y H Q
theorem op_eqA {X : Cx} (hu : X.A.units + 64 < cLine) : OpR X (compareOp .Eq) (rEqA X.K) := op_eq.or (op_eqD hu)
theorem op_neA {X : Cx} (hu : X.A.units + 64 < cLine) : OpR X (compareOp .NotEq) (rNeA X.K) := op_ne.or (op_neD hu)
theorem dec_inj {α β : Type} [DecidableEq α] [DecidableEq β] (f : α → β) (hf : ∀ a b, f a = f b → a = b) (a b : α) : decide (f a = f b) = decide (a = b) := by
  by_cases e : a = b
  · subst e; simp
  · rw [decide_eq_false e, decide_eq_false fun h => e (hf _ _ h)]
theorem c_eq : Op2 K (dEqB false) (rEqA K) := by
  intro F M G H x y v u Qd Q R rx ry h P
  unfold dEqB at h
  simp only [Bool.false_bne] at h
  split at h
  · cases rx; cases ry; exact .inl ⟨rfl, P.here R (by rw [dec_inj V.int fun _ _ e => V.int.inj e]; exact .bl _) h⟩
  · cases rx; cases ry; exact .inl ⟨rfl, P.here R (by rw [dec_inj V.str fun _ _ e => V.str.inj e]; exact .bl _) h⟩
  · cases rx; cases ry; exact .inl ⟨rfl, P.here R (by rw [dec_inj V.bl fun _ _ e => V.bl.inj e]; exact .bl _) h⟩
  · split at h
    · rename_i e1 e2
      exact .inr ⟨_, _, R.dp rx e1, R.dp ry e2, h.1, h.2.1, P.here R (.bl _) h.2.2⟩
    · exact h.elim
theorem c_ne : Op2 K (dEqB true) (rNeA K) := by
  intro F M G H x y v u Qd Q R rx ry h P
  unfold dEqB at h
  simp only [Bool.true_bne] at h
  split at h
  · cases rx; cases ry; exact .inl ⟨rfl, P.here R (by rw [dec_inj V.int fun _ _ e => V.int.inj e]; exact .bl _) h⟩
  · cases rx; cases ry; exact .inl ⟨rfl, P.here R (by rw [dec_inj V.str fun _ _ e => V.str.inj e]; exact .bl _) h⟩
  · cases rx; cases ry; exact .inl ⟨rfl, P.here R (by rw [dec_inj V.bl fun _ _ e => V.bl.inj e]; exact .bl _) h⟩
  · split at h
    · rename_i e1 e2
      exact .inr ⟨_, _, R.dp rx e1, R.dp ry e2, h.1, h.2.1, P.here R (.bl _) h.2.2⟩
    · exact h.elim
def dvalV {κ : Type} [DecidableEq κ] (kvs : List (κ × DV)) (k : κ) : Option DV := (kvs.find? fun kv => decide (kv.1 = k)).map (·.2)
theorem val_rep {κ : Type} [DecidableEq κ] {k : κ} : ∀ {vs : List (κ × V)} {kvs : List (κ × DV)}, vs.map (·.1) = kvs.map (·.1) → Reps K F (vs.map (·.2)) (kvs.map (·.2)) →
    (match dvalV kvs k with
      | none => valV vs k = none
      | some d => ∃ v, valV vs k = some v ∧ Rep K F v d)
  | [], [], _, _ => rfl
  | [], _ :: _, h, _ => by simp at h
  | _ :: _, [], h, _ => by simp at h
  | (k1, v1) :: r1, (k2, d2) :: r2, h, r => by
    simp only [List.map_cons, List.cons.injEq] at h
    obtain ⟨rfl, h⟩ := h
    cases r with
    | cons a b =>
      have ih := val_rep (k := k) h b
      by_cases e : k1 = k
      · subst e
        have e1 : dvalV ((k1, d2) :: r2) k1 = some d2 := by simp [dvalV]
        rw [e1]
        exact ⟨v1, by simp [valV], a⟩
      · have e1 : dvalV ((k1, d2) :: r2) k = dvalV r2 k := by simp [dvalV, List.find?_cons, e]
        have e2 : valV ((k1, v1) :: r1) k = valV r1 k := by simp [valV, List.find?_cons, e]
        rw [e1, e2]
        exact ih
/-- what the dict d holds at the key k -/
def dLook (M : Mem) (k d : DV) : Option (Option DV) := match d with
  | .ref a => match get M a with
    | some (.dK kvs) => match keyD k with
      | some k => some (dvalV kvs k)
      | none => none
    | some (.dT kvs) => match k with
      | .tup ds => match keysD ds with
        | some ks => some (dvalV kvs ks)
        | none => none
      | _ => none
    | _ => none
  | _ => none
def LookAt (K : PySem.W.Frag) (F H : Hp) (a : Addr) (v : V) : Option DV → Prop
  | none => DGet H a v none
  | some d => ∃ y, DGet H a v (some y) ∧ Rep K F y d
theorem Rel.look {w : Option DV} {k : DV} (R : Rel K F M G H) (rk : Rep K F v k) (rd : Rep K F u d) (h : dLook M k d = some w) : ∃ a, u = .ref a ∧ LookAt K F H a v w := by
  cases d with
  | ref a =>
    cases rd
    refine ⟨a, rfl, ?_⟩
    cases e : get M a with
    | none => simp only [dLook, e] at h; cases h
    | some o =>
      cases o with
      | dK kvs =>
        obtain ⟨_, _, vs, q, n, r⟩ := R.mem _ _ e
        simp only [dLook, e] at h
        cases ek : keyD k with
        | none => rw [ek] at h; cases h
        | some k' =>
          rw [ek] at h
          cases h
          rw [Rep.key rk ek]
          have := val_rep (k := k') n r
          cases e1 : dvalV kvs k' with
          | none => rw [e1] at this; show DGet H a (kV k') none; rw [← this]; exact DGet.k q
          | some y => rw [e1] at this; obtain ⟨y, e2, r2⟩ := this; exact ⟨y, by rw [← e2]; exact DGet.k q, r2⟩
      | dT kvs =>
        obtain ⟨_, _, vs, q, n, r⟩ := R.mem _ _ e
        simp only [dLook, e] at h
        cases k with
        | tup ds =>
          cases ek : keysD ds with
          | none => simp only [ek] at h; cases h
          | some k' =>
            simp only [ek] at h
            cases h
            cases rk with
            | tup ht rt =>
              rw [Reps.keys rt ek] at ht
              have := val_rep (k := k') n r
              cases e1 : dvalV kvs k' with
              | none => rw [e1] at this; show DGet H a _ none; rw [← this]; exact DGet.t q (R.exF _ _ ht)
              | some y => rw [e1] at this; obtain ⟨y, e2, r2⟩ := this; exact ⟨y, by rw [← e2]; exact DGet.t q (R.exF _ _ ht), r2⟩
        | _ => cases h
      | _ => simp only [dLook, e] at h; cases h
  | _ => cases h
end
end Lt
namespace Lt
open PySem PySem.Spec PyProof.Rows L2 Evl
section
variable {K : PySem.W.Frag} {F G H F2 H2 : Hp} {M : Mem} {v u : V} {d x y : DV} {ds : List DV} {Qd : DQ} {Q : VK}
def asSeq (M : Mem) : DV → Option (List DV)
  | .tup ds => some ds
  | d => asL M d
theorem Rel.asSeq (R : Rel K F M G H) (r : Rep K F v d) (h : asSeq M d = some ds) : ∃ a vs, v = .ref a ∧ (H a = some (.lst vs) ∨ H a = some (.tup vs)) ∧ Reps K F vs ds := by
  unfold Lt.asSeq at h
  split at h
  · cases h; cases r with | tup e q => exact ⟨_, _, rfl, .inr (R.exF _ _ e), q⟩
  · obtain ⟨a, vs, e, q, r⟩ := R.asL r h; exact ⟨a, vs, e, .inl q, r⟩
/-! ### in -/
def memB (x : DV) (ds : List DV) : Option Bool := match x with
  | .int i => (intsD ds).map fun ns => decide (i ∈ ns)
  | .str i => (strsD ds).map fun ns => decide (i ∈ ns)
  | .bl i => (blsD ds).map fun ns => decide (i ∈ ns)
  | _ => none
theorem inV_int (i : Int) : ∀ ns : List Int, inV (.int i) (ns.map V.int) = decide (i ∈ ns)
  | [] => by simp [inV]
  | n :: r => by
    have ih := inV_int i r
    simp only [inV, List.map_cons, List.any_cons, eqV] at ih ⊢
    rw [ih]
    by_cases e : n = i
    · subst e; simp
    · have : i ≠ n := fun z => e z.symm
      simp [e, this]
theorem inV_str (i : Str) : ∀ ns : List Str, inV (.str i) (ns.map V.str) = decide (i ∈ ns)
  | [] => by simp [inV]
  | n :: r => by
    have ih := inV_str i r
    simp only [inV, List.map_cons, List.any_cons, eqV] at ih ⊢
    rw [ih]
    by_cases e : n = i
    · subst e; simp
    · have : i ≠ n := fun z => e z.symm
      simp [e, this]
theorem inV_bl (i : Bool) : ∀ ns : List Bool, inV (.bl i) (ns.map V.bl) = decide (i ∈ ns)
  | [] => by simp [inV]
  | n :: r => by
    have ih := inV_bl i r
    simp only [inV, List.map_cons, List.any_cons, eqV] at ih ⊢
    rw [ih]
    by_cases e : n = i
    · subst e; simp
    · have : i ≠ n := fun z => e z.symm
      simp [e, this]
theorem allFlat {α : Type} (f : α → V) (hf : ∀ a, flatV (f a) = true) : ∀ l : List α, (l.map f).all flatV = true
  | [] => rfl
  | a :: r => by rw [List.map_cons, List.all_cons, hf a, allFlat f hf r]; rfl
theorem memB_in {b : Bool} {vs : List V} (rx : Rep K F v x) (r : Reps K F vs ds) (h : memB x ds = some b) : flatV v = true ∧ vs.all flatV = true ∧ inV v vs = b := by
  cases x with
  | int i =>
    cases rx
    unfold memB at h
    cases e : intsD ds with
    | none => simp [e] at h
    | some ns =>
      simp only [e, Option.map_some, Option.some.injEq] at h
      have := intsD_inv e
      subst this
      rw [Reps.ints_inv r]
      exact ⟨rfl, allFlat _ (fun _ => rfl) ns, by rw [inV_int]; exact h⟩
  | str i =>
    cases rx
    unfold memB at h
    cases e : strsD ds with
    | none => simp [e] at h
    | some ns =>
      simp only [e, Option.map_some, Option.some.injEq] at h
      have := strsD_inv e
      subst this
      rw [Reps.strs_inv r]
      exact ⟨rfl, allFlat _ (fun _ => rfl) ns, by rw [inV_str]; exact h⟩
  | bl i =>
    cases rx
    unfold memB at h
    cases e : blsD ds with
    | none => simp [e] at h
    | some ns =>
      simp only [e, Option.map_some, Option.some.injEq] at h
      have := blsD_inv e
      subst this
      rw [Reps.bls_inv r]
      exact ⟨rfl, allFlat _ (fun _ => rfl) ns, by rw [inV_bl]; exact h⟩
  | _ => simp [memB] at h
def memP (x y : DV) (M : Mem) : Option (Option Bool) := match toPy x, toPyM M y with
  | some p, some (.list ps) => if SeqAt.shaped p && SeqAt.shaped (.list ps) then some (some (ps.any fun z => PyData.eqv z p)) else none
  | _, _ => none
/-- x in y: ints, texts, bools in a sequence of such; data in a list; a key in a dict -/
def dInB (n : Bool) : DR2 := fun x y M Q => match asSeq M y with
  | some ds => match memB x ds with
    | some b => Q (.bl (n ^^ b)) M
    | none => match memP x y M with
      | some (some b) => Q (.bl (n ^^ b)) M
      | _ => False
  | none => match dLook M x y with
    | some w => Q (.bl (n ^^ w.isSome)) M
    | none => False
def rInA (K : PySem.W.Frag) (n : Bool) : R2 := fun x y H Q => rIn K n x y H Q ∨ (∃ d ds, Dp K H x d ∧ Dp K H y (.list ds) ∧ SeqAt.shaped d = true ∧ SeqAt.shaped (.list ds) = true ∧ Q (.bl (n ^^ ds.any fun z => PyData.eqv z d)) H) ∨
  ∃ a o, y = .ref a ∧ DGet H a x o ∧ Q (.bl (n ^^ o.isSome)) H
theorem op_inA {X : Cx} (hu : X.A.units + 65 < cLine) : OpR X (compareOp .In) (rInA X.K false) := by
  intro pins s σ H x y v u Q I rx ry h
  rcases h with h | ⟨d, ds, h1, h2, h3, h4, h5⟩ | ⟨a, o, rfl, g, q⟩
  · exact op_in_seq pins s σ H x y v u Q I rx ry h
  · exact op_inD hu pins s σ H x y v u Q I rx ry ⟨d, ds, h1, h2, h3, h4, by simpa using h5⟩
  · cases (show u = Value.ref a from ry)
    exact d_in (by omega) I g rx fun s' I' => ⟨.bl o.isSome, H, I', rfl, by simpa using q⟩
theorem op_notinA {X : Cx} (hu : X.A.units + 65 < cLine) : OpR X (compareOp .NotIn) (rInA X.K true) := by
  intro pins s σ H x y v u Q I rx ry h
  rcases h with h | ⟨d, ds, h1, h2, h3, h4, h5⟩ | ⟨a, o, rfl, g, q⟩
  · exact op_notIn_seq pins s σ H x y v u Q I rx ry h
  · exact op_notInD hu pins s σ H x y v u Q I rx ry ⟨d, ds, h1, h2, h3, h4, by simpa using h5⟩
  · cases (show u = Value.ref a from ry)
    exact d_notIn (by omega) I g rx fun s' I' => ⟨.bl (!o.isSome), H, I', rfl, by simpa using q⟩
theorem c_in (n : Bool) : Op2 K (dInB n) (rInA K n) := by
  intro F M G H x y v u Qd Q R rx ry h P
  unfold dInB at h
  split at h
  · rename_i ds e
    split at h
    · rename_i b e1
      obtain ⟨a, vs, rfl, q1, r1⟩ := R.asSeq ry e
      obtain ⟨f1, f2, f3⟩ := memB_in rx r1 e1
      refine .inl ⟨a, vs, rfl, ?_, f1, f2, ?_⟩
      · rcases q1 with q1 | q1
        · exact .inl (.of q1)
        · exact .inr (.of q1)
      · rw [f3]
        cases n
        · exact P.here R (.bl _) (by simpa using h)
        · exact P.here R (.bl _) (by simpa using h)
    · split at h
      · rename_i b e2
        unfold memP at e2
        split at e2
        · rename_i p ps e3 e4
          split at e2
          · rename_i hs
            cases e2
            simp only [Bool.and_eq_true] at hs
            exact .inr (.inl ⟨p, ps, Rep.dp R.exF _ _ _ rx e3, R.dp ry e4, hs.1, hs.2, P.here R (.bl _) h⟩)
          · cases e2
        · cases e2
      · exact h.elim
  · split at h
    · rename_i w e
      obtain ⟨a, rfl, g⟩ := R.look rx ry e
      cases w with
      | none => exact .inr (.inr ⟨a, none, rfl, g, P.here R (.bl _) h⟩)
      | some d => obtain ⟨y, g, r⟩ := g; exact .inr (.inr ⟨a, some y, rfl, g, P.here R (.bl _) h⟩)
    · exact h.elim
/-- is -/
def isNon : DV → Bool
  | .non => true
  | _ => false
def dIsB (n : Bool) : DR2 := fun x y M Q => match y with
  | .non => Q (.bl (n ^^ isNon x)) M
  | .bl b => match x with
    | .bl a => Q (.bl (n ^^ decide (a = b))) M
    | _ => False
  | _ => False
theorem Rep.non_iff (r : Rep K F v d) : decide (v = .non) = isNon d := by cases r <;> simp [isNon]
theorem op_isA {X : Cx} : OpR X (compareOp .Is) (fun x y H Q => (y = .non ∧ Q (.bl (decide (x = .non))) H) ∨ rIsB x y H Q) := op_isN.or op_isBl
theorem op_isnotA {X : Cx} : OpR X (compareOp .IsNot) (fun x y H Q => (y = .non ∧ Q (.bl (!decide (x = .non))) H) ∨ rNotB x y H Q) := op_notN.or op_notBl
theorem c_is : Op2 K (dIsB false) (fun x y H Q => (y = .non ∧ Q (.bl (decide (x = .non))) H) ∨ rIsB x y H Q) := by
  intro F M G H x y v u Qd Q R rx ry h P
  unfold dIsB at h
  split at h
  · cases ry; exact .inl ⟨rfl, by rw [rx.non_iff]; exact P.here R (.bl _) (by simpa using h)⟩
  · split at h
    · cases rx; cases ry; exact .inr ⟨_, _, rfl, rfl, P.here R (.bl _) (by simpa using h)⟩
    · exact h.elim
  · exact h.elim
theorem c_isnot : Op2 K (dIsB true) (fun x y H Q => (y = .non ∧ Q (.bl (!decide (x = .non))) H) ∨ rNotB x y H Q) := by
  intro F M G H x y v u Qd Q R rx ry h P
  unfold dIsB at h
  split at h
  · cases ry; exact .inl ⟨rfl, by rw [rx.non_iff]; exact P.here R (.bl _) (by simpa using h)⟩
  · split at h
    · cases rx; cases ry; exact .inr ⟨_, _, rfl, rfl, P.here R (.bl _) (by simpa using h)⟩
    · exact h.elim
  · exact h.elim

/-! ### items, cuts -/
def dDictIx : DR2 := fun x y M Q => match dLook M y x with
  | some (some d) => Q d M
  | _ => False
def dIx : DR2 := fun x y M Q => match y with
  | .int i => match asSeq M x with
    | some ds => match atI ds i with
      | some d => Q d M
      | none => False
    | none => match x with
      | .str z => match atI z.cps.toList i with
        | some c => z.length ≤ sizeLine ∧ Q (.str ⟨#[c]⟩) M
        | none => False
      | x => dDictIx x (.int i) M Q
  | y => dDictIx x y M Q
def rIxD : R2 := fun x y H Q => ∃ a v, x = .ref a ∧ DGet H a y (some v) ∧ Q v H
theorem ix_dict {X : Cx} (hu : X.A.units + 1 < cLine) : IxR X rIxD := by
  intro value slice pins s σ H x y v u Q I rx ry h hs
  obtain ⟨a, w, rfl, g, q⟩ := h
  cases (show v = Value.ref a from rx)
  exact tail_any (dict_typeIs I g) PySem.F.slot_dict_getitem.lookup (d_getItem hu I g ry fun w' s' I' r => ⟨w, H, I', r, q⟩) hs
def rIxA (K : PySem.W.Frag) : R2 := fun x y H Q => rIx K x y H Q ∨ rIxD x y H Q
theorem ix_A {X : Cx} (hu : X.A.units + 1 < cLine) : IxR X (rIxA X.K) := ix_seq.or (ix_dict hu)
theorem Reps.ixAt {vs : List V} (r : Reps K F vs ds) {i : Int} (h : atI ds i = some d) : ∃ v, atI vs i = some v ∧ Rep K F v d := by
  unfold atI at h ⊢
  rw [r.length]
  cases e : ixN ds.length i with
  | none => rw [e] at h; cases h
  | some j => rw [e] at h; exact r.at h
theorem c_ix : Op2 K dIx (rIxA K) := by
  intro F M G H x y v u Qd Q R rx ry h P
  have dict : ∀ {y : DV} {u : V}, Rep K F u y → dDictIx x y M Qd → rIxA K v u H Q := by
    intro y u ry h
    unfold dDictIx at h
    split at h
    · rename_i d e
      obtain ⟨a, rfl, y', g, r⟩ := R.look ry rx e
      exact .inr ⟨a, y', rfl, g, P.here R r h⟩
    · exact h.elim
  unfold dIx at h
  split at h
  · rename_i i
    cases ry
    cases e : Lt.asSeq M x with
    | some ds =>
      simp only [e] at h
      split at h
      · rename_i d e2
        obtain ⟨a, vs, rfl, q1, r1⟩ := R.asSeq rx e
        obtain ⟨w, hw, rw'⟩ := r1.ixAt e2
        rcases q1 with q1 | q1
        · exact .inl (.inl ⟨a, vs, i, w, rfl, rfl, .of q1, hw, P.here R rw' h⟩)
        · exact .inl (.inr (.inl ⟨a, vs, i, w, rfl, rfl, .of q1, hw, P.here R rw' h⟩))
      · exact h.elim
    | none =>
      simp only [e] at h
      split at h
      · rename_i z
        cases rx
        split at h
        · rename_i c e2
          exact .inl (.inr (.inr ⟨z, i, c, rfl, rfl, h.1, e2, P.here R (.str _) h.2⟩))
        · exact h.elim
      · exact dict (.int i) h
  · exact dict ry h
def cutD (ds : List DV) (lo hi : Option Int) : List DV := (ds.drop (HT.sIx ds.length 0 lo)).take (HT.sIx ds.length ds.length hi - HT.sIx ds.length 0 lo)
theorem Reps.cut {vs : List V} (r : Reps K F vs ds) (lo hi : Option Int) : Reps K F (cutV vs lo hi) (cutD ds lo hi) := by
  unfold cutV cutD
  rw [r.length]
  exact (r.drop _).take _
theorem cutD_all {lo hi : Option Int} (hw : HT.sIx ds.length 0 lo = 0 ∧ HT.sIx ds.length ds.length hi = ds.length) : cutD ds lo hi = ds := by
  unfold cutD
  rw [hw.1, hw.2]
  simp
abbrev DTO := DSt → Mem → (Option Int → Mem → Prop) → Prop
def lowO (K : PySem.W.Frag) (c : DTO) : TO := fun σ H Q => ∃ s F M G Qd, Srel K F σ s ∧ Rel K F M G H ∧ c s M Qd ∧ ∀ o M2 F2 H2, Qd o M2 → Gr F G F2 → Rel K F2 M2 G H2 → Q o H2
def dNoPart : DTO := fun _ M Q => Q none M
def dPart (c : DTE) : DTO := fun s M Q => c s M fun x M1 => match x with
  | .int i => Q (some i) M1
  | _ => False
def dCut (m : Bool) (x : DV) (lo hi : Option Int) (M : Mem) (Q : DQ) : Prop := match x with
  | .tup ds => Q (.tup (cutD ds lo hi)) M
  | x => match asL M x with
    | some ds => nl m (cutD ds lo hi) M Q
    | none => False
def dSl (m : Bool) (c : DTE) (cl ch : DTO) : DTE := fun s M Q => c s M fun x M1 => cl s M1 fun l M2 => ch s M2 fun h M3 => dCut m x l h M3 Q
end
section
variable {X : Cx} {e a b lo hi : Expr} {es : List Expr} {pos p2 : Pos} {ca cb cc c : DTE} {ct cu : DTT} {cl ch : DTO} {oe : Option Expr}
abbrev DO (X : Cx) (e : Option Expr) (c : DTO) : Prop := PO X e (lowO X.K c)
theorem po_imp {t t' : TO} (h : PO X oe t) (w : ∀ σ H Q, t' σ H Q → t σ H Q) : PO X oe t' := ⟨fun pins s σ H Q I q => h.run pins s σ H Q I (w σ H Q q)⟩
theorem do_none : DO X none dNoPart := po_imp po_none fun σ H Q ⟨s, F, M, G, Qd, S, R, h, P⟩ => P none M F H h Gr.refl R
theorem do_some (he : DE X e c) : DO X (some e) (dPart c) := po_imp (po_some he) fun σ H Q ⟨s, F, M, G, Qd, S, R, h, P⟩ => ⟨s, F, M, G, _, S, R, h, fun x M1 v F1 H1 q g R1 r1 => by
  split at q
  · cases r1; exact ⟨_, rfl, P _ M1 F1 H1 q g R1⟩
  · exact q.elim⟩
def rSlAll (K : PySem.W.Frag) : V → Option Int → Option Int → Hp → VK → Prop := fun x lo hi H Q => rSlL K x lo hi H Q ∨ rSlA K x lo hi H Q
theorem sl_all : SlR X (rSlAll X.K) := sl_list.or sl_tupA
theorem de_slice {oh ol : Option Expr} (m : Bool) (he : DE X e c) (hl : DO X ol cl) (hh : DO X oh ch) : DE X (.Subscript e (.Slice ol oh none p2) pos) (dSl m c cl ch) := pe_imp (pe_slice sl_all he hl hh) fun σ H Q ⟨s, F, M, G, Qd, S, R, h, P⟩ =>
  ⟨s, F, M, G, _, S, R, h, fun x M1 v F1 H1 q g1 R1 r1 => ⟨s, F1, M1, G, _, S.up g1.ex, R1, q, fun l M2 F2 H2 q2 g2 R2 => ⟨s, F2, M2, G, _, S.up (g1.trans g2).ex, R2, q2, fun u M3 F3 H3 q3 g3 R3 => by
    have r3 := r1.up (g2.trans g3).ex
    have P3 := P.up (g1.trans (g2.trans g3))
    unfold dCut at q3
    split at q3
    · cases r3 with
      | tup e3 r3 =>
        refine .inr ⟨_, _, rfl, .of (R3.exF _ _ e3), fun hw => ?_, fun hw => P3.nt R3 (r3.cut l u) q3⟩
        rw [r3.length] at hw
        rw [show cutD _ l u = _ from cutD_all hw] at q3
        exact P3.here R3 (.tup e3 r3) q3
    · split at q3
      · rename_i e
        obtain ⟨a, vs, rfl, h1, r1⟩ := R3.asL r3 e
        exact .inl ⟨a, vs, rfl, .of h1, P3.nl m R3 (r1.cut l u) q3⟩
      · exact q3.elim⟩⟩⟩
theorem de_ix (hu : X.A.units + 1 < cLine) (ha : DE X a ca) (hb : DE X b cb) (hs : PlainIx b := by first | exact fun _ _ => rfl | (intro _ _; rfl)) : DE X (.Subscript a b pos) (dOp dIx ca cb) := pe_imp (pe_ix (ix_A hu) ha hb hs) (low_op c_ix)
/-- xs[::-1] -/
def dRev (m : Bool) : DR1 := fun x M Q => match asL M x with
  | some ds => nl m ds.reverse M Q
  | none => False
theorem de_rev {k : Nat} {p1 p2 p3 : Pos} (m : Bool) (he : DE X e c) : DE X (.Subscript e (.Slice none none (some (.UnaryOp .USub (.Constant (.int 1) k p1) p2)) p3) pos) (dUn (dRev m) c) := pe_imp (pe_revL he) (low_un (rV := fun x H1 Q => ∃ a xs, x = .ref a ∧ SqL X.K H1 a xs ∧ ∀ p, H1 p = none → Q (.ref p) (upd H1 p (.lst xs.reverse))) fun F M G H x v Qd Q R rx h P => by
  unfold dRev at h
  split at h
  · rename_i e
    obtain ⟨a, vs, rfl, h1, r1⟩ := R.asL rx e
    exact ⟨a, vs, rfl, .of h1, P.nl m R r1.rev h⟩
  · exact h.elim)

/-! ### and, or, not, if as values -/
def dAnd (ca cb : DTE) : DTE := fun s M Q => ca s M fun x M1 => match x with
  | .bl true => cb s M1 Q
  | .bl false => Q (.bl false) M1
  | _ => False
def dOr (ca cb : DTE) : DTE := fun s M Q => ca s M fun x M1 => match x with
  | .bl true => Q (.bl true) M1
  | .bl false => cb s M1 Q
  | _ => False
def dNot : DR1 := fun x M Q => match x with
  | .bl b => Q (.bl (!b)) M
  | _ => False
variable {rest : List Expr}
theorem de_and (ha : DE X a ca) (hb : DE X (.BoolOp .And (b :: rest) pos) cb) : DE X (.BoolOp .And (a :: b :: rest) pos) (dAnd ca cb) := pe_imp (pe_and ha hb) fun σ H Q ⟨s, F, M, G, Qd, S, R, h, P⟩ =>
  ⟨s, F, M, G, _, S, R, h, fun x M1 v F1 H1 q g1 R1 r1 => by
    split at q
    · cases r1; exact ⟨true, rfl, by rw [if_pos rfl]; exact ⟨s, F1, M1, G, _, S.up g1.ex, R1, q, P.up g1⟩⟩
    · cases r1; exact ⟨false, rfl, by rw [if_neg Bool.false_ne_true]; exact (P.up g1).here R1 (.bl _) q⟩
    · exact q.elim⟩
theorem de_or (ha : DE X a ca) (hb : DE X (.BoolOp .Or (b :: rest) pos) cb) : DE X (.BoolOp .Or (a :: b :: rest) pos) (dOr ca cb) := pe_imp (pe_or ha hb) fun σ H Q ⟨s, F, M, G, Qd, S, R, h, P⟩ =>
  ⟨s, F, M, G, _, S, R, h, fun x M1 v F1 H1 q g1 R1 r1 => by
    split at q
    · cases r1; exact ⟨true, rfl, by rw [if_pos rfl]; exact (P.up g1).here R1 (.bl _) q⟩
    · cases r1; exact ⟨false, rfl, by rw [if_neg Bool.false_ne_true]; exact ⟨s, F1, M1, G, _, S.up g1.ex, R1, q, P.up g1⟩⟩
    · exact q.elim⟩
theorem de_one {op} (ha : DE X a ca) : DE X (.BoolOp op [a] pos) ca := pe_one ha
theorem de_not (ha : DE X a ca) : DE X (.UnaryOp .Not a pos) (dUn dNot ca) := pe_imp (pe_not ha) (low_un (rV := fun x H1 Q => ∃ c, x = .bl c ∧ Q (.bl (!c)) H1) fun F M G H x v Qd Q R rx h P => by
  unfold dNot at h
  split at h
  · cases rx; exact ⟨_, rfl, P.here R (.bl _) h⟩
  · exact h.elim)
def dIf (ct : DTT) (ca cb : DTE) : DTE := fun s M Q => ct s M fun b M1 => match b with
  | true => ca s M1 Q
  | false => cb s M1 Q
theorem de_if {t : Expr} (hc : DT X t ct) (ha : DE X a ca) (hb : DE X b cb) : DE X (.IfExp t a b pos) (dIf ct ca cb) := pe_imp (pe_ifExp hc ha hb) fun σ H Q ⟨s, F, M, G, Qd, S, R, h, P⟩ =>
  ⟨s, F, M, G, _, S, R, h, fun b M1 F1 H1 q g1 R1 => by
    cases b with
    | true => rw [if_pos rfl]; exact ⟨s, F1, M1, G, _, S.up g1.ex, R1, q, P.up g1⟩
    | false => rw [if_neg Bool.false_ne_true]; exact ⟨s, F1, M1, G, _, S.up g1.ex, R1, q, P.up g1⟩⟩
/-! ### tests -/
def dB (c : DTE) : DTT := fun s M Q => c s M fun x M1 => match x with
  | .bl b => Q b M1
  | _ => False
theorem low_B {K : PySem.W.Frag} : ∀ σ H Q, lowT K (dB c) σ H Q → tB (lowE K c) σ H Q := fun σ H Q ⟨s, F, M, G, Qd, S, R, h, P⟩ => ⟨s, F, M, G, _, S, R, h, fun x M1 v F1 H1 q g1 R1 r1 => by
  split at q
  · cases r1; exact ⟨_, rfl, P _ M1 F1 H1 q g1 R1⟩
  · exact q.elim⟩
theorem dt_val (h : DE X e c) (he : ∀ whole, isTrue e X.env whole = (do let v ← whole; standAt e.pos; holding [v] (truthy v)) := by intro _; rfl) : DT X e (dB c) := pt_imp (pt_val h he) low_B
theorem dt_cmp {op : CmpOp} {r : DR2} {rV : R2} (ho : OpR X (compareOp op) rV) (hc : Op2 X.K r rV) (ha : DE X a ca) (hb : DE X b cb) (hm : behindInMarks op b = false) : DT X (.Compare a [op] [b] pos) (dB (dOp r ca cb)) :=
  pt_imp (pt_cmpR ho ha hb hm) fun σ H Q ⟨s, F, M, G, Qd, S, R, h, P⟩ => low_op hc σ H _ ⟨s, F, M, G, _, S, R, h, fun x M1 v F1 H1 q g1 R1 r1 => by
    split at q
    · cases r1; exact ⟨_, rfl, P _ M1 F1 H1 q g1 R1⟩
    · exact q.elim⟩
/-- a <= b <= c of ints -/
def dChain (g g' : Int → Int → Bool) (ca cb cc : DTE) : DTE := fun s M Q => ca s M fun x M1 => cb s M1 fun y M2 => match x, y with
  | .int i, .int j => match g i j with
    | true => cc s M2 fun z M3 => match z with
      | .int k => Q (.bl (g' j k)) M3
      | _ => False
    | false => Q (.bl false) M2
  | _, _ => False
theorem low_chain {K : PySem.W.Frag} {g g' : Int → Int → Bool} : ∀ σ H Q, lowE K (dChain g g' ca cb cc) σ H Q → tChain (rI0 fun i j => .bl (g i j)) (rI0 fun i j => .bl (g' i j)) (lowE K ca) (lowE K cb) (lowE K cc) σ H Q := fun σ H Q ⟨s, F, M, G, Qd, S, R, h, P⟩ =>
  ⟨s, F, M, G, _, S, R, h, fun x M1 v F1 H1 q g1 R1 r1 => ⟨s, F1, M1, G, _, S.up g1.ex, R1, q, fun y M2 u F2 H2 q2 g2 R2 r2 => by
    split at q2
    · rename_i i j
      cases r1; cases r2
      refine ⟨i, j, rfl, rfl, g i j, rfl, ?_⟩
      split at q2
      · rename_i e
        rw [e, if_pos rfl]
        exact ⟨s, F2, M2, G, _, S.up (g1.trans g2).ex, R2, q2, fun z M3 w F3 H3 q3 g3 R3 r3 => by
          split at q3
          · cases r3; exact ⟨_, _, rfl, rfl, (P.up (g1.trans (g2.trans g3))).here R3 (.bl _) q3⟩
          · exact q3.elim⟩
      · rename_i e
        rw [e, if_neg Bool.false_ne_true]
        exact (P.up (g1.trans g2)).here R2 (.bl _) q2
    · exact q2.elim⟩⟩
theorem de_chain {op op' : CmpOp} {g g' : Int → Int → Bool} {c3 : Expr} (ho : OpR X (compareOp op) (rI0 fun i j => .bl (g i j))) (ho' : OpR X (compareOp op') (rI0 fun i j => .bl (g' i j))) (ha : DE X a ca) (hb : DE X b cb) (hc : DE X c3 cc)
    (hm : lastMarks [op, op'] [b, c3] = false := by with_unfolding_all rfl) : DE X (.Compare a [op, op'] [b, c3] pos) (dChain g g' ca cb cc) := pe_imp (pe_chain ho ho' ha hb hc hm) low_chain
theorem dt_chain {op op' : CmpOp} {g g' : Int → Int → Bool} {c3 : Expr} (ho : OpR X (compareOp op) (rI0 fun i j => .bl (g i j))) (ho' : OpR X (compareOp op') (rI0 fun i j => .bl (g' i j))) (ha : DE X a ca) (hb : DE X b cb) (hc : DE X c3 cc)
    (hm : lastMarks [op, op'] [b, c3] = false := by with_unfolding_all rfl) : DT X (.Compare a [op, op'] [b, c3] pos) (dB (dChain g g' ca cb cc)) := pt_imp (pt_chain ho ho' ha hb hc hm) fun σ H Q ⟨s, F, M, G, Qd, S, R, h, P⟩ => low_chain σ H _ ⟨s, F, M, G, _, S, R, h, fun x M1 v F1 H1 q g1 R1 r1 => by
    split at q
    · cases r1; exact ⟨_, rfl, P _ M1 F1 H1 q g1 R1⟩
    · exact q.elim⟩
def dtAnd (t u : DTT) : DTT := fun s M Q => t s M fun b M1 => match b with
  | true => u s M1 Q
  | false => Q false M1
def dtOr (t u : DTT) : DTT := fun s M Q => t s M fun b M1 => match b with
  | true => Q true M1
  | false => u s M1 Q
def dtNot (t : DTT) : DTT := fun s M Q => t s M fun b M1 => Q (!b) M1
theorem dw_and1 (ha : DT X a ct) : DW X (.BoolOp .And [a] pos) ct := pw_and1 ha
theorem dw_or1 (ha : DT X a ct) : DW X (.BoolOp .Or [a] pos) ct := pw_or1 ha
theorem dw_and (ha : DT X a ct) (hb : DW X (.BoolOp .And (b :: rest) pos) cu) : DW X (.BoolOp .And (a :: b :: rest) pos) (dtAnd ct cu) := pw_imp (pw_and ha hb) fun σ H Q ⟨s, F, M, G, Qd, S, R, h, P⟩ =>
  ⟨s, F, M, G, _, S, R, h, fun b M1 F1 H1 q g1 R1 => by
    cases b with
    | true => rw [if_pos rfl]; exact ⟨s, F1, M1, G, _, S.up g1.ex, R1, q, P.up g1⟩
    | false => rw [if_neg Bool.false_ne_true]; exact P _ M1 F1 H1 q g1 R1⟩
theorem dw_or (ha : DT X a ct) (hb : DW X (.BoolOp .Or (b :: rest) pos) cu) : DW X (.BoolOp .Or (a :: b :: rest) pos) (dtOr ct cu) := pw_imp (pw_or ha hb) fun σ H Q ⟨s, F, M, G, Qd, S, R, h, P⟩ =>
  ⟨s, F, M, G, _, S, R, h, fun b M1 F1 H1 q g1 R1 => by
    cases b with
    | true => rw [if_pos rfl]; exact P _ M1 F1 H1 q g1 R1
    | false => rw [if_neg Bool.false_ne_true]; exact ⟨s, F1, M1, G, _, S.up g1.ex, R1, q, P.up g1⟩⟩
theorem dt_not (ha : DT X a ct) : DT X (.UnaryOp .Not a pos) (dtNot ct) := pt_imp (pt_not ha) fun σ H Q ⟨s, F, M, G, Qd, S, R, h, P⟩ => ⟨s, F, M, G, _, S, R, h, fun b M1 F1 H1 q g1 R1 => P _ M1 F1 H1 q g1 R1⟩
/-! ### displays -/
def dTup (ca : DTA) : DTE := fun s M Q => ca s M fun ds M1 => ds.length ≤ sizeLine ∧ Q (.tup ds) M1
def dLst (m : Bool) (ca : DTA) : DTE := fun s M Q => ca s M fun ds M1 => ds.length ≤ sizeLine ∧ nl m ds M1 Q
variable {cla : DTA}
theorem de_tup {x1} (h : DA X es cla) : DE X (.Tuple es x1 pos) (dTup cla) := pe_imp (pe_tup h) fun σ H Q ⟨s, F, M, G, Qd, S, R, h, P⟩ => ⟨s, F, M, G, _, S, R, h, fun ds M1 vs F1 H1 q g1 R1 r1 => ⟨by rw [r1.length]; exact q.1, (P.up g1).nt R1 r1 q.2⟩⟩
theorem de_lst (m : Bool) (h : DA X es cla) : DE X (.List es pos) (dLst m cla) := pe_imp (pe_lst h) fun σ H Q ⟨s, F, M, G, Qd, S, R, h, P⟩ => ⟨s, F, M, G, _, S, R, h, fun ds M1 vs F1 H1 q g1 R1 r1 => ⟨by rw [r1.length]; exact q.1, (P.up g1).nl m R1 r1 q.2⟩⟩
/-- a mutable list handed on as a value -/
def dFrz (c : DTE) : DTE := fun s M Q => c s M fun x M1 => match x with
  | .ref a => match get M1 a with
    | some (.lst ds) => Q (.lst ds) (del M1 a)
    | _ => False
  | _ => False
theorem de_frz (h : DE X e c) : DE X e (dFrz c) := pe_imp h fun σ H Q ⟨s, F, M, G, Qd, S, R, h, P⟩ => ⟨s, F, M, G, _, S, R, h, fun x M1 v F1 H1 q g1 R1 r1 => by
  split at q
  · cases r1
    split at q
    · rename_i e
      obtain ⟨F2, g2, R2, r2⟩ := R1.freeze e
      exact P _ _ _ _ _ q (g1.trans g2) R2 r2
    · exact q.elim
  · exact q.elim⟩
end
end Lt
namespace Lt
open PySem PySem.Spec PyProof.Rows L2 Evl
/-! ### promises of defs -/
abbrev DSp := List DV → Mem → DQ → Prop
abbrev PSp := List DV → (DV → Prop) → Prop
def lowSp (K : PySem.W.Frag) (sp : DSp) : Sp := fun vs H Q _ => ∃ ds F M G Qd, Reps K F vs ds ∧ Rel K F M G H ∧ sp ds M Qd ∧ Post K F G Qd Q
/-- a def that touches nothing -/
def pur (p : PSp) : DSp := fun ds M Q => M = [] ∧ p ds fun d => Q d []
section
variable {K : PySem.W.Frag} {F G H F2 H2 : Hp} {M Ms M2 : Mem} {v u : V} {d x y : DV} {ds : List DV} {Qd : DQ} {Q : VK}
/-- what a callee must leave alone: G and the memory that it is not handed -/
def frG (G H : Hp) (M Ms : Mem) : Hp := fun a => if (get Ms a).isNone ∧ (get M a).isSome then H a else G a
def rest (M Ms : Mem) : Mem := M.filter fun p => (get Ms p.1).isNone
theorem get_rest {Ms : Mem} {a : Addr} : ∀ M : Mem, get (rest M Ms) a = if (get Ms a).isNone then get M a else none
  | [] => by simp [rest, get]
  | (b, o) :: r => by
    have ih := get_rest (Ms := Ms) (a := a) r
    unfold rest at ih ⊢
    rw [List.filter_cons]
    by_cases e : a = b
    · subst e
      cases q : (get Ms a).isNone with
      | true => rw [if_pos rfl, if_pos rfl, get_cons, get_cons, if_pos rfl, if_pos rfl]
      | false => rw [if_neg (by simp), ih, q]; simp
    · cases q : (get Ms b).isNone with
      | true => rw [if_pos rfl, get_cons, get_cons, if_neg e, if_neg e]; exact ih
      | false => rw [if_neg (by simp), get_cons, if_neg e]; exact ih
theorem Rel.split (R : Rel K F M G H) (hs : ∀ a o, get Ms a = some o → get M a = some o) : Rel K F Ms (frG G H M Ms) H := by
  refine ⟨R.exF, fun a u e => ?_, fun a o e => ?_⟩
  · unfold frG at e
    split at e
    · exact e
    · exact R.exG a u e
  · obtain ⟨f, g, m⟩ := R.mem a o (hs a o e)
    refine ⟨f, ?_, m⟩
    unfold frG
    rw [if_neg (by simp [e])]
    exact g
theorem Gr.split (R : Rel K F M G H) (g : Gr F (frG G H M Ms) F2) : Gr F G F2 := ⟨g.ex, fun a u e n => by
  have := g.nw a u e n
  unfold frG at this
  split at this
  · exact fresh_back R.exG this
  · exact this⟩
theorem Rel.join (R : Rel K F M G H) (g : Gr F (frG G H M Ms) F2) (R2 : Rel K F2 M2 (frG G H M Ms) H2) : Rel K F2 (M2 ++ rest M Ms) G H2 := by
  have hG : Ex G (frG G H M Ms) := fun a u e => by
    unfold frG
    split
    · exact R.exG a u e
    · exact e
  refine ⟨R2.exF, fun a u e => R2.exG a u (hG a u e), fun a o e => ?_⟩
  rw [get_app] at e
  cases q : get M2 a with
  | some w =>
    rw [q] at e
    cases e
    obtain ⟨f, g', m⟩ := R2.mem a _ q
    exact ⟨f, fresh_back hG g', m⟩
  | none =>
    rw [q] at e
    dsimp only at e
    rw [get_rest] at e
    split at e
    · rename_i n
      obtain ⟨f, g0, m⟩ := R.mem a o e
      obtain ⟨w, hw⟩ := m.there
      have hfr : frG G H M Ms a = some w := by unfold frG; rw [if_pos ⟨n, by simp [e]⟩]; exact hw
      refine ⟨?_, g0, m.up g.ex ((R2.exG a w hfr).trans hw.symm)⟩
      cases z : F2 a with
      | none => rfl
      | some y => have := g.nw a y z f; rw [hfr] at this; cases this
    · cases e
theorem rest_nil (M : Mem) : rest M [] = M := by
  unfold rest
  rw [List.filter_eq_self]
  intro _ _
  rfl
end
/-- a call of a def: pure; one that may write its first argument's object; any -/
def dCall (sp : PSp) (ca : DTA) : DTE := fun s M Q => ca s M fun ds M1 => sp ds fun d => Q d M1
def dCall1 (sp : DSp) (ca : DTA) : DTE := fun s M Q => ca s M fun ds M1 => match ds with
  | .ref a :: _ => match get M1 a with
    | some o => sp ds [(a, o)] fun d M2 => ∃ o', M2 = [(a, o')] ∧ Q d (put M1 a o')
    | none => False
  | _ => False
def dCallG (sp : DSp) (ca : DTA) : DTE := fun s M Q => ca s M fun ds M1 => ∃ Ms, (∀ a o, get Ms a = some o → get M1 a = some o) ∧ sp ds Ms fun d M2 => Q d (M2 ++ rest M1 Ms)
section
variable {X : Cx} {e a b : Expr} {es : List Expr} {pos p : Pos} {ca cb c : DTE} {ct cu : DTT} {cla : DTA} {k : Nat} {f : Addr} {fd : FuncData} {ps : List Str} {x : Str}
/-- the callee's promise, from what is wanted here -/
theorem go_callG {K : PySem.W.Frag} {sp : DSp} {F G H : Hp} {M Ms : Mem} {ds : List DV} {vs : List V} {Qd : DQ} {Q : VK} (R : Rel K F M G H) (r : Reps K F vs ds) (hs : ∀ a o, get Ms a = some o → get M a = some o)
    (q : sp ds Ms fun d M2 => Qd d (M2 ++ rest M Ms)) (P : Post K F G Qd Q) : lowSp K sp vs H Q E0 :=
  ⟨ds, F, Ms, frG G H M Ms, _, r, R.split hs, q, fun d M2 v F2 H2 q2 g2 R2 r2 => P d _ v F2 H2 q2 (Gr.split R g2) (R.join g2 R2) r2⟩
theorem go_call {K : PySem.W.Frag} {sp : PSp} {F G H : Hp} {M : Mem} {ds : List DV} {vs : List V} {Qd : DQ} {Q : VK} (R : Rel K F M G H) (r : Reps K F vs ds)
    (q : sp ds fun d => Qd d M) (P : Post K F G Qd Q) : lowSp K (pur sp) vs H Q E0 := by
  refine ⟨ds, F, [], frG G H M [], fun d M2 => M2 = [] ∧ Qd d M, r, R.split (fun _ _ z => nomatch z), ⟨rfl, ?_⟩, fun d M2 v F2 H2 q2 g2 R2 r2 => ?_⟩
  · have e : (fun d : DV => ([] : Mem) = [] ∧ Qd d M) = fun d => Qd d M := funext fun d => propext ⟨fun z => z.2, fun z => ⟨rfl, z⟩⟩
    rw [e]; exact q
  · obtain ⟨rfl, q2⟩ := q2
    have := R.join g2 R2
    rw [rest_nil] at this
    exact P d M v F2 H2 q2 (Gr.split R g2) this r2
theorem go_call1 {K : PySem.W.Frag} {sp : DSp} {F G H : Hp} {M : Mem} {ds : List DV} {vs : List V} {Qd : DQ} {Q : VK} {a : Addr} {o : MO} (R : Rel K F M G H) (r : Reps K F vs ds) (eo : get M a = some o)
    (q : sp ds [(a, o)] fun d M2 => ∃ o', M2 = [(a, o')] ∧ Qd d (put M a o')) (P : Post K F G Qd Q) : lowSp K sp vs H Q E0 := by
  refine ⟨_, F, [(a, o)], frG G H M [(a, o)], _, r, R.split fun b w z => ?_, q, fun d M2 v F2 H2 q2 g2 R2 r2 => ?_⟩
  · rw [get_cons] at z
    split at z
    · rename_i e; subst e; cases z; exact eo
    · cases z
  · obtain ⟨o', rfl, q2⟩ := q2
    refine P d _ v F2 H2 q2 (Gr.split R g2) ((R.join g2 R2).sub fun b w z => ?_) r2
    rw [get_put eo] at z
    rw [get_app, get_cons]
    by_cases e : b = a
    · rw [if_pos e] at z ⊢; exact z
    · rw [if_neg e] at z ⊢
      show get (rest M [(a, o)]) b = some w
      rw [get_rest, get_cons, if_neg e]
      exact z
theorem low_callG {K : PySem.W.Frag} {sp : DSp} : ∀ σ H Q, lowE K (dCallG sp cla) σ H Q → tCall (lowSp K sp) [] E0 (lowA K cla) σ H Q := fun σ H Q ⟨s, F, M, G, Qd, S, R, h, P⟩ => ⟨s, F, M, G, _, S, R, h, fun ds M1 vs F1 H1 q g1 R1 r1 => by
  show lowSp K sp (vs ++ []) H1 Q E0
  rw [List.append_nil]
  obtain ⟨Ms, hs, q⟩ := q
  exact go_callG R1 r1 hs q (P.up g1)⟩
theorem low_call {K : PySem.W.Frag} {sp : PSp} : ∀ σ H Q, lowE K (dCall sp cla) σ H Q → tCall (lowSp K (pur sp)) [] E0 (lowA K cla) σ H Q := fun σ H Q ⟨s, F, M, G, Qd, S, R, h, P⟩ => ⟨s, F, M, G, _, S, R, h, fun ds M1 vs F1 H1 q g1 R1 r1 => by
  show lowSp K (pur sp) (vs ++ []) H1 Q E0
  rw [List.append_nil]
  exact go_call R1 r1 q (P.up g1)⟩
theorem low_call1 {K : PySem.W.Frag} {sp : DSp} : ∀ σ H Q, lowE K (dCall1 sp cla) σ H Q → tCall (lowSp K sp) [] E0 (lowA K cla) σ H Q := fun σ H Q ⟨s, F, M, G, Qd, S, R, h, P⟩ => ⟨s, F, M, G, _, S, R, h, fun ds M1 vs F1 H1 q g1 R1 r1 => by
  show lowSp K sp (vs ++ []) H1 Q E0
  rw [List.append_nil]
  split at q
  · split at q
    · rename_i eo
      exact go_call1 R1 r1 eo q (P.up g1)
    · exact q.elim
  · exact q.elim⟩
section
theorem de_call {sp : PSp} (Fo : FnOk X.prog X.w X.K X.mg X.base CX0 k f fd ps (lowSp X.K (pur sp))) (hr : Room k X.A) (hm : X.mg x = some (.ref f)) (hk : PySem.W.keepIn X.K (.ref f) = true) (hb : Binds X.K fd ps []) (ha : DA X (e :: es) cla) (hg : Gl X x := by rfl) (hd : (x == ("__debug__" : Str)) = false := by decide)
    (hq : starEach (e :: es) X.env = (false, eval e X.env) :: starEach es X.env := by rfl) (hpl : (backTo pos (starEach es X.env)).any (·.1) = false := by rfl) : DE X (.Call (.Name x p) (e :: es) [] pos) (dCall sp cla) := pe_imp (pe_call Fo hr hg hm hk hb .nil pass0 ha hd hq hpl) low_call
theorem de_call1 {sp : DSp} (Fo : FnOk X.prog X.w X.K X.mg X.base CX0 k f fd ps (lowSp X.K sp)) (hr : Room k X.A) (hm : X.mg x = some (.ref f)) (hk : PySem.W.keepIn X.K (.ref f) = true) (hb : Binds X.K fd ps []) (ha : DA X (e :: es) cla) (hg : Gl X x := by rfl) (hd : (x == ("__debug__" : Str)) = false := by decide)
    (hq : starEach (e :: es) X.env = (false, eval e X.env) :: starEach es X.env := by rfl) (hpl : (backTo pos (starEach es X.env)).any (·.1) = false := by rfl) : DE X (.Call (.Name x p) (e :: es) [] pos) (dCall1 sp cla) := pe_imp (pe_call Fo hr hg hm hk hb .nil pass0 ha hd hq hpl) low_call1
theorem de_callG {sp : DSp} (Fo : FnOk X.prog X.w X.K X.mg X.base CX0 k f fd ps (lowSp X.K sp)) (hr : Room k X.A) (hm : X.mg x = some (.ref f)) (hk : PySem.W.keepIn X.K (.ref f) = true) (hb : Binds X.K fd ps []) (ha : DA X (e :: es) cla) (hg : Gl X x := by rfl) (hd : (x == ("__debug__" : Str)) = false := by decide)
    (hq : starEach (e :: es) X.env = (false, eval e X.env) :: starEach es X.env := by rfl) (hpl : (backTo pos (starEach es X.env)).any (·.1) = false := by rfl) : DE X (.Call (.Name x p) (e :: es) [] pos) (dCallG sp cla) := pe_imp (pe_call Fo hr hg hm hk hb .nil pass0 ha hd hq hpl) low_callG
end
end
end Lt
namespace Lt
open PySem PySem.Spec PyProof.Rows L2 Evl
/-! ### instances -/
def fldIx : List Str → Str → Option Nat
  | [], _ => none
  | g :: r, f => if f = g then some 0 else (fldIx r f).map (· + 1)
def insOf (C : Addr) (NS : List Str) (M : Mem) : DV → Option (List DV)
  | .obj C' ns ds => if C' = C ∧ ns = NS then some ds else none
  | .ref a => match get M a with
    | some (.ins C' ns ds) => if C' = C ∧ ns = NS then some ds else none
    | _ => none
  | _ => none
theorem lookup_ix {f : Str} : ∀ {fs : List (Str × V)} {j : Nat} {v : V}, fldIx (fs.map (·.1)) f = some j → (fs.map (·.2))[j]? = some v → fs.lookup f = some v
  | [], _, _, h, _ => by cases h
  | (g, w) :: r, j, v, h, e => by
    rw [List.map_cons, fldIx] at h
    rw [List.lookup_cons]
    by_cases q : f = g
    · subst q
      rw [if_pos rfl] at h
      cases h
      simp only [List.map_cons, List.getElem?_cons_zero, Option.some.injEq] at e
      simp [e]
    · rw [if_neg q] at h
      have : (f == g) = false := beq_eq_false_iff_ne.mpr q
      rw [this]
      cases z : fldIx (r.map (·.1)) f with
      | none => rw [z] at h; cases h
      | some j' =>
        rw [z] at h
        cases h
        simp only [List.map_cons, List.getElem?_cons_succ] at e
        exact lookup_ix z e
theorem lookup_no {f : Str} : ∀ {fs : List (Str × V)}, fldIx (fs.map (·.1)) f = none → fs.lookup f = none
  | [], _ => rfl
  | (g, w) :: r, h => by
    rw [List.map_cons, fldIx] at h
    rw [List.lookup_cons]
    by_cases q : f = g
    · rw [if_pos q] at h; cases h
    · rw [if_neg q] at h
      have : (f == g) = false := beq_eq_false_iff_ne.mpr q
      rw [this]
      exact lookup_no (by simpa using h)
section
variable {K : PySem.W.Frag} {F G H F2 H2 : Hp} {M : Mem} {v u : V} {d x y : DV} {ds : List DV} {Qd : DQ} {Q : VK} {C : Addr} {NS : List Str}
theorem Rel.ins (R : Rel K F M G H) (r : Rep K F v x) (h : insOf C NS M x = some ds) : ∃ a dx fs, v = .ref a ∧ H a = some (.ins C dx fs) ∧ fs.map (·.1) = NS ∧ Reps K F (fs.map (·.2)) ds := by
  cases x with
  | obj C' ns ds' =>
    simp only [insOf] at h
    by_cases e : C' = C ∧ ns = NS
    · rw [if_pos e] at h
      cases h
      obtain ⟨rfl, rfl⟩ := e
      cases r with | obj e n q => exact ⟨_, _, _, rfl, R.exF _ _ e, n, q⟩
    · rw [if_neg e] at h; cases h
  | ref a =>
    cases r
    cases e : get M a with
    | none => simp only [insOf, e] at h; cases h
    | some o =>
      cases o with
      | ins C' ns ds' =>
        simp only [insOf, e] at h
        split at h
        · rename_i e2
          cases h
          obtain ⟨rfl, rfl⟩ := e2
          obtain ⟨_, _, dx, fs, q, n, r⟩ := R.mem _ _ e
          exact ⟨a, dx, fs, rfl, q, n, r⟩
        · cases h
      | _ => simp only [insOf, e] at h; cases h
  | _ => cases h
/-- x.f, at place j of the class's attributes -/
def dFld (C : Addr) (NS : List Str) (j : Nat) : DR1 := fun x M Q => match insOf C NS M x with
  | some ds => match ds[j]? with
    | some d => Q d M
    | none => False
  | none => False
end
section
variable {X : Cx} {e a b o : Expr} {es : List Expr} {pos p apos : Pos} {ca cb c co : DTE} {ct cu : DTT} {cla : DTA} {k : Nat} {f C : Addr} {fd : FuncData} {ps : List Str} {x m fl : Str} {NS : List Str}
theorem de_fld {j : Nat} (he : DE X e c) (cl : Cls X.K C) (n : NoAttr X.K C fl) (hj : fldIx NS fl = some j) (hb : attributeBase e fl X.env (eval e X.env) = eval e X.env := by rfl) : DE X (.Attribute e fl pos) (dUn (dFld C NS j) c) :=
  pe_imp (pe_fld he hb) (low_un (rV := fun x H1 Q => ∃ a C dx fs v, x = .ref a ∧ H1 a = some (.ins C dx fs) ∧ Cls X.K C ∧ NoAttr X.K C fl ∧ fs.lookup fl = some v ∧ Q v H1) fun F M G H x v Qd Q R rx h P => by
    unfold dFld at h
    split at h
    · rename_i ds e
      split at h
      · rename_i d ed
        obtain ⟨a, dx, fs, rfl, q, n', r⟩ := R.ins rx e
        subst n'
        obtain ⟨w, hw, rw'⟩ := r.at ed
        exact ⟨a, C, dx, fs, w, rfl, q, cl, n, lookup_ix hj hw, P.here R rw' h⟩
      · exact h.elim
    · exact h.elim)
/-- o.m(..): pure; one that may write the instance alone; any -/
def dMeth (C : Addr) (NS : List Str) (sp : PSp) (co : DTE) (ca : DTA) : DTE := fun s M Q => co s M fun x M0 => match insOf C NS M0 x with
  | some _ => ca s M0 fun ds M1 => sp (x :: ds) fun d => Q d M1
  | none => False
def dMeth1 (C : Addr) (NS : List Str) (sp : DSp) (co : DTE) (ca : DTA) : DTE := fun s M Q => co s M fun x M0 => match insOf C NS M0 x with
  | some _ => ca s M0 fun ds M1 => match x with
    | .ref a => match get M1 a with
      | some o => sp (x :: ds) [(a, o)] fun d M2 => ∃ o', M2 = [(a, o')] ∧ Q d (put M1 a o')
      | none => False
    | _ => False
  | none => False
def dMethG (C : Addr) (NS : List Str) (sp : DSp) (co : DTE) (ca : DTA) : DTE := fun s M Q => co s M fun x M0 => match insOf C NS M0 x with
  | some _ => ca s M0 fun ds M1 => ∃ Ms, (∀ a o, get Ms a = some o → get M1 a = some o) ∧ sp (x :: ds) Ms fun d M2 => Q d (M2 ++ rest M1 Ms)
  | none => False
theorem low_methG {K : PySem.W.Frag} {sp : DSp} (hm : fldIx NS m = none) : ∀ σ H Q, lowE K (dMethG C NS sp co cla) σ H Q → tMeth C m (lowSp K sp) [] E0 (lowE K co) (lowA K cla) σ H Q := fun σ H Q ⟨s, F, M, G, Qd, S, R, h, P⟩ =>
  ⟨s, F, M, G, _, S, R, h, fun x M0 v F0 H0 q g0 R0 r0 => by
    split at q
    · rename_i ei
      obtain ⟨a, dx, fs, rfl, qa, n, _⟩ := R0.ins r0 ei
      subst n
      refine ⟨a, dx, fs, rfl, qa, lookup_no hm, s, F0, M0, G, _, S.up g0.ex, R0, q, fun ds M1 vs F1 H1 q1 g1 R1 r1 => ?_⟩
      show lowSp K sp (V.ref a :: (vs ++ [])) H1 Q E0
      rw [List.append_nil]
      obtain ⟨Ms, hs, q1⟩ := q1
      exact go_callG R1 (.cons (r0.up g1.ex) r1) hs q1 (P.up (g0.trans g1))
    · exact q.elim⟩
theorem low_meth {K : PySem.W.Frag} {sp : PSp} (hm : fldIx NS m = none) : ∀ σ H Q, lowE K (dMeth C NS sp co cla) σ H Q → tMeth C m (lowSp K (pur sp)) [] E0 (lowE K co) (lowA K cla) σ H Q := fun σ H Q ⟨s, F, M, G, Qd, S, R, h, P⟩ =>
  ⟨s, F, M, G, _, S, R, h, fun x M0 v F0 H0 q g0 R0 r0 => by
    split at q
    · rename_i ei
      obtain ⟨a, dx, fs, rfl, qa, n, _⟩ := R0.ins r0 ei
      subst n
      refine ⟨a, dx, fs, rfl, qa, lookup_no hm, s, F0, M0, G, _, S.up g0.ex, R0, q, fun ds M1 vs F1 H1 q1 g1 R1 r1 => ?_⟩
      show lowSp K (pur sp) (V.ref a :: (vs ++ [])) H1 Q E0
      rw [List.append_nil]
      exact go_call R1 (.cons (r0.up g1.ex) r1) q1 (P.up (g0.trans g1))
    · exact q.elim⟩
theorem low_meth1 {K : PySem.W.Frag} {sp : DSp} (hm : fldIx NS m = none) : ∀ σ H Q, lowE K (dMeth1 C NS sp co cla) σ H Q → tMeth C m (lowSp K sp) [] E0 (lowE K co) (lowA K cla) σ H Q := fun σ H Q ⟨s, F, M, G, Qd, S, R, h, P⟩ =>
  ⟨s, F, M, G, _, S, R, h, fun x M0 v F0 H0 q g0 R0 r0 => by
    split at q
    · rename_i ei
      obtain ⟨a, dx, fs, rfl, qa, n, _⟩ := R0.ins r0 ei
      subst n
      refine ⟨a, dx, fs, rfl, qa, lookup_no hm, s, F0, M0, G, _, S.up g0.ex, R0, q, fun ds M1 vs F1 H1 q1 g1 R1 r1 => ?_⟩
      show lowSp K sp (V.ref a :: (vs ++ [])) H1 Q E0
      rw [List.append_nil]
      split at q1
      · split at q1
        · rename_i eo
          exact go_call1 R1 (.cons (r0.up g1.ex) r1) eo q1 (P.up (g0.trans g1))
        · exact q1.elim
      · exact q1.elim
    · exact q.elim⟩
section
variable {pl : Sem Bool}
theorem de_meth {sp : PSp} (he : DE X o co) (c : Cls X.K C) (hm : Meth X.K C m f) (Fo : FnOk X.prog X.w X.K X.mg X.base CX0 k f fd ps (lowSp X.K (pur sp))) (hr : Room k X.A) (hb : Binds X.K fd ps []) (hn : fldIx NS m = none) (ha : DA X (e :: es) cla)
    (hst : starEach (e :: es) X.env = (false, eval e X.env) :: starEach es X.env := by rfl) (hpl : (backTo pos (starEach es X.env)).any (·.1) = false := by rfl)
    (ht : eval (.Call (.Attribute o m apos) (e :: es) [] pos) X.env = (do
      let ov ← eval o X.env
      standAt apos.atName
      let (f, first) ← holding [ov] (getMethod ov m pl)
      callWith pos f first (backTo pos (starEach (e :: es) X.env)) (backToKw pos (keywordEach [] X.env))) := by rfl) : DE X (.Call (.Attribute o m apos) (e :: es) [] pos) (dMeth C NS sp co cla) := pe_imp (pe_meth he c hm Fo hr hb .nil pass0 ha hst hpl ht) (low_meth hn)
theorem de_meth0 {sp : PSp} (he : DE X o co) (c : Cls X.K C) (hm : Meth X.K C m f) (Fo : FnOk X.prog X.w X.K X.mg X.base CX0 k f fd ps (lowSp X.K (pur sp))) (hr : Room k X.A) (hb : Binds X.K fd ps []) (hn : fldIx NS m = none)
    (ht : eval (.Call (.Attribute o m apos) [] [] pos) X.env = (do
      let ov ← eval o X.env
      standAt apos.atName
      let (f, first) ← holding [ov] (getMethod ov m pl)
      callWith pos f first (backTo pos (starEach [] X.env)) (backToKw pos (keywordEach [] X.env))) := by rfl) : DE X (.Call (.Attribute o m apos) [] [] pos) (dMeth C NS sp co dNil) :=
  pe_imp (pe_meth0 he c hm Fo hr hb .nil pass0 ht) fun σ H Q q => by
    obtain ⟨s, F, M, G, Qd, S, R, h, P⟩ := low_meth hn σ H Q q
    exact ⟨s, F, M, G, Qd, S, R, h, fun d M2 v F2 H2 z1 z2 z3 z4 => by
      obtain ⟨a', dx, fs, e1, e2, e3, s', F', M', G', Qa, S', R', q', P'⟩ := P d M2 v F2 H2 z1 z2 z3 z4
      exact ⟨a', dx, fs, e1, e2, e3, P' [] M' [] F' _ q' Gr.refl R' .nil⟩⟩
theorem de_meth1 {sp : DSp} (he : DE X o co) (c : Cls X.K C) (hm : Meth X.K C m f) (Fo : FnOk X.prog X.w X.K X.mg X.base CX0 k f fd ps (lowSp X.K sp)) (hr : Room k X.A) (hb : Binds X.K fd ps []) (hn : fldIx NS m = none) (ha : DA X (e :: es) cla)
    (hst : starEach (e :: es) X.env = (false, eval e X.env) :: starEach es X.env := by rfl) (hpl : (backTo pos (starEach es X.env)).any (·.1) = false := by rfl)
    (ht : eval (.Call (.Attribute o m apos) (e :: es) [] pos) X.env = (do
      let ov ← eval o X.env
      standAt apos.atName
      let (f, first) ← holding [ov] (getMethod ov m pl)
      callWith pos f first (backTo pos (starEach (e :: es) X.env)) (backToKw pos (keywordEach [] X.env))) := by rfl) : DE X (.Call (.Attribute o m apos) (e :: es) [] pos) (dMeth1 C NS sp co cla) := pe_imp (pe_meth he c hm Fo hr hb .nil pass0 ha hst hpl ht) (low_meth1 hn)
theorem de_methG {sp : DSp} (he : DE X o co) (c : Cls X.K C) (hm : Meth X.K C m f) (Fo : FnOk X.prog X.w X.K X.mg X.base CX0 k f fd ps (lowSp X.K sp)) (hr : Room k X.A) (hb : Binds X.K fd ps []) (hn : fldIx NS m = none) (ha : DA X (e :: es) cla)
    (hst : starEach (e :: es) X.env = (false, eval e X.env) :: starEach es X.env := by rfl) (hpl : (backTo pos (starEach es X.env)).any (·.1) = false := by rfl)
    (ht : eval (.Call (.Attribute o m apos) (e :: es) [] pos) X.env = (do
      let ov ← eval o X.env
      standAt apos.atName
      let (f, first) ← holding [ov] (getMethod ov m pl)
      callWith pos f first (backTo pos (starEach (e :: es) X.env)) (backToKw pos (keywordEach [] X.env))) := by rfl) : DE X (.Call (.Attribute o m apos) (e :: es) [] pos) (dMethG C NS sp co cla) := pe_imp (pe_meth he c hm Fo hr hb .nil pass0 ha hst hpl ht) (low_methG hn)
theorem de_meth0G {sp : DSp} (he : DE X o co) (c : Cls X.K C) (hm : Meth X.K C m f) (Fo : FnOk X.prog X.w X.K X.mg X.base CX0 k f fd ps (lowSp X.K sp)) (hr : Room k X.A) (hb : Binds X.K fd ps []) (hn : fldIx NS m = none)
    (ht : eval (.Call (.Attribute o m apos) [] [] pos) X.env = (do
      let ov ← eval o X.env
      standAt apos.atName
      let (f, first) ← holding [ov] (getMethod ov m pl)
      callWith pos f first (backTo pos (starEach [] X.env)) (backToKw pos (keywordEach [] X.env))) := by rfl) : DE X (.Call (.Attribute o m apos) [] [] pos) (dMethG C NS sp co dNil) :=
  pe_imp (pe_meth0 he c hm Fo hr hb .nil pass0 ht) fun σ H Q q => by
    obtain ⟨s, F, M, G, Qd, S, R, h, P⟩ := low_methG hn σ H Q q
    exact ⟨s, F, M, G, Qd, S, R, h, fun d M2 v F2 H2 z1 z2 z3 z4 => by
      obtain ⟨a', dx, fs, e1, e2, e3, s', F', M', G', Qa, S', R', q', P'⟩ := P d M2 v F2 H2 z1 z2 z3 z4
      exact ⟨a', dx, fs, e1, e2, e3, P' [] M' [] F' _ q' Gr.refl R' .nil⟩⟩
end
/-- C(..): the instance as it is handed on, frozen | mutable, with what its __init__ has made -/
def dMake (C : Addr) (sp : DSp) (ca : DTA) : DTE := fun s M Q => ca s M fun ds M1 => ∀ x, sp (.ref x :: ds) [(x, .ins C [] [])] fun d M2 => d = .non ∧ ∃ ns fs, get M2 x = some (.ins C ns fs) ∧ Q (.obj C ns fs) M1
def dMakeM (C : Addr) (sp : DSp) (ca : DTA) : DTE := fun s M Q => ca s M fun ds M1 => ∀ x, Fresh x M1 → sp (.ref x :: ds) [(x, .ins C [] [])] fun d M2 => d = .non ∧ Q (.ref x) (M2 ++ M1)
theorem Rel.made {K : PySem.W.Frag} {F G H : Hp} {M : Mem} {x dx : Addr} (R : Rel K F M G H) (hx : H x = none) (hd : H dx = none) (hne : dx ≠ x) : Rel K F ((x, .ins C [] []) :: M) G (upd (upd H dx (.own x)) x (.ins C dx [])) := by
  have R1 : Rel K F M G (upd H dx (.own x)) := by
    obtain ⟨h1, h2, _, h3⟩ := R.out hd
    refine ⟨fun a u e => ?_, fun a u e => ?_, fun a o e => ?_⟩
    · have q : a ≠ dx := fun z => by subst z; rw [h1] at e; cases e
      rw [upd_ne q]; exact R.exF a u e
    · have q : a ≠ dx := fun z => by subst z; rw [h2] at e; cases e
      rw [upd_ne q]; exact R.exG a u e
    · have q : a ≠ dx := fun z => by subst z; rw [h3] at e; cases e
      obtain ⟨f, g, m⟩ := R.mem a o e
      exact ⟨f, g, m.up (Ex.refl F) (upd_ne q)⟩
  exact R1.newM (by rw [upd_ne hne.symm]; exact hx) _ ⟨dx, [], upd_same, rfl, .nil⟩
theorem low_makeM {K : PySem.W.Frag} {sp : DSp} : ∀ σ H Q, lowE K (dMakeM C sp cla) σ H Q → tMake C (lowSp K sp) [] E0 (lowA K cla) σ H Q := fun σ H Q ⟨s, F, M, G, Qd, S, R, h, P⟩ => ⟨s, F, M, G, _, S, R, h, fun ds M1 vs F1 H1 q g1 R1 r1 x dx hx hd hne => by
  rw [List.append_nil]
  have R2 := R1.made (C := C) hx hd hne
  have fx := (R1.out hx).2.2.1
  refine go_callG (Ms := [(x, .ins C [] [])]) (Qd := fun d M2 => d = .non ∧ Qd (.ref x) M2) R2 (.cons (.ref x) r1) (fun a o z => ?_) ?_ (fun d M2 v F2 H2 q2 g2 R3 r3 => ?_)
  · rw [get_cons] at z ⊢
    split at z
    · rw [if_pos (by assumption)]; exact z
    · cases z
  · have er : rest ((x, MO.ins C [] []) :: M1) [(x, .ins C [] [])] = M1 := by
      unfold rest
      rw [List.filter_cons]
      have e1 : (get [(x, MO.ins C [] [])] x).isNone = false := by simp [get]
      rw [if_neg (by simp [e1])]
      rw [List.filter_eq_self]
      intro p hp
      have : x ≠ p.1 := fx p.1 (List.mem_map_of_mem hp)
      simp [get, this.symm]
    rw [er]
    exact q x fx
  · obtain ⟨rfl, q2⟩ := q2
    cases r3
    exact ⟨rfl, P _ _ _ _ _ q2 (g1.trans g2) R3 (.ref x)⟩⟩
theorem rest_new {x : Addr} {o : MO} {M : Mem} (fx : Fresh x M) : rest ((x, o) :: M) [(x, o)] = M := by
  unfold rest
  rw [List.filter_cons]
  have e1 : (get [(x, o)] x).isNone = false := by simp [get]
  rw [if_neg (by simp [e1])]
  rw [List.filter_eq_self]
  intro p hp
  have : x ≠ p.1 := fx p.1 (List.mem_map_of_mem hp)
  simp [get, this.symm]
theorem low_make {K : PySem.W.Frag} {sp : DSp} : ∀ σ H Q, lowE K (dMake C sp cla) σ H Q → tMake C (lowSp K sp) [] E0 (lowA K cla) σ H Q := fun σ H Q ⟨s, F, M, G, Qd, S, R, h, P⟩ => ⟨s, F, M, G, _, S, R, h, fun ds M1 vs F1 H1 q g1 R1 r1 x dx hx hd hne => by
  rw [List.append_nil]
  have R2 := R1.made (C := C) hx hd hne
  have fx := (R1.out hx).2.2.1
  refine ⟨_, F1, [(x, .ins C [] [])], frG G _ ((x, .ins C [] []) :: M1) [(x, .ins C [] [])], _, .cons (.ref x) r1, R2.split fun a o z => ?_, q x, fun d M2 v F2 H2 q2 g2 R3 r3 => ?_⟩
  · rw [get_cons] at z ⊢
    split at z
    · rw [if_pos (by assumption)]; exact z
    · cases z
  · obtain ⟨rfl, ns, fs, e2, q2⟩ := q2
    cases r3
    obtain ⟨F3, g3, R4, r4⟩ := R3.freezeO e2
    have g23 := g2.trans g3
    have R5 := R2.join g23 R4
    rw [rest_new fx] at R5
    refine ⟨rfl, P _ _ _ _ _ q2 (g1.trans (Gr.split R2 g23)) (R5.sub fun a o z => ?_) r4⟩
    rw [get_app]
    cases w : get (del M2 x) a with
    | none => exact z
    | some o' =>
      exfalso
      have h1 := (R4.mem a o' w).2.1
      obtain ⟨u, hu⟩ := (R1.mem a o z).2.2.there
      have hax : a ≠ x := fun e => by subst e; exact fx a (get_mem z) rfl
      unfold frG at h1
      rw [if_pos ⟨by simp [get, hax], by rw [get_cons, if_neg hax, z]; rfl⟩, upd_ne hax] at h1
      by_cases hadx : a = dx
      · subst hadx; rw [upd_same] at h1; cases h1
      · rw [upd_ne hadx, hu] at h1; cases h1⟩
theorem de_make {sp : DSp} (Mkc : Mk X.K C f) (Fo : FnOk X.prog X.w X.K X.mg X.base CX0 k f fd ps (lowSp X.K sp)) (hr : Room (k + 1) X.A) (hm : X.mg x = some (.ref C)) (hb : Binds X.K fd ps []) (ha : DA X (e :: es) cla) (hg : Gl X x := by rfl)
    (hdb : (x == ("__debug__" : Str)) = false := by decide) (he : starEach (e :: es) X.env = (false, eval e X.env) :: starEach es X.env := by rfl) (hpl : (backTo pos (starEach es X.env)).any (·.1) = false := by rfl) : DE X (.Call (.Name x p) (e :: es) [] pos) (dMake C sp cla) :=
  pe_imp (pe_make Mkc Fo hr hg hm hb .nil pass0 ha hdb he hpl) low_make
theorem de_makeM {sp : DSp} (Mkc : Mk X.K C f) (Fo : FnOk X.prog X.w X.K X.mg X.base CX0 k f fd ps (lowSp X.K sp)) (hr : Room (k + 1) X.A) (hm : X.mg x = some (.ref C)) (hb : Binds X.K fd ps []) (ha : DA X (e :: es) cla) (hg : Gl X x := by rfl)
    (hdb : (x == ("__debug__" : Str)) = false := by decide) (he : starEach (e :: es) X.env = (false, eval e X.env) :: starEach es X.env := by rfl) (hpl : (backTo pos (starEach es X.env)).any (·.1) = false := by rfl) : DE X (.Call (.Name x p) (e :: es) [] pos) (dMakeM C sp cla) :=
  pe_imp (pe_make Mkc Fo hr hg hm hb .nil pass0 ha hdb he hpl) low_makeM
end
end Lt
namespace L2
open PySem PySem.Spec PyProof.Rows
abbrev emptySet (w : World) : Obj := { cls := .type "set", dict := none, data := .set #[] 0 (.fresh 0 0 (!w.params.followText "set-order")) }
section
variable {P : Program} {w : World} {A : Around} {E : Value → Shared → Prop} {s : Shared}
theorem call_set_ints {l : Addr} {items : Array Value} (ns : List Int) {Q : Value → Shared → Prop} (hh : A.handled = none) (hl : s.heap.IsList l items) (hit : IntsAre items.toList ns) (hb : ns.length + 1 < scanBound)
    (h : ∀ (h' : Heap) (tk c : Nat), SetR w h' s.heap.objs.size (fun j => decide (j ∈ ns)) c → c ≤ ns.length → (∀ b o, s.heap.get? b = some o → h'.get? b = some o) → Q (.ref s.heap.objs.size) { s with heap := h', toks := tk }) :
    wpAny (model P w) A (call (.type "set") [.ref l]) Q E s := by
  have hiZ : items.size = ns.length := by
    have q := IntsAre.length hit
    rw [Array.length_toList] at q
    exact q
  obtain ⟨c, tl, hmro⟩ := F.called_set.mro
  have hmade := F.called_set.made
  have hsub := F.called_set.sub
  refine wpAny_call (codeAny_of_tree ?_)
  show wpAny _ _ (callAny (.type "set") _) _ _ _
  refine wpAny_pure ⟨Code.quiet_builtin _ (by decide +kernel), codeAny_builtin F.entry_type_call ?_⟩
  rw [Around.under_plain (weight_type_call_type "set" [.ref l] []) rfl]
  have h1 := F.called_set.notType
  have h2 := F.called_set.canCreate
  have hct := F.typeCall_set_1 (.ref l)
  repeat (any_goals (first | assumption | wp_step))

  refine codeAny_mono (code_set_led1 (.ref l) (E := E) (Q₁ := fun obj s₁ => obj = .ref s.heap.objs.size ∧ s₁ = { s with heap := s.heap.push (emptySet w) }) ⟨rfl, rfl⟩) fun r s₁ hr => ?_
  cases r with
  | error e => exact hr
  | ok fl =>
    cases fl with
    | ret obj =>
      obtain ⟨rfl, rfl⟩ := hr
      have hS : (s.heap.push (emptySet w)).get? s.heap.objs.size = some (emptySet w) := Heap.get?_push_size _ rfl
      have hT : Shared.TypeIs { s with heap := s.heap.push (emptySet w) } (.ref s.heap.objs.size) "set" := ⟨_, hS, rfl⟩
      have hli := F.called_set.init.lookup
      have hbi := F.called_set.init.bind (.ref s.heap.objs.size)
      repeat (any_goals (first | assumption | wp_step))

      refine codeAny_mono (codeAny_call_builtin (R := wants (fun r s₂ => r = .none ∧ ∃ h' tk c, s₂ = { s with heap := h', toks := tk } ∧ SetR w h' s.heap.objs.size (fun j => decide (j ∈ ns)) c ∧ c ≤ ns.length ∧
          (∀ b o, s.heap.get? b = some o → h'.get? b = some o)) E) F.called_set.init.plain F.entry_set_init (check_set_init_1 hT ?_)) fun r₂ s₂ hr₂ => ?_
      · obtain ⟨ol, hol, hcl, nl, hdl⟩ := hl
        obtain ⟨ocls, odict, odata, oslots⟩ := ol
        simp only at hcl hdl
        subst hcl; subst hdl
        have hOl : (s.heap.push (emptySet w)).get? l = some { cls := .type "list", dict := odict, data := .seq items nl, slots := oslots } := Heap.get?_push_of_some _ hol
        have hs1 := F.sub_list_set
        have hs2 := F.sub_list_frozenset
        have hne : (Value.type "list" == Value.type "dict") = false := by decide
        have hl1 : (s.heap.push (emptySet w)).IsList l items := ⟨_, hOl, rfl, nl, rfl⟩
        unfold Builtin.«set.__init__» noKeywords Builtin.Frozenset.updateFrom
        generalize hPI : pyIter = PI
        wp_walk
        subst hPI

        refine wpAny_pyIter_list hl1 ?_
        refine wpAny_bind (wpAny_runValue ?_)
        have hLs : l < s.heap.objs.size := Heap.lt_size hol
        have hh3 : A.in1.in1.in1.handled = none := by simp [hh]
        have hz1 : (s.heap.push (emptySet w)).objs.size = s.heap.objs.size + 1 := Heap.size_push ..
        have hnI : l ≠ (s.heap.push (emptySet w)).objs.size := by
          rw [Heap.size_push]; exact Nat.ne_of_lt (Nat.lt_succ_of_lt hLs)
        have hSf : s.heap.objs.size ∉ [(s.heap.push (emptySet w)).objs.size, l] := by
          rw [Heap.size_push]; simp only [List.mem_cons, List.mem_singleton, List.not_mem_nil, or_false, not_or]
          exact ⟨Nat.ne_of_lt (Nat.lt_succ_self _), Nat.ne_of_gt hLs⟩
        have hVal : ∀ (i : Nat) (v : Value), items[i]? = some v → ∃ k t, ns[i]? = some k ∧ v = .int k t := fun i v hv => by
          have hi : i < ns.length := by rw [← hiZ]; exact (Array.getElem?_eq_some_iff.mp hv).1
          obtain ⟨t, e⟩ := PyProof.Rows.IntsAre.int_at hit i v (by rw [Array.getElem?_toList]; exact hv)
          refine ⟨ns[i], t, List.getElem?_eq_getElem hi, ?_⟩
          rw [e, List.getD_eq_getElem?_getD, List.getElem?_eq_getElem hi] <;> rfl
        refine set_update_ints ((Walks.list hh3 _ l hnI items).toS) s.heap.objs.size
          hSf ns hiZ hb hVal (items.size - 0) 0 _ (by omega) (Nat.zero_le _)
          ⟨⟨_, Heap.get?_push_size _ rfl, rfl, rfl⟩, (hl1.push _)⟩ ?hZ0 ?hRr
        case hZ0 =>
          have hget : ((s.heap.push (emptySet w)).push { cls := .type "list_iterator", data := .fields #[.ref l, .int 0 0] }).get? s.heap.objs.size
              = some (emptySet w) := Heap.get?_push_of_some _ hS
          exact ⟨0, Nat.le_refl 0, setR_new_at hget⟩
        case hRr =>
          intro s' c' hm hc' hS'
          obtain ⟨h', g2, d', tk', os'⟩ := s'
          have eg : g2 = s.gens := hm.gens
          have ed : d' = s.drawn := hm.drawn
          have eo : os' = s.os := hm.os
          subst eg; subst ed; subst eo
          show wpAny _ _ _ _ _ _
          refine wpAny_pure ?_
          show wpAny _ _ (ret Value.none) _ _ _
          rw [hiZ] at hc'
          refine wpAny_pure ⟨rfl, h', tk', c', rfl, hS', hc', fun b o e => ?_⟩
          have hb0 : b < s.heap.objs.size := Heap.lt_size e
          have hb1 : b ≠ s.heap.objs.size := Nat.ne_of_lt hb0
          have hb2 : b ≠ (s.heap.push (emptySet w)).objs.size := by
            rw [Heap.size_push]; exact Nat.ne_of_lt (Nat.lt_succ_of_lt hb0)
          exact hm.heap b o (by simp only [List.mem_cons, List.mem_singleton, List.not_mem_nil, or_false, not_or]; exact ⟨hb1, hb2⟩) (Heap.get?_push_of_some _ (Heap.get?_push_of_some _ e))

      · cases r₂ with
        | error e => exact hr₂
        | ok fl₂ =>
          cases fl₂ with
          | ret r =>
            obtain ⟨rfl, h', tk, c', rfl, hS', hc', hk'⟩ := hr₂
            repeat (any_goals (first | assumption | wp_step))
            exact h _ _ _ hS' hc' hk'
          | _ => exact hr₂.elim
    | _ => exact hr.elim

end
end L2
namespace Lt
open PySem PySem.Spec PyProof.Rows L2 Evl
section
variable {K : PySem.W.Frag} {F G H F2 H2 : Hp} {M : Mem} {v u : V} {d x y : DV} {ds : List DV} {Qd : DQ} {Q : VK}
theorem Reps.one {vs : List V} (r : Reps K F vs [d]) : ∃ v, vs = [v] ∧ Rep K F v d := by
  cases r with | cons a b => cases b; exact ⟨_, rfl, a⟩
theorem Reps.two {vs : List V} (r : Reps K F vs [x, y]) : ∃ v u, vs = [v, u] ∧ Rep K F v x ∧ Rep K F u y := by
  cases r with | cons a b => obtain ⟨u, rfl, h⟩ := b.one; exact ⟨_, u, rfl, a, h⟩
/-! ### len -/
def lenD (M : Mem) (x : DV) : Option Nat := match x with
  | .str z => if z.length ≤ sizeLine then some z.length else none
  | .ref a => match get M a with
    | some (.lst ds) => some ds.length
    | some (.dK kvs) => some kvs.length
    | _ => none
  | .lst ds => some ds.length
  | .tup ds => some ds.length
  | .scr ns => some ns.length
  | _ => none
def dLen : DRN := fun xs M Q => match xs with
  | [x] => match lenD M x with
    | some n => Q (.int (n : Int)) M
    | none => False
  | _ => False
def rLenA (K : PySem.W.Frag) : List V → Hp → VK → Prop := fun xs H Q => (∃ x n, xs = [x] ∧ LenV K x H n ∧ Q (.int n) H) ∨ ∃ a kvs, xs = [V.ref a] ∧ Rd H a (.dK kvs) ∧ Q (.int kvs.length) H
theorem call_lenA {X : Cx} : CallR X (.builtin "len") (rLenA X.K) := by
  intro pins s σ H xs us Q I r h
  rcases h with h | ⟨a, kvs, rfl, e, q⟩
  · exact call_len pins s σ H xs us Q I r h
  · obtain ⟨u, rfl, rx⟩ := vals1 r
    cases (show u = Value.ref a from rx)
    exact d_len I e fun t s' I' => ⟨.int kvs.length, H, I', ⟨t, rfl⟩, q⟩
theorem c_len : OpN K dLen (rLenA K) := by
  intro F M G H xs vs Qd Q R r h P
  unfold dLen at h
  split at h
  · rename_i x
    obtain ⟨v, rfl, rx⟩ := r.one
    split at h
    · rename_i n e
      cases x with
      | str z =>
        cases rx
        simp only [lenD] at e
        split at e
        · rename_i hz
          cases e
          exact .inl ⟨_, _, rfl, ⟨hz, rfl⟩, P.here R (.int _) h⟩
        · cases e
      | lst ds =>
        cases rx with | lst q r1 =>
        cases e
        exact .inl ⟨_, _, rfl, .inl ⟨_, .of (R.exF _ _ q), r1.length.symm⟩, P.here R (.int _) h⟩
      | tup ds =>
        cases rx with | tup q r1 =>
        cases e
        exact .inl ⟨_, _, rfl, .inr ⟨_, .of (R.exF _ _ q), r1.length.symm⟩, P.here R (.int _) h⟩
      | scr ns =>
        cases rx with | scr q =>
        cases e
        exact .inl ⟨_, _, rfl, .inl ⟨_, ex_l R.exF q, by simp⟩, P.here R (.int _) h⟩
      | ref a =>
        cases rx
        cases eg : get M a with
        | none => simp only [lenD, eg] at e; cases e
        | some o =>
          cases o with
          | lst ds =>
            simp only [lenD, eg] at e
            cases e
            obtain ⟨_, _, vs, q, r1⟩ := R.mem _ _ eg
            exact .inl ⟨_, _, rfl, .inl ⟨_, .of q, r1.length.symm⟩, P.here R (.int _) h⟩
          | dK kvs =>
            simp only [lenD, eg] at e
            cases e
            obtain ⟨_, _, vs, q, n, r1⟩ := R.mem _ _ eg
            refine .inr ⟨_, vs, rfl, .inl q, ?_⟩
            have : vs.length = kvs.length := by have := congrArg List.length n; simpa using this
            rw [this]
            exact P.here R (.int _) h
          | _ => simp only [lenD, eg] at e; cases e
      | _ => cases e
    · exact h.elim
  · exact h.elim
/-! ### list(..), tuple(..), int(..) -/
def dList (m : Bool) : DRN := fun xs M Q => match xs with
  | [.scr ns] => nl m (ns.map .int) M Q
  | [x] => match asSeq M x with
    | some ds => nl m ds M Q
    | none => False
  | _ => False
theorem c_list (m : Bool) : OpN K (dList m) (fun xs H Q => ∃ p ys, xs = [.ref p] ∧ (SqL K H p ys ∨ SqT K H p ys) ∧ ∀ l, H l = none → Q (.ref l) (upd H l (.lst ys))) := by
  intro F M G H xs vs Qd Q R r h P
  unfold dList at h
  split at h
  · obtain ⟨v, rfl, rx⟩ := r.one
    cases rx with | scr q =>
    exact ⟨_, _, rfl, .inl (ex_l R.exF q), P.nl m R (Reps.ints _) h⟩
  · obtain ⟨v, rfl, rx⟩ := r.one
    split at h
    · rename_i e
      obtain ⟨a, vs, rfl, q, r1⟩ := R.asSeq rx e
      refine ⟨a, vs, rfl, ?_, P.nl m R r1 h⟩
      rcases q with q | q
      · exact .inl (.of q)
      · exact .inr (.of q)
    · exact h.elim
  · exact h.elim
def dTuple : DRN := fun xs M Q => match xs with
  | [x] => match asSeq M x with
    | some ds => Q (.tup ds) M
    | none => False
  | _ => False
theorem c_tuple : OpN K dTuple (fun xs H Q => ∃ p ys, xs = [.ref p] ∧ ((SqL K H p ys ∧ ∀ l, H l = none → Q (.ref l) (upd H l (.tup ys))) ∨ (SqT K H p ys ∧ Q (.ref p) H))) := by
  intro F M G H xs vs Qd Q R r h P
  unfold dTuple at h
  split at h
  · rename_i x
    obtain ⟨v, rfl, rx⟩ := r.one
    split at h
    · rename_i ds e
      cases x with
      | tup ds' =>
        cases e
        cases rx with | tup q r1 =>
        exact ⟨_, _, rfl, .inr ⟨.of (R.exF _ _ q), P.here R (.tup q r1) h⟩⟩
      | lst ds' =>
        obtain ⟨a, vs, rfl, q, r1⟩ := R.asL rx e
        exact ⟨_, _, rfl, .inl ⟨.of q, P.nt R r1 h⟩⟩
      | ref a' =>
        obtain ⟨a, vs, rfl, q, r1⟩ := R.asL rx e
        exact ⟨_, _, rfl, .inl ⟨.of q, P.nt R r1 h⟩⟩
      | _ => cases e
    · exact h.elim
  · exact h.elim
def dInt : DRN := fun xs M Q => match xs with
  | [.int i] => Q (.int i) M
  | [.bl b] => Q (.int (if b then 1 else 0)) M
  | _ => False
theorem c_int : OpN K dInt (fun xs H Q => (∃ i, xs = [.int i] ∧ Q (.int i) H) ∨ ∃ k, xs = [.bl k] ∧ Q (.int (if k then 1 else 0)) H) := by
  intro F M G H xs vs Qd Q R r h P
  unfold dInt at h
  split at h
  · obtain ⟨v, rfl, rx⟩ := r.one; cases rx; exact .inl ⟨_, rfl, P.here R (.int _) h⟩
  · obtain ⟨v, rfl, rx⟩ := r.one; cases rx; exact .inr ⟨_, rfl, P.here R (.int _) h⟩
  · exact h.elim
/-! ### isinstance(x, T) of a built-in class -/
def tyN (M : Mem) : DV → Option String
  | .non => some "NoneType"
  | .bl _ => some "bool"
  | .int _ => some "int"
  | .str _ => some "str"
  | .tup _ => some "tuple"
  | .lst _ => some "list"
  | .ref a => match get M a with
    | some (.lst _) => some "list"
    | some (.dK _) => some "dict"
    | some (.dT _) => some "dict"
    | _ => none
  | _ => none
def dIsi : DRN := fun xs M Q => match xs with
  | [x, .ty n] => match tyN M x with
    | some t => match kitB t n with
      | some b => Q (.bl b) M
      | none => False
    | none => False
  | _ => False
theorem c_isi : OpN K dIsi (rIsi K) := by
  intro F M G H xs vs Qd Q R r h P
  unfold dIsi at h
  split at h
  · rename_i x n
    obtain ⟨v, u, rfl, rx, ry⟩ := r.two
    cases ry
    split at h
    · rename_i t et
      split at h
      · rename_i b eb
        have ty : TyOf K H v (.type t) := by
          cases x with
          | non => cases rx; cases et; exact .non
          | bl _ => cases rx; cases et; exact .bl _
          | int _ => cases rx; cases et; exact .int _
          | str _ => cases rx; cases et; exact .str _
          | tup _ => cases et; cases rx with | tup q _ => exact .tup (R.exF _ _ q)
          | lst _ => cases et; cases rx with | lst q _ => exact .lst (R.exF _ _ q)
          | ref a =>
            cases rx
            cases eg : get M a with
            | none => simp only [tyN, eg] at et; cases et
            | some o =>
              cases o with
              | lst _ => simp only [tyN, eg] at et; cases et; obtain ⟨_, _, vs, q, _⟩ := R.mem _ _ eg; exact .lst q
              | dK _ => simp only [tyN, eg] at et; cases et; obtain ⟨_, _, vs, q, _⟩ := R.mem _ _ eg; exact .dK q
              | dT _ => simp only [tyN, eg] at et; cases et; obtain ⟨_, _, vs, q, _⟩ := R.mem _ _ eg; exact .dT q
              | _ => simp only [tyN, eg] at et; cases et
          | _ => cases et
        exact ⟨v, .ty n, .type t, .type n, b, rfl, .ty n, .base ty, kit_ty eb, P.here R (.bl _) h⟩
      · exact h.elim
    · exact h.elim
  · exact h.elim
/-! ### sum, max, min, any, all, sorted over ints -/
def intsOf (M : Mem) (x : DV) : Option (List Int) := match asL M x with
  | some ds => intsD ds
  | none => none
theorem Rel.ints {ns : List Int} (R : Rel K F M G H) (r : Rep K F v x) (h : intsOf M x = some ns) : ∃ a, v = .ref a ∧ H a = some (.lst (ns.map V.int)) := by
  unfold Lt.intsOf at h
  split at h
  · rename_i ds e
    obtain ⟨a, vs, rfl, q, r1⟩ := R.asL r e
    have := intsD_inv h
    subst this
    rw [Reps.ints_inv r1] at q
    exact ⟨a, rfl, q⟩
  · cases h
def blsOf (M : Mem) (x : DV) : Option (List Bool) := match asL M x with
  | some ds => blsD ds
  | none => none
theorem Rel.bls {ns : List Bool} (R : Rel K F M G H) (r : Rep K F v x) (h : blsOf M x = some ns) : ∃ a, v = .ref a ∧ H a = some (.lst (ns.map V.bl)) := by
  unfold Lt.blsOf at h
  split at h
  · rename_i ds e
    obtain ⟨a, vs, rfl, q, r1⟩ := R.asL r e
    have := blsD_inv h
    subst this
    rw [Reps.bls_inv r1] at q
    exact ⟨a, rfl, q⟩
  · cases h
def dSum : DRN := fun xs M Q => match xs with
  | [x] => match intsOf M x with
    | some ns => Q (.int ns.sum) M
    | none => False
  | _ => False
theorem c_sum : OpN K dSum (rSum K) := by
  intro F M G H xs vs Qd Q R r h P
  unfold dSum at h
  split at h
  · obtain ⟨v, rfl, rx⟩ := r.one
    split at h
    · rename_i e
      obtain ⟨a, rfl, q⟩ := R.ints rx e
      exact ⟨a, _, rfl, .of q, P.here R (.int _) h⟩
    · exact h.elim
  · exact h.elim
def dMax : DRN := fun xs M Q => match xs with
  | [x] => match intsOf M x with
    | some ns => 0 < ns.length ∧ ∀ m, m ∈ ns → (∀ y, y ∈ ns → y ≤ m) → Q (.int m) M
    | none => False
  | _ => False
theorem c_max : OpN K dMax (rMax K) := by
  intro F M G H xs vs Qd Q R r h P
  unfold dMax at h
  split at h
  · obtain ⟨v, rfl, rx⟩ := r.one
    split at h
    · rename_i e
      obtain ⟨a, rfl, q⟩ := R.ints rx e
      exact ⟨a, _, rfl, .of q, h.1, fun m h1 h2 => P.here R (.int _) (h.2 m h1 h2)⟩
    · exact h.elim
  · exact h.elim
def dMin : DRN := fun xs M Q => match xs with
  | [x] => match intsOf M x with
    | some ns => 0 < ns.length ∧ ∀ m, m ∈ ns → (∀ y, y ∈ ns → m ≤ y) → Q (.int m) M
    | none => False
  | _ => False
theorem c_min : OpN K dMin (rMin K) := by
  intro F M G H xs vs Qd Q R r h P
  unfold dMin at h
  split at h
  · obtain ⟨v, rfl, rx⟩ := r.one
    split at h
    · rename_i e
      obtain ⟨a, rfl, q⟩ := R.ints rx e
      exact ⟨a, _, rfl, .of q, h.1, fun m h1 h2 => P.here R (.int _) (h.2 m h1 h2)⟩
    · exact h.elim
  · exact h.elim
def dAny : DRN := fun xs M Q => match xs with
  | [x] => match blsOf M x with
    | some ns => Q (.bl (ns.any id)) M
    | none => False
  | _ => False
theorem c_any : OpN K dAny (rAny K) := by
  intro F M G H xs vs Qd Q R r h P
  unfold dAny at h
  split at h
  · obtain ⟨v, rfl, rx⟩ := r.one
    split at h
    · rename_i e
      obtain ⟨a, rfl, q⟩ := R.bls rx e
      exact ⟨a, _, rfl, .of q, P.here R (.bl _) h⟩
    · exact h.elim
  · exact h.elim
def dAll : DRN := fun xs M Q => match xs with
  | [x] => match blsOf M x with
    | some ns => Q (.bl (ns.all id)) M
    | none => False
  | _ => False
theorem c_all : OpN K dAll (rAll K) := by
  intro F M G H xs vs Qd Q R r h P
  unfold dAll at h
  split at h
  · obtain ⟨v, rfl, rx⟩ := r.one
    split at h
    · rename_i e
      obtain ⟨a, rfl, q⟩ := R.bls rx e
      exact ⟨a, _, rfl, .of q, P.here R (.bl _) h⟩
    · exact h.elim
  · exact h.elim
def dSorted (m : Bool) : DRN := fun xs M Q => match xs with
  | [x] => match intsOf M x with
    | some ns => ns.length < 64 ∧ ∀ ns' : List Int, ns'.Perm ns → ns'.Pairwise (· ≤ ·) → nl m (ns'.map .int) M Q
    | none => False
  | _ => False
theorem c_sorted (m : Bool) : OpN K (dSorted m) (rSorted K) := by
  intro F M G H xs vs Qd Q R r h P
  unfold dSorted at h
  split at h
  · obtain ⟨v, rfl, rx⟩ := r.one
    split at h
    · rename_i e
      obtain ⟨a, rfl, q⟩ := R.ints rx e
      exact ⟨a, _, rfl, .of q, h.1, fun ns p h1 h2 => P.nl m R (Reps.ints _) (h.2 ns h1 h2) p⟩
    · exact h.elim
  · exact h.elim
end
/-! ### sorted(set(xs)) of ints -/
def rSetOf (K : PySem.W.Frag) (w : World) : List V → Hp → VK → Prop := fun vs H Q => ∃ (a : Addr) (ns : List Int), vs = [V.ref a] ∧ SqL K H a (ns.map V.int) ∧ ns.length < 64 ∧
  ∀ p c, c ≤ ns.length → H p = none → Q (.ref p) (upd H p (SetO w p (fun j => decide (j ∈ ns)) c))
section
variable {X : Cx} {a e : Expr} {es : List Expr} {pos p p2 pos2 : Pos} {ca : DTE}
theorem cr_setOf (hc : X.calm = true) : CallR X (.type "set") (rSetOf X.K X.w) := by
  intro pins s σ H vs us Q I r h
  obtain ⟨a, ns, rfl, hl, h64, q⟩ := h
  rw [Vals.ref1 r]
  obtain ⟨its, rv, pl, _⟩ := I.list hl
  refine call_set_ints ns (I.ok.hd hc) pl.isList (by simpa using Vals.ints rv) (by show ns.length + 1 < scanBound; unfold scanBound; omega) fun h' tk c hS hc' hk => ?_
  exact ⟨.ref s.heap.objs.size, _, I.laid (t' := tk) (a := s.heap.objs.size) (o := SetO X.w s.heap.objs.size (fun j => decide (j ∈ ns)) c) hk (Nat.le_refl _) (setO_new hS), rfl, q _ c hc' I.fresh⟩
theorem nodup_len : ∀ {l r : List Int}, l.Nodup → (∀ k ∈ l, k ∈ r) → l.length ≤ r.length := fun {l r} h1 h2 => by
  induction l generalizing r with
  | nil => exact Nat.zero_le _
  | cons a l ih =>
    have ha := h2 a List.mem_cons_self
    rw [List.nodup_cons] at h1
    have := ih (r := r.erase a) h1.2 fun k hk => (List.mem_erase_of_ne (fun e => h1.1 (by rw [← e]; exact hk))).mpr (h2 k (List.mem_cons_of_mem _ hk))
    rw [List.length_erase_of_mem ha] at this
    have := List.length_pos_of_mem ha
    simp only [List.length_cons]
    omega
def dSortedSet (m : Bool) (ca : DTE) : DTE := fun s M Q => ca s M fun x M1 => match intsOf M1 x with
  | some ns => ns.length < 64 ∧ ∀ ns' : List Int, ns'.Pairwise (· < ·) → (∀ k, k ∈ ns' ↔ k ∈ ns) → nl m (ns'.map .int) M1 Q
  | none => False
theorem de_sortedSet (m : Bool) (hc : X.calm = true) (hm : X.mg "sorted" = none) (hm2 : X.mg "set" = none) (ha : DE X a ca) (hg : Gl X "sorted" := by rfl) (hg2 : Gl X "set" := by rfl)
    (hq2 : starEach [a] X.env = (false, eval a X.env) :: starEach [] X.env := by rfl) (hpl2 : (backTo pos2 (starEach [] X.env)).any (·.1) = false := by rfl)
    (hq : starEach [.Call (.Name "set" p2) [a] [] pos2] X.env = (false, eval (.Call (.Name "set" p2) [a] [] pos2) X.env) :: starEach [] X.env := by rfl) (hpl : (backTo pos (starEach [] X.env)).any (·.1) = false := by rfl) :
    DE X (.Call (.Name "sorted" p) [.Call (.Name "set" p2) [a] [] pos2] [] pos) (dSortedSet m ca) := by
  have h1 := pe_callTy (pos := pos2) (p := p2) (cr_setOf hc) hg2 hm2 (by decide +kernel) (pa_cons ha pa_nil hq2) (by decide) (by decide) hq2 hpl2
  refine pe_imp (pe_callB (pos := pos) (p := p) (cr_sortedSet hc) hg hm (by decide +kernel) (pa_cons h1 pa_nil hq) (by decide) (by decide) hq hpl) fun σ H Q ⟨s, F, M, G, Qd, S, R, h, P⟩ => ?_
  refine ⟨s, F, M, G, _, S, R, h, fun x M1 v F1 H1 q g1 R1 r1 => ?_⟩
  cases e : intsOf M1 x with
  | none => rw [e] at q; exact q.elim
  | some ns =>
    rw [e] at q
    obtain ⟨a, rfl, ha⟩ := R1.ints r1 e
    refine ⟨a, ns, rfl, .of ha, q.1, fun p c hc hp => ⟨p, fun j => decide (j ∈ ns), c, rfl, upd_same, by have := q.1; omega, fun ns' p2 h1 h2 h3 hp2 => ?_⟩⟩
    have hne : p2 ≠ p := fun e => by subst e; rw [upd_same] at hp2; cases hp2
    rw [upd_ne hne] at hp2
    obtain ⟨R2, g2⟩ := R1.froz hp (SetO X.w p (fun j => decide (j ∈ ns)) c)
    exact (P.up (g1.trans g2)).nl m R2 (Reps.ints _) (q.2 ns' h1 fun k => by rw [h2 k]; simp) p2 (by rw [upd_ne hne]; exact hp2)
end
end Lt
namespace Lt
open PySem PySem.Spec PyProof.Rows L2 Evl
/-! ### methods of lists that are written: the list is one of the memory -/
abbrev DMt := Addr → List DV → List DV → Mem → DQ → Prop
/-- x.m(..) of a mutable list x: by its address, what it holds, the arguments -/
def dBM (r : DMt) (co : DTE) (ca : DTA) : DTE := fun s M Q => co s M fun x M1 => match x with
  | .ref a => match get M1 a with
    | some (.lst _) => ca s M1 fun es M2 => match get M2 a with
      | some (.lst ds) => r a ds es M2 Q
      | _ => False
    | _ => False
  | _ => False
def OpM (K : PySem.W.Frag) (r : DMt) (rV : V → List V → Hp → VK → Prop) : Prop := ∀ F M G H a vs ds us es Qd Q, Rel K F M G H → get M a = some (.lst ds) → H a = some (.lst vs) → Reps K F vs ds → Reps K F us es → r a ds es M Qd → Post K F G Qd Q → rV (.ref a) us H Q
section
variable {K : PySem.W.Frag} {F G H F2 H2 : Hp} {M : Mem} {v u : V} {d x y : DV} {ds : List DV} {Qd : DQ} {Q : VK} {a : Addr}
theorem Rel.setL {vs : List V} {es : List DV} {ws : List V} (R : Rel K F M G H) (hx : get M a = some (.lst ds)) (r : Reps K F ws es) : Rel K F (put M a (.lst es)) G (upd H a (.lst ws)) := R.wr hx _ ⟨ws, upd_same, r⟩
theorem low_bm {r : DMt} {rV : V → List V → Hp → VK → Prop} {co : DTE} {ca : DTA} (hc : OpM K r rV) : ∀ σ H Q, lowE K (dBM r co ca) σ H Q → tBM K "list" rV (lowE K co) (lowA K ca) σ H Q := fun σ H Q ⟨s, F, M, G, Qd, S, R, h, P⟩ =>
  ⟨s, F, M, G, _, S, R, h, fun x M1 v F1 H1 q g1 R1 r1 => by
    split at q
    · rename_i a
      cases r1
      split at q
      · rename_i e
        obtain ⟨_, _, vs, q1, _⟩ := R1.mem _ _ e
        refine ⟨.inl ⟨rfl, _, .of q1⟩, s, F1, M1, G, _, S.up g1.ex, R1, q, fun es M2 us F2 H2 q2 g2 R2 r2 => ?_⟩
        split at q2
        · rename_i e2
          obtain ⟨_, _, ws, q3, r3⟩ := R2.mem _ _ e2
          exact hc F2 M2 G H2 a ws _ us es Qd Q R2 e2 q3 r3 r2 q2 (P.up (g1.trans g2))
        · exact q2.elim
      · exact q.elim
    · exact q.elim⟩
theorem low_bm0 {r : DMt} {rV : V → List V → Hp → VK → Prop} {co : DTE} (hc : OpM K r rV) : ∀ σ H Q, lowE K (dBM r co dNil) σ H Q → tBM0 K "list" rV (lowE K co) σ H Q := fun σ H Q ⟨s, F, M, G, Qd, S, R, h, P⟩ =>
  ⟨s, F, M, G, _, S, R, h, fun x M1 v F1 H1 q g1 R1 r1 => by
    split at q
    · rename_i a
      cases r1
      split at q
      · rename_i e
        obtain ⟨_, _, vs, q1, r3⟩ := R1.mem _ _ e
        unfold dNil at q
        dsimp only at q
        rw [e] at q
        exact ⟨.inl ⟨rfl, _, .of q1⟩, hc F1 M1 G H1 a vs _ [] [] Qd Q R1 e q1 r3 .nil q (P.up g1)⟩
      · exact q.elim
    · exact q.elim⟩
def mAppend : DMt := fun a ds es M Q => match es with
  | [d] => ds.length < sizeLine ∧ Q .non (put M a (.lst (ds ++ [d])))
  | _ => False
theorem c_append : OpM K mAppend rAppend := by
  intro F M G H a vs ds us es Qd Q R hm hH r r2 h P
  unfold mAppend at h
  split at h
  · obtain ⟨u, rfl, ru⟩ := r2.one
    exact ⟨a, vs, u, rfl, rfl, hH, by rw [r.length]; exact h.1, P _ _ _ F _ h.2 Gr.refl (R.setL (vs := vs) hm (r.app (.cons ru .nil))) .non⟩
  · exact h.elim
def mPop : DMt := fun a ds es M Q => match ds[ds.length - 1]? with
  | some d => Q d (put M a (.lst ds.dropLast))
  | none => False
theorem c_pop : OpM K mPop (fun x vs H Q => vs = [] → rPop x vs H Q) := by
  intro F M G H a vs ds us es Qd Q R hm hH r r2 h P hn
  unfold mPop at h
  split at h
  · rename_i e
    obtain ⟨y, hy, ry⟩ := r.at e
    exact ⟨a, vs, y, rfl, hn, hH, by rw [r.length]; exact hy, P _ _ _ F _ h Gr.refl (R.setL (vs := vs) hm r.dropLast) ry⟩
  · exact h.elim
def mReverse : DMt := fun a ds es M Q => Q .non (put M a (.lst ds.reverse))
theorem c_reverse : OpM K mReverse (fun x vs H Q => vs = [] → rReverse x vs H Q) := by
  intro F M G H a vs ds us es Qd Q R hm hH r r2 h P hn
  exact ⟨a, vs, rfl, hn, hH, P _ _ _ F _ h Gr.refl (R.setL (vs := vs) hm r.rev) .non⟩
def mPopAt : DMt := fun a ds es M Q => match es with
  | [.int i] => -(2 ^ 63) ≤ i ∧ i < 2 ^ 63 ∧ match seqIndex? i ds.length with
    | some k => match ds[k]? with
      | some d => Q d (put M a (.lst (ds.eraseIdx k)))
      | none => False
    | none => False
  | _ => False
theorem c_popAt : OpM K mPopAt rPopAt := by
  intro F M G H a vs ds us es Qd Q R hm hH r r2 h P
  unfold mPopAt at h
  split at h
  · obtain ⟨u, rfl, ru⟩ := r2.one
    cases ru
    obtain ⟨h1, h2, h⟩ := h
    split at h
    · rename_i k e
      split at h
      · rename_i d ed
        obtain ⟨y, hy, ry⟩ := r.at ed
        exact ⟨a, vs, _, k, y, rfl, rfl, hH, h1, h2, by rw [r.length]; exact e, hy, P _ _ _ F _ h Gr.refl (R.setL (vs := vs) hm (r.erase k)) ry⟩
      · exact h.elim
    · exact h.elim
  · exact h.elim
def mExtend : DMt := fun a ds es M Q => match es with
  | [.tup zs] => ds.length + zs.length ≤ sizeLine ∧ Q .non (put M a (.lst (ds ++ zs)))
  | [y] => match asL M y with
    | some zs => ds.length + zs.length ≤ sizeLine ∧ Q .non (put M a (.lst (ds ++ zs)))
    | none => False
  | _ => False
theorem c_extend : OpM K mExtend (fun x vs H Q => rExtend x vs H Q ∨ rExtT K x vs H Q) := by
  intro F M G H a vs ds us es Qd Q R hm hH r r2 h P
  unfold mExtend at h
  split at h
  · obtain ⟨u, rfl, ru⟩ := r2.one
    cases ru with
    | tup h1 r1 => exact .inr ⟨a, _, vs, _, rfl, rfl, hH, .of (R.exF _ _ h1), by rw [r.length, r1.length]; exact h.1, P _ _ _ F _ h.2 Gr.refl (R.setL (vs := vs) hm (r.app r1)) .non⟩
  · obtain ⟨u, rfl, ru⟩ := r2.one
    split at h
    · rename_i e
      obtain ⟨b, ws, rfl, q, rw'⟩ := R.asL ru e
      exact .inl ⟨a, b, vs, ws, rfl, rfl, hH, q, by rw [r.length, rw'.length]; exact h.1, P _ _ _ F _ h.2 Gr.refl (R.setL (vs := vs) hm (r.app rw')) .non⟩
    · exact h.elim
  · exact h.elim
theorem mt_extA {X : Cx} : MtR X "list.extend" (fun x vs H Q => rExtend x vs H Q ∨ rExtT X.K x vs H Q) := MtR.or mt_extend mt_extT
end
section
variable {X : Cx} {o e : Expr} {es : List Expr} {co : DTE} {ca : DTA} {apos cpos : Pos} {r : DMt} {rV : V → List V → Hp → VK → Prop} {id : String} {name : Str}
theorem de_bm (slot : Slot "list" name id) (hty : typeOf (.builtin id) = pure (.type "method_descriptor")) (hm : MtR X id rV) (hc : OpM X.K r rV) (ho : DE X o co) (ha : DA X (e :: es) ca) (hbase : attributeBase o name X.env (eval o X.env) = eval o X.env := by rfl)
    (hfew : ((backTo cpos (starEach (e :: es) X.env)).all (fun x => !x.1) && (backToKw cpos (keywordEach [] X.env)).all (fun x => x.1.isSome)
      && decide ((e :: es).length + ([] : List Keyword).length + (if ([] : List Keyword).isEmpty then 0 else 1) < 30)) = true := by rfl)
    (hline : (apos.endLine == cpos.line) = true := by rfl) (hs : starEach (e :: es) X.env = (false, eval e X.env) :: starEach es X.env := by rfl) (hplain : (backTo cpos (starEach es X.env)).any (·.1) = false := by rfl) :
    DE X (.Call (.Attribute o name apos) (e :: es) [] cpos) (dBM r co ca) := pe_imp (pe_bm PySem.F.plainAttrs_list slot hty hm ho ha hbase hfew hline hs hplain) (low_bm hc)
theorem de_bm0 (slot : Slot "list" name id) (hty : typeOf (.builtin id) = pure (.type "method_descriptor")) (hm : MtR X id rV) (hc : OpM X.K r (fun x vs H Q => vs = [] → rV x vs H Q)) (ho : DE X o co) (hbase : attributeBase o name X.env (eval o X.env) = eval o X.env := by rfl)
    (hline : (apos.endLine == cpos.line) = true := by rfl) : DE X (.Call (.Attribute o name apos) [] [] cpos) (dBM r co dNil) := pe_imp (pe_bm0 PySem.F.plainAttrs_list slot hty hm ho hbase hline) fun σ H Q q => by
  obtain ⟨s, F, M, G, Qd, S, R, h, P⟩ := low_bm0 hc σ H Q q
  exact ⟨s, F, M, G, Qd, S, R, h, fun d M2 v F2 H2 z1 z2 z3 z4 => ⟨(P d M2 v F2 H2 z1 z2 z3 z4).1, (P d M2 v F2 H2 z1 z2 z3 z4).2 rfl⟩⟩
end

def putD {κ : Type} [DecidableEq κ] (kvs : List (κ × DV)) (k : κ) (v : DV) : List (κ × DV) := if (kvs.any fun kv => decide (kv.1 = k)) = true then kvs.map (fun kv => if kv.1 = k then (kv.1, v) else kv) else kvs ++ [(k, v)]
/-! ### statements -/
structure DEnds where
  nx : DSt → Mem → Prop
  rt : DQ
  bk : DSt → Mem → Prop := fun _ _ => False
  ct : DSt → Mem → Prop := fun _ _ => False
abbrev DTS := DEnds → DSt → Mem → Prop
def NxOk (K : PySem.W.Frag) (F G : Hp) (n : DSt → Mem → Prop) (N : L2.St → Hp → Prop) : Prop := ∀ s M σ F2 H2, n s M → Gr F G F2 → Rel K F2 M G H2 → Srel K F2 σ s → N σ H2
theorem NxOk.up {K : PySem.W.Frag} {F G F2 : Hp} {n : DSt → Mem → Prop} {N : L2.St → Hp → Prop} (h : NxOk K F G n N) (g : Gr F G F2) : NxOk K F2 G n N := fun s M σ F3 H3 q g2 => h s M σ F3 H3 q (g.trans g2)
structure LowD (K : PySem.W.Frag) (F G : Hp) (Dd : DEnds) (D : Ends) : Prop where
  nx : NxOk K F G Dd.nx D.nx
  rt : Post K F G Dd.rt D.rt
  bk : NxOk K F G Dd.bk D.bk
  ct : NxOk K F G Dd.ct D.ct
theorem LowD.up {K : PySem.W.Frag} {F G F2 : Hp} {Dd : DEnds} {D : Ends} (h : LowD K F G Dd D) (g : Gr F G F2) : LowD K F2 G Dd D := ⟨h.nx.up g, h.rt.up g, h.bk.up g, h.ct.up g⟩
def lowS (K : PySem.W.Frag) (c : DTS) : TS := fun D σ H => ∃ s F M G Dd, Srel K F σ s ∧ Rel K F M G H ∧ c Dd s M ∧ LowD K F G Dd D
abbrev DS (X : Cx) (st : Stmt) (c : DTS) : Prop := PS X st (lowS X.K c)
abbrev DSs (X : Cx) (st : List Stmt) (c : DTS) : Prop := PSs X st (lowS X.K c)
def dNext : DTS := fun D s M => D.nx s M
def dSeq (a b : DTS) : DTS := fun D s M => a { D with nx := fun s' M' => b D s' M' } s M
def dBreak : DTS := fun D s M => D.bk s M
def dCont : DTS := fun D s M => D.ct s M
def dDrop (c : DTE) : DTS := fun D s M => c s M fun _ M1 => D.nx s M1
def dRet (c : DTE) : DTS := fun D s M => c s M D.rt
def dRetN : DTS := fun D _ M => D.rt .non M
def dIfS (t : DTT) (a b : DTS) : DTS := fun D s M => t s M fun c M1 => match c with
  | true => a D s M1
  | false => b D s M1
def dNever : DTS := fun _ _ _ => False
def dSet (i : Nat) (c : DTE) : DTS := fun D s M => c s M fun d M1 => D.nx (s.set i (some d)) M1
section
variable {X : Cx} {st : Stmt} {sts : List Stmt} {a b e : Expr} {pos pos' : Pos} {ca cb c : DTE} {ct : DTT} {da db : DTS} {i : Nat} {x : Str}
theorem dss_nil : DSs X [] dNext := pss_imp pss_nil fun D σ H ⟨s, F, M, G, Dd, S, R, h, L⟩ => L.nx s M σ F H h Gr.refl R S
theorem dss_cons (h1 : DS X st da) (h2 : DSs X sts db) : DSs X (st :: sts) (dSeq da db) := pss_imp (pss_cons h1 h2) fun D σ H ⟨s, F, M, G, Dd, S, R, h, L⟩ =>
  ⟨s, F, M, G, _, S, R, h, ⟨fun s' M' σ' F2 H2 q g R2 S2 => ⟨s', F2, M', G, Dd, S2, R2, q, L.up g⟩, L.rt, L.bk, L.ct⟩⟩
theorem dss_one (h1 : DS X st da) : DSs X [st] da := pss_one h1
theorem ds_pass : DS X (.Pass pos) dNext := ps_imp ps_pass fun D σ H ⟨s, F, M, G, Dd, S, R, h, L⟩ => L.nx s M σ F H h Gr.refl R S
theorem ds_break : DS X (.Break pos) dBreak := ps_imp ps_break fun D σ H ⟨s, F, M, G, Dd, S, R, h, L⟩ => L.bk s M σ F H h Gr.refl R S
theorem ds_cont : DS X (.Continue pos) dCont := ps_imp ps_continue fun D σ H ⟨s, F, M, G, Dd, S, R, h, L⟩ => L.ct s M σ F H h Gr.refl R S
theorem ds_never : DS X st dNever := ps_imp ps_never fun D σ H ⟨s, F, M, G, Dd, S, R, h, L⟩ => h.elim
theorem dss_never : DSs X sts dNever := pss_imp pss_never fun D σ H ⟨s, F, M, G, Dd, S, R, h, L⟩ => h.elim
theorem ds_expr (he : DE X e c) (hs : swapsWith e none pos.line X.env = pure false := by rfl) : DS X (.Expr e pos) (dDrop c) := ps_imp (ps_expr he hs) fun D σ H ⟨s, F, M, G, Dd, S, R, h, L⟩ =>
  ⟨s, F, M, G, _, S, R, h, fun d M1 v F1 H1 q g R1 r => L.nx s M1 σ F1 H1 q g R1 (S.up g.ex)⟩
theorem ds_ret (he : DE X e c) : DS X (.Return (some e) pos) (dRet c) := ps_imp (ps_ret he) fun D σ H ⟨s, F, M, G, Dd, S, R, h, L⟩ => ⟨s, F, M, G, _, S, R, h, L.rt⟩
theorem ds_retN : DS X (.Return none pos) dRetN := ps_imp ps_retN fun D σ H ⟨s, F, M, G, Dd, S, R, h, L⟩ => L.rt.here R .non h
theorem ds_if {t : Expr} {as bs : List Stmt} (hc : DT X t ct) (ha : DSs X as da) (hb : DSs X bs db) : DS X (.If t as bs pos) (dIfS ct da db) := ps_imp (ps_if hc ha hb) fun D σ H ⟨s, F, M, G, Dd, S, R, h, L⟩ =>
  ⟨s, F, M, G, _, S, R, h, fun b M1 F1 H1 q g R1 => by
    cases b with
    | true => rw [if_pos rfl]; exact ⟨s, F1, M1, G, Dd, S.up g.ex, R1, q, L.up g⟩
    | false => rw [if_neg Bool.false_ne_true]; exact ⟨s, F1, M1, G, Dd, S.up g.ex, R1, q, L.up g⟩⟩
/-! ### targets -/
abbrev DTG := DV → DSt → Mem → (DSt → Mem → Prop) → Prop
abbrev DTGs := List DV → DSt → Mem → (DSt → Mem → Prop) → Prop
def lowG (K : PySem.W.Frag) (g : DTG) : TG := fun v σ H Q => ∃ d s F M G Qd, Rep K F v d ∧ Srel K F σ s ∧ Rel K F M G H ∧ g d s M Qd ∧ NxOk K F G Qd Q
def lowGs (K : PySem.W.Frag) (g : DTGs) : TGs := fun vs σ H Q => ∃ ds s F M G Qd, Reps K F vs ds ∧ Srel K F σ s ∧ Rel K F M G H ∧ g ds s M Qd ∧ NxOk K F G Qd Q
abbrev DG (X : Cx) (t : Expr) (g : DTG) : Prop := PG X t (lowG X.K g)
abbrev DGs (X : Cx) (t : List Expr) (g : DTGs) : Prop := PGs X t (lowGs X.K g)
theorem pg_imp {t t' : TG} (h : PG X e t) (w : ∀ v σ H Q, t' v σ H Q → t v σ H Q) : PG X e t' := ⟨fun pins s σ H v u Q I r q => h.run pins s σ H v u Q I r (w v σ H Q q)⟩
theorem pgs_imp {es : List Expr} {t t' : TGs} (h : PGs X es t) (w : ∀ v σ H Q, t' v σ H Q → t v σ H Q) : PGs X es t' := ⟨fun pins s σ H v u Q I r q => h.run pins s σ H v u Q I r (w v σ H Q q)⟩
def dgName (i : Nat) : DTG := fun d s M Q => Q (s.set i (some d)) M
theorem dg_name (hN : X.N.Nodup) (hi : X.N[i]? = some x) (hx : Loc X.env.scope x) (hf : X.fn x = true ∨ X.env.scope.names.lookup x = some .local := by first | exact .inl rfl | exact .inr rfl | assumption) : DG X (.Name x pos) (dgName i) :=
  pg_imp (pg_name hN hi hx hf) fun v σ H Q ⟨d, s, F, M, G, Qd, r, S, R, h, N⟩ => N _ M _ F H h Gr.refl R (S.set r i)
def dgNil : DTGs := fun ds s M Q => ds = [] ∧ Q s M
def dgCons (g : DTG) (gs : DTGs) : DTGs := fun ds s M Q => match ds with
  | d :: r => g d s M fun s' M' => gs r s' M' Q
  | [] => False
theorem dgs_nil : DGs X [] dgNil := pgs_imp pgs_nil fun v σ H Q ⟨ds, s, F, M, G, Qd, r, S, R, h, N⟩ => by
  obtain ⟨rfl, h⟩ := h
  cases r
  exact ⟨rfl, N _ M _ F H h Gr.refl R S⟩
theorem dgs_cons {es : List Expr} {g : DTG} {gs : DTGs} (h1 : DG X e g) (h2 : DGs X es gs) (hs : (assignEach (e :: es) X.env).map (·.2) = assign e X.env :: (assignEach es X.env).map (·.2) := by rfl) : DGs X (e :: es) (dgCons g gs) := pgs_imp (pgs_cons h1 h2 hs) fun v σ H Q ⟨ds, s, F, M, G, Qd, r, S, R, h, N⟩ => by
  unfold dgCons at h
  split at h
  · cases r with
    | cons r1 r2 => exact ⟨_, _, rfl, _, s, F, M, G, _, r1, S, R, h, fun s' M' σ' F2 H2 q g R2 S2 => ⟨_, s', F2, M', G, Qd, r2.up g.ex, S2, R2, q, N.up g⟩⟩
  · exact h.elim
def dgTup (n : Nat) (gs : DTGs) : DTG := fun d s M Q => match d with
  | .tup ds => ds.length = n ∧ gs ds s M Q
  | _ => False
theorem dg_tup {es : List Expr} {k : Nat} {gs : DTGs} {n : Nat} (hc : X.calm = true) (h : DGs X es gs) (hn : (assignEach es X.env).length = n := by rfl) (hst : (assignEach es X.env).findIdx? (·.1) = none := by rfl) : DG X (.Tuple es k pos) (dgTup n gs) :=
  pg_imp (pg_tup hc h hn hst) fun v σ H Q ⟨d, s, F, M, G, Qd, r, S, R, h, N⟩ => by
    unfold dgTup at h
    split at h
    · cases r with
      | tup q r => exact ⟨_, _, rfl, .of (R.exF _ _ q), r.length.trans h.1, _, s, F, M, G, Qd, r, S, R, h.2, N⟩
    · exact h.elim
/-! ### assignments -/
def dAsg (c : DTE) (g : DTG) : DTS := fun D s M => c s M fun d M1 => g d s M1 D.nx
theorem low_asg {K : PySem.W.Frag} {g : DTG} : ∀ D σ H, lowS K (dAsg c g) D σ H → tAsg (lowE K c) (lowG K g) D σ H := fun D σ H ⟨s, F, M, G, Dd, S, R, h, L⟩ =>
  ⟨s, F, M, G, _, S, R, h, fun d M1 v F1 H1 q g R1 r => ⟨d, s, F1, M1, G, _, r, S.up g.ex, R1, q, L.nx.up g⟩⟩
theorem ds_asg {tg : Expr} {g : DTG} (he : DE X e c) (hg : DG X tg g) (hs : swapsWithSole [tg] e pos.line X.env = pure false := by rfl) (hw : swappedStores [tg] e X.env = pure none := by rfl) (h1 : (assignEach [tg] X.env).map (·.2) = [assign tg X.env] := by rfl) : DS X (.Assign [tg] e pos) (dAsg c g) := ps_imp (ps_asg he hg hs hw h1) low_asg
theorem ds_set {pos' : Pos} (hN : X.N.Nodup) (hi : X.N[i]? = some x) (hx : Loc X.env.scope x) (he : DE X e c) (hs : swapsWith e (some (.Name x pos')) pos.line X.env = pure false := by rfl) (hf : X.fn x = true ∨ X.env.scope.names.lookup x = some .local := by first | exact .inl rfl | exact .inr rfl | assumption) :
    DS X (.Assign [.Name x pos'] e pos) (dSet i c) := ps_imp (ps_set hN hi hx he hs hf) fun D σ H ⟨s, F, M, G, Dd, S, R, h, L⟩ => ⟨s, F, M, G, _, S, R, h, fun d M1 v F1 H1 q g R1 r => L.nx _ M1 _ F1 H1 q g R1 ((S.up g.ex).set r i)⟩
/-- a, b = c, d -/
def dPar (i j : Nat) (ca : DTA) : DTS := fun D s M => ca s M fun ds M1 => match ds with
  | [d, e] => D.nx ((s.set i (some d)).set j (some e)) M1
  | _ => False
theorem ds_par {j : Nat} {y : Str} {cla : DTA} {px py pt : Pos} {kt k2 pt2} (hc : X.calm = true) (hN : X.N.Nodup) (hi : X.N[i]? = some x) (hj : X.N[j]? = some y) (hij : i ≠ j)
    (hx : X.env.scope.names.lookup x = some .local) (hy : X.env.scope.names.lookup y = some .local) (ha : DA X [a, b] cla)
    (hw : swappedStores [.Tuple [.Name x px, .Name y py] kt pt] (.Tuple [a, b] k2 pt2) X.env = pure (some [x, y]))
    (hs : swapsWithSole [.Tuple [.Name x px, .Name y py] kt pt] (.Tuple [a, b] k2 pt2) pos.line X.env = pure false := by rfl) :
    DS X (.Assign [.Tuple [.Name x px, .Name y py] kt pt] (.Tuple [a, b] k2 pt2) pos) (dPar i j cla) := ps_imp (ps_par hc hN hi hj hij hx hy ha hw hs) fun D σ H ⟨s, F, M, G, Dd, S, R, h, L⟩ =>
  ⟨s, F, M, G, _, S, R, h, fun ds M1 vs F1 H1 q g R1 r => by
    split at q
    · obtain ⟨v, u, rfl, r1, r2⟩ := r.two
      exact ⟨v, u, rfl, L.nx _ M1 _ F1 H1 q g R1 (((S.up g.ex).set r1 i).set r2 j)⟩
    · exact q.elim⟩
/-- x op= e, ints -/
def dAug (i : Nat) (f : Int → Int → Int) (c : DTE) : DTS := fun D s M => match s[i]? with
  | some (some (.int a)) => c s M fun d M1 => match d with
    | .int b => D.nx (s.set i (some (.int (f a b)))) M1
    | _ => False
  | _ => False
theorem ds_aug {op : Operator} {f : Int → Int → Int} {pos' : Pos} (ho : PIp X op (ipI f)) (hN : X.N.Nodup) (hi : X.N[i]? = some x) (hx : Loc X.env.scope x) (he : DE X e c) (hf : X.fn x = true ∨ X.env.scope.names.lookup x = some .local := by first | exact .inl rfl | exact .inr rfl | assumption) :
    DS X (.AugAssign (.Name x pos') op e pos) (dAug i f c) := ps_imp (ps_aug hN hi hx he ho hf) fun D σ H ⟨s, F, M, G, Dd, S, R, h, L⟩ => by
  unfold dAug at h
  split at h
  · rename_i a es
    obtain ⟨v, e1, r1⟩ := S.2 i _ es
    cases r1
    refine ⟨.int a, e1, s, F, M, G, _, S, R, h, fun d M1 v F1 H1 q g R1 r => ?_⟩
    split at q
    · cases r; exact ⟨_, _, rfl, rfl, L.nx _ M1 _ F1 H1 q g R1 ((S.up g.ex).set (.int _) i)⟩
    · exact q.elim
  · exact h.elim
/-- o[i] = v: a list's place, a dict's key -/
def stD (o i v : DV) (M : Mem) (Q : Mem → Prop) : Prop := match o with
  | .ref a => match get M a with
    | some (.lst ds) => match i with
      | .int k => match ixN ds.length k with
        | some j => Q (put M a (.lst (ds.set j v)))
        | none => False
      | _ => False
    | some (.dK kvs) => match keyD i with
      | some k => kvs.length < sizeLine ∧ Q (put M a (.dK (putD kvs k v)))
      | none => False
    | some (.dT kvs) => match i with
      | .tup is => match keysD is with
        | some ks => kvs.length < sizeLine ∧ Q (put M a (.dT (putD kvs ks v)))
        | none => False
      | _ => False
    | _ => False
  | _ => False
def rSetA : TSet := fun o i v H Q => rSetL o i v H Q ∨ ∃ a H', o = .ref a ∧ DPut H a i v H' ∧ Q H'
theorem set_A (hu : X.A.units + 1 < cLine) : PSet X rSetA := by
  intro pins s σ H o i v ov iv u Q I ro ri rv h
  rcases h with h | ⟨a, H', rfl, g, q⟩
  · exact set_list pins s σ H o i v ov iv u Q I ro ri rv h
  · cases (show ov = Value.ref a from ro)
    exact d_setItem hu I g ri rv fun s' I' => ⟨H', I', q⟩
theorem put_rep {K : PySem.W.Frag} {F : Hp} {κ : Type} [DecidableEq κ] {k : κ} {v : V} {d : DV} (rv : Rep K F v d) {vs : List (κ × V)} {kvs : List (κ × DV)} (n : vs.map (·.1) = kvs.map (·.1)) (r : Reps K F (vs.map (·.2)) (kvs.map (·.2))) :
    (putK vs k v).map (·.1) = (putD kvs k d).map (·.1) ∧ Reps K F ((putK vs k v).map (·.2)) ((putD kvs k d).map (·.2)) := by
  have hany : (vs.any fun kv => decide (kv.1 = k)) = kvs.any fun kv => decide (kv.1 = k) := by
    have e1 : (vs.any fun kv => decide (kv.1 = k)) = (vs.map (·.1)).any fun x => decide (x = k) := by rw [List.any_map]; rfl
    have e2 : (kvs.any fun kv => decide (kv.1 = k)) = (kvs.map (·.1)).any fun x => decide (x = k) := by rw [List.any_map]; rfl
    rw [e1, e2, n]
  unfold putK putD
  rw [hany]
  split
  · rename_i hcond
    clear hany hcond
    induction vs generalizing kvs with
    | nil =>
      cases kvs with
      | nil => exact ⟨rfl, .nil⟩
      | cons _ _ => simp at n
    | cons p ps ih =>
      cases kvs with
      | nil => simp at n
      | cons q qs =>
        simp only [List.map_cons, List.cons.injEq] at n
        cases r with
        | cons a b =>
          obtain ⟨h1, h2⟩ := ih n.2 b
          simp only [List.map_cons]
          rw [n.1]
          by_cases e : q.1 = k
          · rw [if_pos e, if_pos e]
            exact ⟨by simp only [n.1, h1], .cons rv h2⟩
          · rw [if_neg e, if_neg e]
            exact ⟨by simp only [n.1, h1], .cons a h2⟩
  · simp only [List.map_append, List.map_cons, List.map_nil]
    exact ⟨by rw [n], r.app (.cons rv .nil)⟩
theorem st_ok {K : PySem.W.Frag} {F G H : Hp} {M : Mem} {o i v : DV} {x y z : V} {Qd : Mem → Prop} {Q : Hp → Prop} (R : Rel K F M G H) (ro : Rep K F x o) (ri : Rep K F y i) (rv : Rep K F z v) (h : stD o i v M Qd)
    (P : ∀ M2 H2, Qd M2 → Rel K F M2 G H2 → Q H2) : rSetA x y z H Q := by
  cases o with
  | ref a =>
    cases ro
    cases e : get M a with
    | none => simp only [stD, e] at h
    | some ob =>
      obtain ⟨_, _, mr⟩ := R.mem _ _ e
      cases ob with
      | lst ds =>
        obtain ⟨vs, q, r⟩ := mr
        simp only [stD, e] at h
        cases i with
        | int k =>
          cases ri
          cases ej : ixN ds.length k with
          | none => simp only [ej] at h
          | some j =>
            simp only [ej] at h
            exact .inl ⟨a, vs, k, j, rfl, rfl, q, by rw [r.length]; exact ej, P _ _ h (R.setL (vs := vs) e (r.set j rv))⟩
        | _ => exact h.elim
      | dK kvs =>
        obtain ⟨vs, q, n, r⟩ := mr
        simp only [stD, e] at h
        cases ek : keyD i with
        | none => simp only [ek] at h
        | some k =>
          simp only [ek] at h
          have hl : vs.length = kvs.length := by have := congrArg List.length n; simpa using this
          obtain ⟨h1, h2⟩ := put_rep (k := k) rv n r
          refine .inr ⟨a, _, rfl, ?_, P _ _ h.2 (R.wr e _ ⟨_, upd_same, h1, h2⟩)⟩
          rw [Rep.key ri ek]
          exact DPut.k q (by rw [hl]; exact h.1)
      | dT kvs =>
        obtain ⟨vs, q, n, r⟩ := mr
        simp only [stD, e] at h
        cases i with
        | tup is =>
          cases ek : keysD is with
          | none => simp only [ek] at h
          | some ks =>
            simp only [ek] at h
            have hl : vs.length = kvs.length := by have := congrArg List.length n; simpa using this
            obtain ⟨h1, h2⟩ := put_rep (k := ks) rv n r
            cases ri with
            | tup ht rt =>
              rw [Reps.keys rt ek] at ht
              exact .inr ⟨a, _, rfl, DPut.t q (R.exF _ _ ht) (by rw [hl]; exact h.1), P _ _ h.2 (R.wr e _ ⟨_, upd_same, h1, h2⟩)⟩
        | _ => exact h.elim
      | ins _ _ _ => simp only [stD, e] at h
  | _ => exact h.elim
def dgSub (co ci : DTE) : DTG := fun v s M Q => co s M fun o M1 => ci s M1 fun i M2 => stD o i v M2 fun M3 => Q s M3
theorem dg_sub {o i : Expr} {co ci : DTE} (hu : X.A.units + 1 < cLine) (ho : DE X o co) (hi : DE X i ci)
    (ha : ∀ v, assign (.Subscript o i pos) X.env v = (do
      let ov ← holding [v] (eval o X.env)
      let iv ← holding [v, ov] (eval i X.env)
      standAt pos
      holding [v, ov, iv] (setItem ov iv v)
      release [v, ov, iv] []) := by intro _; rfl) : DG X (.Subscript o i pos) (dgSub co ci) := pg_imp (pg_sub ho hi (set_A hu) ha) fun v σ H Q ⟨d, s, F, M, G, Qd, r, S, R, h, N⟩ =>
  ⟨s, F, M, G, _, S, R, h, fun o M1 x F1 H1 q g1 R1 r1 => ⟨s, F1, M1, G, _, S.up g1.ex, R1, q, fun i M2 y F2 H2 q2 g2 R2 r2 =>
    st_ok R2 (r1.up g2.ex) r2 (r.up (g1.trans g2).ex) q2 fun M3 H3 q3 R3 => N s M3 σ F2 H3 q3 (g1.trans g2) R3 (S.up (g1.trans g2).ex)⟩⟩
def nsUp (NS : List Str) (f : Str) : Option Nat → List Str
  | some _ => NS
  | none => NS ++ [f]
def dsUp (ds : List DV) (d : DV) : Option Nat → List DV
  | some j => ds.set j d
  | none => ds ++ [d]
/-- x.f = e: the attributes ahead of it and behind it -/
def dSetF (C : Addr) (NS NS' : List Str) (j : Option Nat) (co c : DTE) : DTS := fun D s M => c s M fun d M1 => co s M1 fun x M2 => match x with
  | .ref a => match get M2 a with
    | some (.ins C' ns ds) => C' = C ∧ ns = NS ∧ D.nx s (put M2 a (.ins C NS' (dsUp ds d j)))
    | _ => False
  | _ => False
theorem putF_rep {K : PySem.W.Frag} {F : Hp} {f : Str} {v : V} {d : DV} (rv : Rep K F v d) : ∀ {fs : List (Str × V)} {ds : List DV}, Reps K F (fs.map (·.2)) ds →
    (putF f v fs).map (·.1) = nsUp (fs.map (·.1)) f (fldIx (fs.map (·.1)) f) ∧
    Reps K F ((putF f v fs).map (·.2)) (dsUp ds d (fldIx (fs.map (·.1)) f))
  | [], ds, r => by
    cases r
    exact ⟨rfl, .cons rv .nil⟩
  | (g, w) :: fs, _, r => by
    cases r with
    | cons a b =>
      rw [List.map_cons, fldIx]
      unfold putF
      by_cases e : f = g
      · subst e
        rw [if_pos rfl]
        rw [if_pos rfl]
        exact ⟨rfl, .cons rv b⟩
      · have e' : ¬ g = f := fun z => e z.symm
        rw [if_neg e]
        rw [if_neg e']
        obtain ⟨h1, h2⟩ := putF_rep rv b (f := f)
        cases q : fldIx (fs.map (·.1)) f with
        | none =>
          rw [q] at h1 h2
          exact ⟨by simp only [List.map_cons, Option.map_none, h1, nsUp, List.cons_append], .cons a h2⟩
        | some j =>
          rw [q] at h1 h2
          exact ⟨by simp only [List.map_cons, Option.map_some, h1, nsUp], .cons a h2⟩
theorem ds_setF {o : Expr} {co : DTE} {fl : Str} {C : Addr} {NS NS' : List Str} {j : Option Nat} (cl : Cls X.K C) (n : NoAttr X.K C fl) (hj : fldIx NS fl = j) (hN : nsUp NS fl j = NS') (hl : NS.length < 1000) (ho : DE X o co) (he : DE X e c)
    (hs : swapsWith e (some (.Attribute o fl pos')) pos.line X.env = pure false := by rfl) : DS X (.Assign [.Attribute o fl pos'] e pos) (dSetF C NS NS' j co c) := ps_imp (ps_fld ho he hs) fun D σ H ⟨s, F, M, G, Dd, S, R, h, L⟩ =>
  ⟨s, F, M, G, _, S, R, h, fun d M1 v F1 H1 q g1 R1 r1 => ⟨s, F1, M1, G, _, S.up g1.ex, R1, q, fun x M2 u F2 H2 q2 g2 R2 r2 => by
    cases x with
    | ref a =>
      cases r2
      cases em : get M2 a with
      | none => simp only [em] at q2
      | some ob =>
        cases ob with
        | ins C' ns ds =>
          simp only [em] at q2
          obtain ⟨rfl, rfl, q2⟩ := q2
          obtain ⟨_, _, dx, fs, e1, e2, e3⟩ := R2.mem _ _ em
          obtain ⟨p1, p2⟩ := putF_rep (f := fl) (r1.up g2.ex) e3
          rw [e2, hj] at p1 p2
          refine ⟨a, _, dx, fs, rfl, e1, cl, n, ?_, L.nx s _ σ F2 _ q2 (g1.trans g2) (R2.wr em _ ⟨dx, _, upd_same, p1.trans hN, p2⟩) (S.up (g1.trans g2).ex)⟩
          have : fs.length = ns.length := by rw [← e2]; simp
          omega
        | _ => simp only [em] at q2
    | _ => exact q2.elim⟩⟩
end
end Lt
namespace Lt
open PySem PySem.Spec PyProof.Rows L2 Evl
/-! ### what is walked -/
def watchOk (w : Option (Addr × List DV)) (M : Mem) : Prop := match w with
  | none => True
  | some (a, ds) => get M a = some (.lst ds)
abbrev DTI := DSt → Mem → (List DV → Option (Addr × List DV) → Mem → Prop) → Prop
def ItRel (K : PySem.W.Frag) (F1 : Hp) (J : It) (its : List DV) (w : Option (Addr × List DV)) : Prop := ∀ i F2 M2 G2 H2, Ex F1 F2 → Rel K F2 M2 G2 H2 → watchOk w M2 →
  (its.length ≤ i → J.stop i H2) ∧ ∀ d, its[i]? = some d → J.go i H2 ∧ ∀ x H3, J.yld i H2 x H3 → ∃ F3, Gr F2 G2 F3 ∧ Rel K F3 M2 G2 H3 ∧ Rep K F3 x d
def lowI (K : PySem.W.Frag) (ci : DTI) : TI := fun σ H R => ∃ s F M G Qd, Srel K F σ s ∧ Rel K F M G H ∧ ci s M Qd ∧ ∀ its w M1 J F1 H1, Qd its w M1 → Gr F G F1 → Rel K F1 M1 G H1 → ItRel K F1 J its w → R J H1
abbrev DI (X : Cx) (tg iter : Expr) (ci : DTI) : Prop := PI X tg iter (lowI X.K ci)
section
variable {X : Cx} {tg iter e : Expr} {c : DTE} {ca : DTA} {p pos : Pos}
theorem pi_imp {t t' : TI} (h : PI X tg iter t) (w : ∀ σ H R, t' σ H R → t σ H R) : PI X tg iter t' := ⟨fun pins s σ H R I q => h.run pins s σ H R I (w σ H R q)⟩
/-- a list or a tuple -/
def iSeq (K : PySem.W.Frag) (tl : TE) : TI := fun σ H R => tl σ H fun x H1 => ∃ a, x = .ref a ∧ (((∃ xs, SqL K H1 a xs) ∧ R (Itl K a) H1) ∨ ((∃ xs, SqT K H1 a xs) ∧ R (Itt K a) H1))
theorem pi_seq {tl : TE} (hl : PE X e tl) : PI X tg e (iSeq X.K tl) := by
  refine ⟨fun pins s σ H R I h => thn (hl.run pins s σ H _ I h) fun v s1 ⟨x, H1, I1, r1, q1⟩ => ?_⟩
  obtain ⟨a, rfl, q⟩ := q1
  cases r1
  rcases q with ⟨⟨xs, hq⟩, q⟩ | ⟨⟨xs, hq⟩, q⟩
  · obtain ⟨its, _, pl, _⟩ := I1.list hq
    refine wpAny_pyIter_list pl.isList ⟨s1.heap.objs.size, [s1.heap.objs.size], _, _, H1, rfl, I1.kept (t' := s1.toks) fun b o z => Heap.get?_push_of_some _ z, turn_list a _, ⟨_, Heap.get?_push_size _ rfl, rfl, rfl⟩, fun b hb => ?_, q⟩
    rw [List.mem_singleton.mp hb]
    exact I1.fpOk (Nat.le_refl _) I1.fresh
  · obtain ⟨its, _, pl, _⟩ := I1.tuple hq
    refine wpAny_pyIter_tuple (show s1.heap.IsTuple a its.toArray from pl) ⟨s1.heap.objs.size, [s1.heap.objs.size], _, _, H1, rfl, I1.kept (t' := s1.toks) fun b o z => Heap.get?_push_of_some _ z, turn_tuple a _, ⟨_, Heap.get?_push_size _ rfl, rfl, rfl⟩, fun b hb => ?_, q⟩
    rw [List.mem_singleton.mp hb]
    exact I1.fpOk (Nat.le_refl _) I1.fresh
def dSeqI (c : DTE) : DTI := fun s M Q => c s M fun x M1 => match x with
  | .lst ds => Q ds none M1
  | .tup ds => Q ds none M1
  | .ref a => match get M1 a with
    | some (.lst ds) => Q ds (some (a, ds)) M1
    | _ => False
  | _ => False
theorem di_seq (he : DE X e c) : DI X tg e (dSeqI c) := pi_imp (pi_seq he) fun σ H R ⟨s, F, M, G, Qd, S, Rl, h, P⟩ => ⟨s, F, M, G, _, S, Rl, h, fun x M1 v F1 H1 q g1 R1 r1 => by
  split at q
  · cases r1 with | lst e1 r =>
    rename_i a vs
    refine ⟨a, rfl, .inl ⟨⟨vs, .of (R1.exF _ _ e1)⟩, P _ none M1 _ F1 H1 q g1 R1 fun i F2 M2 G2 H2 e2 R2 _ => ?_⟩⟩
    have hq : SqL X.K H2 a vs := .of (R2.exF _ _ (e2 _ _ e1))
    refine ⟨fun hl => ⟨vs, hq, by rw [r.length]; exact hl⟩, fun d hd => ?_⟩
    obtain ⟨w, hw, rw'⟩ := r.at hd
    exact ⟨⟨vs, w, hq, hw⟩, fun x H3 y => by
      obtain ⟨rfl, y⟩ := y
      have := y vs hq
      rw [hw] at this
      cases this
      exact ⟨F2, Gr.refl, R2, rw'.up e2⟩⟩
  · cases r1 with | tup e1 r =>
    rename_i a vs
    refine ⟨a, rfl, .inr ⟨⟨vs, .of (R1.exF _ _ e1)⟩, P _ none M1 _ F1 H1 q g1 R1 fun i F2 M2 G2 H2 e2 R2 _ => ?_⟩⟩
    have hq : SqT X.K H2 a vs := .of (R2.exF _ _ (e2 _ _ e1))
    refine ⟨fun hl => ⟨vs, hq, by rw [r.length]; exact hl⟩, fun d hd => ?_⟩
    obtain ⟨w, hw, rw'⟩ := r.at hd
    exact ⟨⟨vs, w, hq, hw⟩, fun x H3 y => by
      obtain ⟨rfl, y⟩ := y
      have := y vs hq
      rw [hw] at this
      cases this
      exact ⟨F2, Gr.refl, R2, rw'.up e2⟩⟩
  · rename_i a
    cases r1
    split at q
    · rename_i ds em
      obtain ⟨_, _, vs, e1, r⟩ := R1.mem _ _ em
      refine ⟨a, rfl, .inl ⟨⟨vs, .of e1⟩, P _ (some (a, ds)) M1 _ F1 H1 q g1 R1 fun i F2 M2 G2 H2 e2 R2 hw => ?_⟩⟩
      obtain ⟨_, _, vs2, e3, r3⟩ := R2.mem _ _ (show get M2 a = some (.lst ds) from hw)
      have hq : SqL X.K H2 a vs2 := .of e3
      refine ⟨fun hl => ⟨vs2, hq, by rw [r3.length]; exact hl⟩, fun d hd => ?_⟩
      obtain ⟨w, hw, rw'⟩ := r3.at hd
      exact ⟨⟨vs2, w, hq, hw⟩, fun x H3 y => by
        obtain ⟨rfl, y⟩ := y
        have := y vs2 hq
        rw [hw] at this
        cases this
        exact ⟨F2, Gr.refl, R2, rw'⟩⟩
    · exact q.elim
  · exact q.elim⟩
/-! ### ranges -/
def rngD (lo : Int) (n : Nat) : List DV := (List.range n).map fun (k : Nat) => DV.int (lo + (k : Int))
theorem rngD_len (lo : Int) (n : Nat) : (rngD lo n).length = n := by simp [rngD]
theorem it_rng {K : PySem.W.Frag} {F : Hp} (lo : Int) (n : Nat) : ItRel K F (Itr lo n) (rngD lo n) none := fun i F2 M2 G2 H2 e2 R2 _ => by
  rw [rngD_len]
  refine ⟨fun h => h, fun d hd => ?_⟩
  unfold rngD at hd
  rw [List.getElem?_map] at hd
  cases hr : (List.range n)[i]? with
  | none => rw [hr] at hd; cases hd
  | some k =>
    rw [hr] at hd
    obtain ⟨hi, hk⟩ := List.getElem?_eq_some_iff.mp hr
    rw [List.getElem_range] at hk
    subst hk
    cases hd
    rw [List.length_range] at hi
    exact ⟨hi, fun x H3 y => by
      obtain ⟨rfl, rfl⟩ := y
      exact ⟨F2, Gr.refl, R2, .int _⟩⟩
def dRng1 (ca : DTA) : DTI := fun s M Q => ca s M fun xs M1 => match xs with
  | [.int j] => -(2 ^ 62) ≤ j ∧ j < 2 ^ 62 ∧ Q (rngD 0 j.toNat) none M1
  | _ => False
def dRng2 (ca : DTA) : DTI := fun s M Q => ca s M fun xs M1 => match xs with
  | [.int i, .int j] => (-(2 ^ 62) ≤ i ∧ i < 2 ^ 62 ∧ -(2 ^ 62) ≤ j ∧ j < 2 ^ 62) ∧ Q (rngD i (j - i).toNat) none M1
  | _ => False
def rngC (lo c : Int) (n : Nat) : List DV := (List.range n).map fun (k : Nat) => DV.int (lo + (k : Int) * c)
theorem rngC_len (lo c : Int) (n : Nat) : (rngC lo c n).length = n := by simp [rngC]
theorem it_rngC {K : PySem.W.Frag} {F : Hp} (lo c : Int) (n : Nat) : ItRel K F (Itc lo c n) (rngC lo c n) none := fun i F2 M2 G2 H2 e2 R2 _ => by
  rw [rngC_len]
  refine ⟨fun h => h, fun d hd => ?_⟩
  unfold rngC at hd
  rw [List.getElem?_map] at hd
  cases hr : (List.range n)[i]? with
  | none => rw [hr] at hd; cases hd
  | some k =>
    rw [hr] at hd
    obtain ⟨hi, hk⟩ := List.getElem?_eq_some_iff.mp hr
    rw [List.getElem_range] at hk
    subst hk
    cases hd
    rw [List.length_range] at hi
    exact ⟨hi, fun x H3 y => by
      obtain ⟨rfl, rfl⟩ := y
      exact ⟨F2, Gr.refl, R2, .int _⟩⟩
def dRng3 (ca : DTA) : DTI := fun s M Q => ca s M fun xs M1 => match xs with
  | [.int i, .int j, .int c] => ∃ n, RgC i j c n ∧ Q (rngC i c n) none M1
  | _ => False
theorem di_range1 {a : Expr} (hm : X.mg "range" = none) (ha : DA X [a] ca) (hg : Gl X "range" := by rfl) (hs : starEach [a] X.env = [(false, eval a X.env)] := by rfl) : DI X tg (.Call (.Name "range" p) [a] [] pos) (dRng1 ca) := pi_imp (pi_range1 hg hm ha hs) fun σ H R ⟨s, F, M, G, Qd, S, Rl, h, P⟩ => ⟨s, F, M, G, _, S, Rl, h, fun xs M1 vs F1 H1 q g1 R1 r1 => by
  split at q
  · obtain ⟨v, rfl, r⟩ := r1.one
    cases r
    exact ⟨_, rfl, q.1, q.2.1, P _ none M1 _ F1 H1 q.2.2 g1 R1 (it_rng 0 _)⟩
  · exact q.elim⟩
theorem di_range2 {a b : Expr} (hm : X.mg "range" = none) (ha : DA X [a, b] ca) (hg : Gl X "range" := by rfl) (hs : starEach [a, b] X.env = [(false, eval a X.env), (false, eval b X.env)] := by rfl) (hs2 : starEach [b] X.env = [(false, eval b X.env)] := by rfl) : DI X tg (.Call (.Name "range" p) [a, b] [] pos) (dRng2 ca) := pi_imp (pi_range2 hg hm ha hs hs2) fun σ H R ⟨s, F, M, G, Qd, S, Rl, h, P⟩ => ⟨s, F, M, G, _, S, Rl, h, fun xs M1 vs F1 H1 q g1 R1 r1 => by
  split at q
  · obtain ⟨v, u, rfl, r, r'⟩ := r1.two
    cases r; cases r'
    exact ⟨_, _, rfl, q.1, P _ none M1 _ F1 H1 q.2 g1 R1 (it_rng _ _)⟩
  · exact q.elim⟩
theorem di_range3 {a b c : Expr} (hm : X.mg "range" = none) (ha : DA X [a, b, c] ca) (hg : Gl X "range" := by rfl) (h1 : starEach [a, b, c] X.env = (false, eval a X.env) :: starEach [b, c] X.env := by rfl)
    (h2 : (backTo pos (starEach [b, c] X.env)).any (·.1) = false := by rfl) : DI X tg (.Call (.Name "range" p) [a, b, c] [] pos) (dRng3 ca) := pi_imp (pi_range3 hg hm ha h1 h2) fun σ H R ⟨s, F, M, G, Qd, S, Rl, h, P⟩ => ⟨s, F, M, G, _, S, Rl, h, fun xs M1 vs F1 H1 q g1 R1 r1 => by
  split at q
  · cases r1 with | cons r r1 =>
    obtain ⟨v, u, rfl, r', r''⟩ := r1.two
    cases r; cases r'; cases r''
    obtain ⟨n, hn, q⟩ := q
    exact ⟨_, _, _, n, rfl, hn, P _ none M1 _ F1 H1 q g1 R1 (it_rngC _ _ _)⟩
  · exact q.elim⟩
end
/-! ### for -/
def dLoop (g : DTG) (body : DTS) (w : Option (Addr × List DV)) (D : DEnds) : List DV → DSt → Mem → Prop
  | [] => fun s M => watchOk w M ∧ D.nx s M
  | d :: r => fun s M => watchOk w M ∧ g d s M fun s2 M2 => body { D with nx := dLoop g body w D r, ct := dLoop g body w D r, bk := D.nx } s2 M2
def dFor (ci : DTI) (g : DTG) (body : DTS) : DTS := fun D s M => ci s M fun its w M1 => dLoop g body w D its s M1
section
variable {X : Cx} {tg iter e : Expr} {c : DTE} {ci : DTI} {g : DTG} {db : DTS} {pos : Pos} {body : List Stmt}
theorem low_for {K : PySem.W.Frag} : ∀ D σ H, lowS K (dFor ci g db) D σ H → tFor (lowI K ci) (lowG K g) (lowS K db) D σ H := fun D σ H ⟨s, F, M, G, Dd, S, R, h, L⟩ =>
  ⟨s, F, M, G, _, S, R, h, fun its w M1 J F1 H1 q g1 R1 IR => by
    refine ⟨fun i m σ' H' => ∃ s' F' M', Gr F1 G F' ∧ Srel K F' σ' s' ∧ Rel K F' M' G H' ∧ i ≤ its.length ∧ m = its.length - i ∧ dLoop g db w Dd (its.drop i) s' M', ⟨its.length, s, F1, M1, Gr.refl, S.up g1.ex, R1, Nat.zero_le _, rfl, q⟩, ?_⟩
    rintro i m σ' H' ⟨s', F', M', g', S', R', hi, rfl, hl⟩
    by_cases hlt : i < its.length
    · rw [List.drop_eq_getElem_cons hlt] at hl
      obtain ⟨hw, hl⟩ := hl
      obtain ⟨_, ir⟩ := IR i F' M' G H' g'.ex R' hw
      obtain ⟨go, yl⟩ := ir its[i] (List.getElem?_eq_getElem hlt)
      refine .inr ⟨go, fun σ2 H2 => ∃ s2 F2 M2, Gr F1 G F2 ∧ Srel K F2 σ2 s2 ∧ Rel K F2 M2 G H2 ∧ i + 1 ≤ its.length ∧ dLoop g db w Dd (its.drop (i + 1)) s2 M2, fun σ2 H2 ⟨s2, F2, M2, a1, a2, a3, a4, a5⟩ => ⟨its.length - (i + 1), by omega, s2, F2, M2, a1, a2, a3, a4, rfl, a5⟩, fun x H3 y => ?_⟩
      obtain ⟨F3, g3, R3, r3⟩ := yl x H3 y
      refine ⟨its[i], s', F3, M', G, _, r3, S'.up g3.ex, R3, hl, fun s2 M2 σ2 F4 H4 q4 g4 R4 S4 => ⟨s2, F4, M2, G, _, S4, R4, q4, ?_⟩⟩
      have g14 := (g'.trans g3).trans g4
      have nx : NxOk K F4 G (dLoop g db w Dd (its.drop (i + 1))) (fun σ2 H2 => ∃ s2 F2 M2, Gr F1 G F2 ∧ Srel K F2 σ2 s2 ∧ Rel K F2 M2 G H2 ∧ i + 1 ≤ its.length ∧ dLoop g db w Dd (its.drop (i + 1)) s2 M2) :=
        fun s5 M5 σ5 F5 H5 q5 g5 R5 S5 => ⟨s5, F5, M5, g14.trans g5, S5, R5, hlt, q5⟩
      exact ⟨nx, L.rt.up (g1.trans g14), L.nx.up (g1.trans g14), nx⟩
    · have e : its.drop i = [] := List.drop_eq_nil_of_le (by omega)
      rw [e] at hl
      obtain ⟨hw, hl⟩ := hl
      obtain ⟨stp, _⟩ := IR i F' M' G H' g'.ex R' hw
      exact .inl ⟨stp (by omega), L.nx s' M' σ' F' H' hl (g1.trans g') R' S'⟩⟩
theorem ds_for (hp : PassesOwn (model X.prog X.w) X.A X.env X.xe) (hc : X.calm = true) (hi : DI X tg iter ci) (hg : DG X tg g) (hb : DSs X body db) (hs : ∀ x, foldedSetIterable iter X.env x = pure x := by intro _; rfl) : DS X (.For tg iter body [] pos) (dFor ci g db) := ps_imp (ps_for hp hc hi hg hb hs) low_for
/-! ### while -/
def dWhileN (t : DTT) (body : DTS) (D : DEnds) : Nat → DSt → Mem → Prop
  | 0 => fun _ _ => False
  | n + 1 => fun s M => t s M fun b M1 => match b with
    | true => body { D with nx := dWhileN t body D n, ct := dWhileN t body D n, bk := D.nx } s M1
    | false => D.nx s M1
def dWhile (t : DTT) (body : DTS) : DTS := fun D s M => ∃ n, dWhileN t body D n s M
theorem ds_while {t : Expr} {ct : DTT} (hp : PassesOwn (model X.prog X.w) X.A X.env X.xe) (hc : DT X t ct) (hb : DSs X body db) : DS X (.While t body [] pos) (dWhile ct db) := ps_imp (ps_while hp hc hb) fun D σ H ⟨s, F, M, G, Dd, S, R, h, L⟩ => by
  obtain ⟨n0, h⟩ := h
  refine ⟨fun m σ' H' => ∃ s' F' M', Gr F G F' ∧ Srel X.K F' σ' s' ∧ Rel X.K F' M' G H' ∧ dWhileN ct db Dd m s' M', ⟨n0, s, F, M, Gr.refl, S, R, h⟩, ?_⟩
  rintro m σ' H' ⟨s', F', M', g', S', R', hl⟩
  cases m with
  | zero => exact hl.elim
  | succ m =>
    refine ⟨s', F', M', G, _, S', R', hl, fun b M1 F1 H1 q g1 R1 => ?_⟩
    cases b with
    | true =>
      rw [if_pos rfl]
      have nx : NxOk X.K F1 G (dWhileN ct db Dd m) (fun σ2 H2 => ∃ s2 F2 M2, Gr F G F2 ∧ Srel X.K F2 σ2 s2 ∧ Rel X.K F2 M2 G H2 ∧ dWhileN ct db Dd m s2 M2) :=
        fun s5 M5 σ5 F5 H5 q5 g5 R5 S5 => ⟨s5, F5, M5, (g'.trans g1).trans g5, S5, R5, q5⟩
      exact ⟨_, fun σ2 H2 ⟨s2, F2, M2, a1, a2, a3, a4⟩ => ⟨m, Nat.lt_succ_self _, s2, F2, M2, a1, a2, a3, a4⟩, s', F1, M1, G, _, S'.up g1.ex, R1, q, nx, L.rt.up (g'.trans g1), L.nx.up (g'.trans g1), nx⟩
    | false =>
      rw [if_neg Bool.false_ne_true]
      exact L.nx s' M1 σ' F1 H1 q (g'.trans g1) R1 (S'.up g1.ex)
/-- a loop by what holds ahead of each turn -/
theorem loop_by {w : Option (Addr × List DV)} {D : DEnds} {its : List DV} {s : DSt} {M : Mem} (Pv : Nat → DSt → Mem → Prop) (h0 : Pv 0 s M)
    (hs : ∀ i d s M (N : DSt → Mem → Prop), its[i]? = some d → Pv i s M → (∀ s' M', Pv (i + 1) s' M' → N s' M') → watchOk w M ∧ g d s M fun s2 M2 => db { D with nx := N, ct := N, bk := D.nx } s2 M2)
    (hd : ∀ s M, Pv its.length s M → watchOk w M ∧ D.nx s M) : dLoop g db w D its s M := by
  have main : ∀ (n : Nat) (i : Nat) s M, its.length - i = n → i ≤ its.length → Pv i s M → dLoop g db w D (its.drop i) s M := by
    intro n
    induction n with
    | zero =>
      intro i s M hn hi hp
      have e : i = its.length := by omega
      subst e
      rw [List.drop_length]
      exact hd s M hp
    | succ n ih =>
      intro i s M hn hi hp
      have hlt : i < its.length := by omega
      rw [List.drop_eq_getElem_cons hlt]
      exact hs i its[i] s M _ (List.getElem?_eq_getElem hlt) hp fun s' M' p => ih (i + 1) s' M' (by omega) hlt p
  exact main _ 0 s M rfl (Nat.zero_le _) h0
theorem while_inv {ct : DTT} {D : DEnds} {s : DSt} {M : Mem} (Pv : Nat → DSt → Mem → Prop) (m0 : Nat) (h0 : Pv m0 s M)
    (hs : ∀ m s M (N : DSt → Mem → Prop), Pv m s M → (∀ m' s' M', m' < m → Pv m' s' M' → N s' M') → ct s M fun b M1 => match b with
      | true => db { D with nx := N, ct := N, bk := D.nx } s M1
      | false => D.nx s M1) : dWhile ct db D s M := by
  have main : ∀ (n m : Nat) s M, m < n → Pv m s M → dWhileN ct db D n s M := by
    intro n
    induction n with
    | zero => intro m s M hm; omega
    | succ n ih => intro m s M hm hp; exact hs m s M _ hp fun m' s' M' hl p => ih m' s' M' (by omega) p
  exact ⟨m0 + 1, main _ m0 s M (Nat.lt_succ_self _) h0⟩
end
end Lt
namespace Lt
open PySem PySem.Spec PyProof.Rows L2 Evl
/-! ### comprehensions -/
theorem wipe_at {σ : L2.St} {i : Nat} : ∀ {vs : List Nat}, (wipe σ vs)[i]? = if i ∈ vs then (if i < σ.length then some none else none) else σ[i]?
  | [] => by simp [wipe]
  | v :: vs => by
    unfold wipe
    have hl := wipe_length σ vs
    by_cases e : v = i
    · subst e
      rw [if_pos (by simp)]
      by_cases hv : v < σ.length
      · rw [if_pos hv, List.getElem?_set_self (by rw [hl]; exact hv)]
      · rw [if_neg hv, List.getElem?_eq_none (by rw [List.length_set, hl]; omega)]
    · rw [List.getElem?_set_ne e, wipe_at]
      have : i ≠ v := fun z => e z.symm
      simp [this]
theorem wipe_set {σ : L2.St} {j : Nat} {vs : List Nat} (h : j ∈ vs) (x : Option V) : wipe ((wipe σ vs).set j x) vs = wipe σ vs := by
  refine List.ext_getElem? fun i => ?_
  rw [wipe_at, wipe_at]
  by_cases e : i ∈ vs
  · rw [if_pos e, if_pos e, List.length_set, wipe_length]
  · rw [if_neg e, if_neg e]
    have : j ≠ i := fun z => e (z ▸ h)
    rw [List.getElem?_set_ne this, wipe_at, if_neg e]
theorem wipe_set2 {σ : L2.St} {i j : Nat} {vs : List Nat} (h : i ∈ vs) (h' : j ∈ vs) (x y : Option V) : wipe (((wipe σ vs).set i x).set j y) vs = wipe σ vs := by
  refine List.ext_getElem? fun k => ?_
  rw [wipe_at, wipe_at]
  by_cases e : k ∈ vs
  · rw [if_pos e, if_pos e, List.length_set, List.length_set, wipe_length]
  · rw [if_neg e, if_neg e]
    have h1 : i ≠ k := fun z => e (z ▸ h)
    have h2 : j ≠ k := fun z => e (z ▸ h')
    rw [List.getElem?_set_ne h2, List.getElem?_set_ne h1, wipe_at, if_neg e]
/-- how a turn binds its item -/
abbrev DBd := DSt → DV → Option DSt
def bdName (j : Nat) : DBd := fun s d => some (s.set j (some d))
def bdPair (i j : Nat) : DBd := fun s d => match d with
  | .tup [x, y] => some ((s.set i (some x)).set j (some y))
  | _ => none
def BdOk (K : PySem.W.Frag) (vs : List Nat) (bd : DBd) (g : TG) : Prop := ∀ F M G H x d σ s s2 (Q : L2.St → Hp → Prop), Rel K F M G H → Rep K F x d → Srel K F (wipe σ vs) s → bd s d = some s2 → (∀ σ2, wipe σ2 vs = wipe σ vs → Srel K F σ2 s2 → Q σ2 H) → g x (wipe σ vs) H Q
theorem bd_name {K : PySem.W.Frag} {vs : List Nat} {j : Nat} (h : j ∈ vs) : BdOk K vs (bdName j) (gName j) := by
  intro F M G H x d σ s s2 Q R r S e q
  cases e
  exact q _ (wipe_set h _) (S.set r j)
theorem bd_pair {K : PySem.W.Frag} {vs : List Nat} {i j : Nat} (h : i ∈ vs) (h' : j ∈ vs) : BdOk K vs (bdPair i j) (gTup K 2 (gCons (gName i) (gCons (gName j) gNil))) := by
  intro F M G H x d σ s s2 Q R r S e q
  unfold bdPair at e
  split at e
  · cases e
    cases r with
    | tup h1 r1 =>
      obtain ⟨v, u, rfl, r2, r3⟩ := r1.two
      exact ⟨_, _, rfl, .of (R.exF _ _ h1), rfl, v, [u], rfl, u, [], rfl, rfl, q _ (wipe_set2 h h' _ _) ((S.set r2 i).set r3 j)⟩
  · cases e
def dComp (m : Bool) (bd : DBd) (w : Option (Addr × List DV)) (tt : DTT) (te : DTE) (s : DSt) (Q : DQ) : List DV → List DV → Mem → Prop
  | [] => fun acc M => watchOk w M ∧ nl m acc M Q
  | d :: r => fun acc M => watchOk w M ∧ match bd s d with
    | some s2 => tt s2 M fun b M1 => match b with
      | true => te s2 M1 fun y M2 => acc.length < sizeLine ∧ dComp m bd w tt te s Q r (acc ++ [y]) M2
      | false => dComp m bd w tt te s Q r acc M1
    | none => False
def dLc (m : Bool) (ci : DTI) (bd : DBd) (tt : DTT) (te : DTE) (vs : List Nat) : DTE := fun s M Q => ci s M fun its w M1 => dComp m bd w tt te (dwipe s vs) Q its [] M1
theorem low_lc {K : PySem.W.Frag} {m : Bool} {ci : DTI} {bd : DBd} {g : TG} {tt : DTT} {te : DTE} {vs : List Nat} (hb : BdOk K vs bd g) : ∀ σ H Q, lowE K (dLc m ci bd tt te vs) σ H Q → tLc (lowI K ci) g (lowT K tt) (lowE K te) vs σ H Q := fun σ H Q ⟨s, F, M, G, Qd, S, R, h, P⟩ =>
  ⟨s, F, M, G, _, S, R, h, fun its w M1 J F1 H1 q g1 R1 IR D hD => by
    obtain ⟨hF, hG, hfr, hgM⟩ := R1.out hD
    have GG : ∀ {o : HO} {F2 F3 : Hp}, Gr F2 (upd G D o) F3 → Gr F2 G F3 := fun {o F2 F3} z => ⟨z.ex, fun a u e n => by
      have := z.nw a u e n
      by_cases ha : a = D
      · subst ha; rw [upd_same] at this; cases this
      · rwa [upd_ne ha] at this⟩
    refine ⟨fun i m' H' => ∃ F' M' ad av, Gr F1 G F' ∧ F' D = none ∧ Rel K F' M' (upd G D (.lst av)) H' ∧ Reps K F' av ad ∧ i ≤ its.length ∧ m' = its.length - i ∧ dComp m bd w tt te (dwipe s vs) Qd (its.drop i) ad M',
      ⟨its.length, F1, M1, [], [], Gr.refl, hF, ⟨fun a u e => ?_, fun a u e => ?_, fun a o e => ?_⟩, .nil, Nat.zero_le _, rfl, q⟩, ?_⟩
    · have : a ≠ D := fun z => by subst z; rw [hF] at e; cases e
      rw [upd_ne this]; exact R1.exF a u e
    · by_cases ha : a = D
      · subst ha; rw [upd_same] at e ⊢; exact e
      · rw [upd_ne ha] at e ⊢; exact R1.exG a u e
    · have : a ≠ D := fun z => by subst z; rw [hgM] at e; cases e
      obtain ⟨f, g', mr⟩ := R1.mem a o e
      exact ⟨f, by rw [upd_ne this]; exact g', mr.up (Ex.refl _) (upd_ne this)⟩
    rintro i m' H' ⟨F', M', ad, av, g', hFD, R', ra, hi, rfl, hl⟩
    by_cases hlt : i < its.length
    · rw [List.drop_eq_getElem_cons hlt] at hl
      obtain ⟨hw, hl⟩ := hl
      obtain ⟨_, ir⟩ := IR i F' M' _ H' g'.ex R' hw
      obtain ⟨go, yl⟩ := ir its[i] (List.getElem?_eq_getElem hlt)
      refine .inr ⟨go, fun H2 => ∃ F2 M2 ad av, Gr F1 G F2 ∧ F2 D = none ∧ Rel K F2 M2 (upd G D (.lst av)) H2 ∧ Reps K F2 av ad ∧ i + 1 ≤ its.length ∧ dComp m bd w tt te (dwipe s vs) Qd (its.drop (i + 1)) ad M2, fun H2 ⟨F2, M2, ad, av, a1, a2, a3, a4, a5, a6⟩ => ⟨its.length - (i + 1), by omega, F2, M2, ad, av, a1, a2, a3, a4, a5, rfl, a6⟩, fun x H3 y => ?_⟩
      obtain ⟨F3, g3, R3, r3⟩ := yl x H3 y
      split at hl
      · rename_i s2 es2
        have hD3 : ∀ {F5 : Hp}, Gr F' (upd G D (.lst av)) F5 → F5 D = none := fun {F5} z => by
          cases e : F5 D with
          | none => rfl
          | some u => have := z.nw D u e hFD; rw [upd_same] at this; cases this
        refine hb F3 M' _ H3 x its[i] σ (dwipe s vs) s2 _ R3 r3 ((S.up (g1.trans (g'.trans (GG g3))).ex).wipe vs) es2 fun σ2 hσ S2 => ⟨hσ, s2, F3, M', _, _, S2, R3, hl, fun b M4 F4 H4 q4 g4 R4 => ?_⟩
        cases b with
        | true =>
          rw [if_pos rfl]
          refine ⟨s2, F4, M4, _, _, S2.up g4.ex, R4, q4, fun yd M5 yv F5 H5 q5 g5 R5 r5 => ?_⟩
          have g35 := g3.trans (g4.trans g5)
          have hFD5 := hD3 g35
          have hHD : H5 D = some (.lst av) := R5.exG D _ upd_same
          have hMD : get M5 D = none := by
            cases e : get M5 D with
            | none => rfl
            | some o => have := (R5.mem D o e).2.1; rw [upd_same] at this; cases this
          have ra5 := ra.up g35.ex
          refine ⟨av, hHD, by rw [ra.length]; exact q5.1, F5, M5, ad ++ [yd], av ++ [yv], g'.trans (GG g35), hFD5, ⟨fun a u e => ?_, fun a u e => ?_, fun a o e => ?_⟩, ra5.app (.cons r5 .nil), hlt, q5.2⟩
          · have : a ≠ D := fun z => by subst z; rw [hFD5] at e; cases e
            rw [upd_ne this]; exact R5.exF a u e
          · by_cases ha : a = D
            · subst ha; rw [upd_same] at e ⊢; exact e
            · rw [upd_ne ha] at e ⊢; exact R5.exG a u (by rw [upd_ne ha]; exact e)
          · have : a ≠ D := fun z => by subst z; rw [hMD] at e; cases e
            obtain ⟨f, gg, mr⟩ := R5.mem a o e
            rw [upd_ne this] at gg
            exact ⟨f, by rw [upd_ne this]; exact gg, mr.up (Ex.refl _) (upd_ne this)⟩
        | false =>
          rw [if_neg Bool.false_ne_true]
          have g34 := g3.trans g4
          exact ⟨F4, M4, ad, av, g'.trans (GG g34), hD3 g34, R4, ra.up g34.ex, hlt, q4⟩
      · exact hl.elim
    · have e : its.drop i = [] := List.drop_eq_nil_of_le (by omega)
      rw [e] at hl
      obtain ⟨hw, hl⟩ := hl
      obtain ⟨stp, _⟩ := IR i F' M' _ H' g'.ex R' hw
      refine .inl ⟨stp (by omega), ?_⟩
      have hHD : H' D = some (.lst av) := R'.exG D _ upd_same
      have hMD : get M' D = none := by
        cases e : get M' D with
        | none => rfl
        | some o => have := (R'.mem D o e).2.1; rw [upd_same] at this; cases this
      have hGG : Ex G (upd G D (.lst av)) := Ex.new hG
      cases m with
      | false =>
        refine P _ M' _ (upd F' D (.lst av)) H' hl ((g1.trans g').trans ⟨Ex.new hFD, fun a u e n => ?_⟩) ⟨fun a u e => ?_, fun a u e => R'.exG a u (hGG a u e), fun a o e => ?_⟩ (.lst upd_same (ra.up (Ex.new hFD)))
        · by_cases ha : a = D
          · subst ha; exact hG
          · rw [upd_ne ha, n] at e; cases e
        · by_cases ha : a = D
          · subst ha; rw [upd_same] at e; exact hHD.trans e
          · rw [upd_ne ha] at e; exact R'.exF a u e
        · have : a ≠ D := fun z => by subst z; rw [hMD] at e; cases e
          obtain ⟨f, gg, mr⟩ := R'.mem a o e
          exact ⟨by rw [upd_ne this]; exact f, fresh_back hGG gg, mr.up (Ex.new hFD) rfl⟩
      | true =>
        have hfr' : Fresh D M' := fun b hb z => by
          subst z
          have : ∀ (N : Mem) (b : Addr), b ∈ N.map (·.1) → get N b ≠ none := by
            intro N
            induction N with
            | nil => intro b hb; simp at hb
            | cons x r ih =>
              intro b hb
              rw [show x = (x.1, x.2) from rfl, get_cons]
              by_cases e : b = x.1
              · rw [if_pos e]; exact fun z => nomatch z
              · rw [if_neg e]
                refine ih b ?_
                simp only [List.map_cons, List.mem_cons] at hb
                exact hb.resolve_left e
          exact this M' D hb hMD
        refine P _ ((D, .lst ad) :: M') _ F' H' (hl D hfr') (g1.trans g') ⟨R'.exF, fun a u e => R'.exG a u (hGG a u e), fun a o e => ?_⟩ (.ref D)
        rw [get_cons] at e
        by_cases ha : a = D
        · subst ha; rw [if_pos rfl] at e; cases e; exact ⟨hFD, hG, av, hHD, ra⟩
        · rw [if_neg ha] at e
          obtain ⟨f, gg, mr⟩ := R'.mem a o e
          exact ⟨f, fresh_back hGG gg, mr⟩⟩
section
variable {X : Cx} {elt tg iter : Expr} {ifs : List Expr} {scope : Scope} {own : List (Str × Nat)} {pos : Pos} {ci : DTI} {g : TG} {bd : DBd} {tt : DTT} {te : DTE}
def dYes : DTT := fun _ M Q => Q true M
theorem pts_imp {t t' : TT} (h : PTs X ifs t) (w : ∀ σ H Q, t' σ H Q → t σ H Q) : PTs X ifs t' := ⟨fun pins s σ H Q I q => h.run pins s σ H Q I (w σ H Q q)⟩
theorem dts_nil : PTs X [] (lowT X.K dYes) := pts_imp pts_nil fun σ H Q ⟨s, F, M, G, Qd, S, R, h, P⟩ => P true M F H h Gr.refl R
theorem dts_one {c : Expr} {t : DTT} (h : DT X c t) : PTs X [c] (lowT X.K t) := pts_one h
abbrev BlkX (X : Cx) (scope : Scope) (f : Cx → Prop) : Prop := ∀ (s : Shared) (H : Hp) (C : Addr) (cl : List (Str × Addr)) (fp : List Addr), f (X.blk s H scope (compEnvC scope cl C X.env) fp)
theorem de_lc (m : Bool) (hb : BdOk X.K (own.map (·.2)) bd g) (hc : X.calm = true) (hN : X.N.Nodup) (hi : DI X tg iter ci) (ok : BlkOk X.N X.env.scope scope own) (hg : BlkX X scope fun Y => PG Y tg g) (ht : BlkX X scope fun Y => PTs Y ifs (lowT Y.K tt)) (he : BlkX X scope fun Y => DE Y elt te)
    (hs : ∀ x, foldedSetIterable iter X.env x = pure x := by intro _; rfl) : DE X (.ListComp elt [⟨tg, iter, ifs, 0⟩] scope pos) (dLc m ci bd tt te (own.map (·.2))) := pe_imp (pe_lc hc hN hi ok hg ht he hs) (low_lc hb)
theorem ds_setLc {i : Nat} {y : Str} {py spos : Pos} (m : Bool) (hb : BdOk X.K (own.map (·.2)) bd g) (hc : X.calm = true) (hN : X.N.Nodup) (hy : X.N[i]? = some y) (hyl : X.env.scope.names.lookup y = some .local)
    (hsw : swapsWith (.ListComp elt [⟨tg, iter, ifs, 0⟩] scope pos) (some (.Name y py)) spos.line X.env = pure true) (hi : DI X tg iter ci) (ok : BlkOk X.N X.env.scope scope own) (hg : BlkX X scope fun Y => PG Y tg g) (ht : BlkX X scope fun Y => PTs Y ifs (lowT Y.K tt)) (he : BlkX X scope fun Y => DE Y elt te)
    (hs : ∀ x, foldedSetIterable iter X.env x = pure x := by intro _; rfl) : DS X (.Assign [.Name y py] (.ListComp elt [⟨tg, iter, ifs, 0⟩] scope pos) spos) (dSet i (dLc m ci bd tt te (own.map (·.2)))) := ps_imp (ps_setLc hc hN hy hyl hsw hi ok hg ht he hs) fun D σ H ⟨s, F, M, G, Dd, S, R, h, L⟩ =>
  low_lc (m := m) hb σ H _ ⟨s, F, M, G, _, S, R, h, fun d M1 v F1 H1 q g R1 r => L.nx _ M1 _ F1 H1 q g R1 ((S.up g.ex).set r i)⟩
end
/-! ### a def by its body -/
/-- of the memory only what is asked -/
def Fg (M : Mem) (P : Mem → Prop) : Prop := ∃ M2, (∀ a o, get M2 a = some o → get M a = some o) ∧ P M2
def dstart (N : List Str) (ds : List DV) : DSt := ds.map some ++ List.replicate (N.length - ds.length) none
theorem srel_start {K : PySem.W.Frag} {F : Hp} {N : List Str} {vs : List V} {ds : List DV} (r : Reps K F vs ds) : Srel K F (L2.start N vs) (dstart N ds) := by
  refine ⟨by simp [L2.start, dstart, r.length], fun i d e => ?_⟩
  unfold dstart at e
  unfold L2.start
  by_cases h : i < ds.length
  · rw [List.getElem?_append_left (by simpa using h), List.getElem?_map] at e
    cases q : ds[i]? with
    | none => rw [q] at e; cases e
    | some d' =>
      rw [q] at e
      cases e
      obtain ⟨v, hv, rv⟩ := r.at q
      exact ⟨v, by rw [List.getElem?_append_left (by rw [List.length_map, r.length]; exact h), List.getElem?_map, hv]; rfl, rv⟩
  · rw [List.getElem?_append_right (by simpa using h), List.getElem?_replicate] at e
    split at e
    · cases e
    · cases e
section
variable {P : Program} {w : World} {K : PySem.W.Frag} {mg : Str → Option Value} {base : Heap} {x qual : Str} {st : Stmt} {f : Addr} {fd : FuncData} {N ps : List Str} {k : Nat}
theorem fun_ok {sp : DSp} (Fn : Fun K x qual st f fd) (S : FnScope N ps (defScope st)) (len : ∀ ds M Q, sp ds M Q → ds.length = ps.length)
    (hbody : ∀ (cdv : Value) (A : Around) (outer : List Env) (s : Shared) (H : Hp) (E : XK), Room k (A.deeper (envOfC qual (defScope st) s.heap.objs.size f cdv)) →
      ∃ c : DTS, DSs (cxOf CX0 P w K mg base N qual (defScope st) f cdv A outer s H E).nox (defBody st) c ∧ ∀ ds M Q, sp ds M Q → c { nx := fun _ M' => Fg M' (Q .non), rt := fun d M' => Fg M' (Q d) } (dstart N ds) M) : FnOk P w K mg base CX0 (k + 1) f fd ps (lowSp K sp) := by
  refine Fn.ok S (fun vs H Q E ⟨ds, F, M, G, Qd, r, R, h, P⟩ => r.length.trans (len ds M Qd h)) fun cdv A outer s H vs Q E hr ⟨ds, F, M, G, Qd, r, R, h, P⟩ => ?_
  obtain ⟨c, hc, hw⟩ := hbody cdv A outer s H E hr
  refine ⟨_, hc, dstart N ds, F, M, G, _, srel_start r, R, hw ds M Qd h, ?_⟩
  exact ⟨fun s' M' σ' F2 H2 ⟨M2, sub, q⟩ g R2 S2 => P _ M2 _ F2 H2 q g (R2.sub sub) .non, fun d M' v F2 H2 ⟨M2, sub, q⟩ g R2 r2 => P _ M2 _ F2 H2 q g (R2.sub sub) r2, fun _ _ _ _ _ q => q.elim, fun _ _ _ _ _ q => q.elim⟩
theorem fun_pure {sp : PSp} (Fn : Fun K x qual st f fd) (S : FnScope N ps (defScope st)) (len : ∀ ds Q, sp ds Q → ds.length = ps.length)
    (hbody : ∀ (cdv : Value) (A : Around) (outer : List Env) (s : Shared) (H : Hp) (E : XK), Room k (A.deeper (envOfC qual (defScope st) s.heap.objs.size f cdv)) →
      ∃ c : DTS, DSs (cxOf CX0 P w K mg base N qual (defScope st) f cdv A outer s H E).nox (defBody st) c ∧ ∀ ds Q, sp ds Q → c { nx := fun _ _ => Q .non, rt := fun d _ => Q d } (dstart N ds) []) : FnOk P w K mg base CX0 (k + 1) f fd ps (lowSp K (pur sp)) := by
  refine Fn.ok S (fun vs H Q E ⟨ds, F, M, G, Qd, r, R, h, P⟩ => r.length.trans (len ds _ h.2)) fun cdv A outer s H vs Q E hr ⟨ds, F, M, G, Qd, r, R, h, P⟩ => ?_
  obtain ⟨c, hc, hw⟩ := hbody cdv A outer s H E hr
  obtain ⟨rfl, h⟩ := h
  refine ⟨_, hc, dstart N ds, F, [], G, _, srel_start r, R, hw ds _ h, ?_⟩
  exact ⟨fun s' M' σ' F2 H2 q g R2 S2 => P _ [] _ F2 H2 q g (R2.sub fun _ _ z => nomatch z) .non, fun d M' v F2 H2 q g R2 r2 => P _ [] _ F2 H2 q g (R2.sub fun _ _ z => nomatch z) r2, fun _ _ _ _ _ q => q.elim, fun _ _ _ _ _ q => q.elim⟩
end
end Lt
namespace Lt
open PySem PySem.Spec PyProof.Rows L2 Evl
theorem hu65 {k : Nat} {A : Around} (hr : Room k A) : A.units + 65 < cLine := by have := hr.un; omega
theorem hu1 {k : Nat} {A : Around} (hr : Room k A) : A.units + 1 < cLine := by have := hr.un; omega
section
variable {X : Cx} {e a b : Expr} {es : List Expr} {pos p p2 pos2 : Pos} {ca cb c : DTE} {cla : DTA}
/-! ### new dicts -/
def dNewDK : DTE := fun _ M Q => ∀ p, Fresh p M → Q (.ref p) ((p, .dK []) :: M)
def dNewDT : DTE := fun _ M Q => ∀ p, Fresh p M → Q (.ref p) ((p, .dT []) :: M)
theorem de_newDK : DE X (.Dict [] [] pos) dNewDK := pe_imp pe_dnewK fun σ H Q ⟨s, F, M, G, Qd, S, R, h, P⟩ p hp => P _ _ _ F _ (h p (R.out hp).2.2.1) Gr.refl (R.newM hp (.dK []) ⟨[], upd_same, rfl, .nil⟩) (.ref p)
theorem de_newDT : DE X (.Dict [] [] pos) dNewDT := pe_imp pe_dnewT fun σ H Q ⟨s, F, M, G, Qd, S, R, h, P⟩ p hp => P _ _ _ F _ (h p (R.out hp).2.2.1) Gr.refl (R.newM hp (.dT []) ⟨[], upd_same, rfl, .nil⟩) (.ref p)
/-! ### list(range(..)) -/
def dLstRg1 (m : Bool) (c : DTE) : DTE := fun s M Q => c s M fun x M1 => match x with
  | .int j => RgOk 0 j ∧ nl m (rngD 0 j.toNat) M1 Q
  | _ => False
theorem rgV_rep {K : PySem.W.Frag} {F : Hp} (a b : Int) : Reps K F (rgV a b) (rngD a (b - a).toNat) := by
  unfold rgV rngD
  induction (List.range (b - a).toNat) with
  | nil => exact .nil
  | cons x r ih => exact .cons (.int _) ih
theorem de_lstRg1 (m : Bool) (hm : X.mg "list" = none) (hc : X.calm = true) (hm2 : X.mg "range" = none) (ha : DE X a c) (hg : Gl X "list" := by rfl) (hg2 : Gl X "range" := by rfl)
    (n2 : starEach [a] X.env = (false, eval a X.env) :: starEach [] X.env := by rfl) (n1 : starEach [.Call (.Name "range" p2) [a] [] pos2] X.env = (false, eval (.Call (.Name "range" p2) [a] [] pos2) X.env) :: starEach [] X.env := by rfl) :
    DE X (.Call (.Name "list" p) [.Call (.Name "range" p2) [a] [] pos2] [] pos) (dLstRg1 m c) := pe_imp (pe_listRg hc hg hm (prg_1 hg2 hm2 ha n2) n1) fun σ H Q ⟨s, F, M, G, Qd, S, R, h, P⟩ => ⟨s, F, M, G, _, S, R, h, fun x M1 v F1 H1 q g1 R1 r1 => by
  split at q
  · cases r1
    refine ⟨_, rfl, q.1, (P.up g1).nl m R1 ?_ q.2⟩
    have := rgV_rep (K := X.K) (F := F1) 0 (by assumption)
    simpa using this
  · exact q.elim⟩
/-! ### lists within a list, handed on as values -/
def frzAll : Mem → List DV → Option (List DV × Mem)
  | M, [] => some ([], M)
  | M, d :: r => match d with
    | .ref a => match get M a with
      | some (.lst ds) => match frzAll (del M a) r with
        | some (es, M2) => some (.lst ds :: es, M2)
        | none => none
      | _ => none
    | d => match frzAll M r with
      | some (es, M2) => some (d :: es, M2)
      | none => none
theorem Rel.frzAll {K : PySem.W.Frag} {G H : Hp} : ∀ {ds : List DV} {es : List DV} {M M2 : Mem} {F : Hp} {vs : List V}, Rel K F M G H → Reps K F vs ds → frzAll M ds = some (es, M2) → ∃ F2, Gr F G F2 ∧ Rel K F2 M2 G H ∧ Reps K F2 vs es
  | [], es, M, M2, F, vs, R, r, h => by
    cases h
    cases r
    exact ⟨F, Gr.refl, R, .nil⟩
  | d :: ds, es, M, M2, F, vs, R, r, h => by
    cases r with
    | cons r1 r2 =>
      rename_i v0 vs0
      have other : ∀ {es' : List DV}, Lt.frzAll M ds = some (es', M2) → es = d :: es' → ∃ F2, Gr F G F2 ∧ Rel K F2 M2 G H ∧ Reps K F2 (v0 :: vs0) es := by
        intro es' h1 h2
        obtain ⟨F2, g, R2, r3⟩ := Rel.frzAll R r2 h1
        subst h2
        exact ⟨F2, g, R2, .cons (r1.up g.ex) r3⟩
      cases d with
      | ref a =>
        cases r1
        unfold Lt.frzAll at h
        cases e : get M a with
        | none => simp only [e] at h; cases h
        | some o =>
          cases o with
          | lst ds' =>
            simp only [e] at h
            cases e2 : Lt.frzAll (del M a) ds with
            | none => rw [e2] at h; cases h
            | some z =>
              obtain ⟨es', M3⟩ := z
              rw [e2] at h
              cases h
              obtain ⟨F2, g, R2, r3⟩ := R.freeze e
              obtain ⟨F3, g3, R3, r4⟩ := Rel.frzAll R2 (r2.up g.ex) e2
              exact ⟨F3, g.trans g3, R3, .cons (r3.up g3.ex) r4⟩
          | _ => simp only [e] at h; cases h
      | _ =>
        unfold Lt.frzAll at h
        cases e2 : Lt.frzAll M ds with
        | none => simp only [e2] at h; cases h
        | some z =>
          obtain ⟨es', M3⟩ := z
          simp only [e2] at h
          cases h
          exact other e2 rfl
/-- a mutable list of mutable lists, all handed on as values -/
def dFrz2 (c : DTE) : DTE := fun s M Q => c s M fun x M1 => match x with
  | .ref a => match get M1 a with
    | some (.lst ds) => match frzAll (del M1 a) ds with
      | some (es, M2) => Q (.lst es) M2
      | none => False
    | _ => False
  | _ => False
theorem de_frz2 (h : DE X e c) : DE X e (dFrz2 c) := pe_imp h fun σ H Q ⟨s, F, M, G, Qd, S, R, h, P⟩ => ⟨s, F, M, G, _, S, R, h, fun x M1 v F1 H1 q g1 R1 r1 => by
  split at q
  · rename_i a
    cases r1
    split at q
    · rename_i ds e
      split at q
      · rename_i es M2 e2
        obtain ⟨h1, h2, vs, ev, rv⟩ := R1.mem _ _ e
        obtain ⟨R2, g2⟩ := R1.freezeH e ev
        obtain ⟨F3, g3, R3, r3⟩ := Rel.frzAll R2 (rv.up g2.ex) e2
        exact P _ _ _ _ _ q (g1.trans (g2.trans g3)) R3 (.lst (g3.ex _ _ upd_same) r3)
      · exact q.elim
    · exact q.elim
  · exact q.elim⟩
/-- a value with mutable lists in it -/
def dFrz1 (c : DTE) : DTE := fun s M Q => c s M fun x M1 => match x with
  | .lst ds => match frzAll M1 ds with
    | some (es, M2) => Q (.lst es) M2
    | none => False
  | .tup ds => match frzAll M1 ds with
    | some (es, M2) => Q (.tup es) M2
    | none => False
  | _ => False
theorem de_frz1 (h : DE X e c) : DE X e (dFrz1 c) := pe_imp h fun σ H Q ⟨s, F, M, G, Qd, S, R, h, P⟩ => ⟨s, F, M, G, _, S, R, h, fun x M1 v F1 H1 q g1 R1 r1 => by
  split at q
  · cases r1 with | lst e1 r1 =>
    split at q
    · rename_i es M2 e2
      obtain ⟨F3, g3, R3, r3⟩ := Rel.frzAll R1 r1 e2
      exact P _ _ _ _ _ q (g1.trans g3) R3 (.lst (g3.ex _ _ e1) r3)
    · exact q.elim
  · cases r1 with | tup e1 r1 =>
    split at q
    · rename_i es M2 e2
      obtain ⟨F3, g3, R3, r3⟩ := Rel.frzAll R1 r1 e2
      exact P _ _ _ _ _ q (g1.trans g3) R3 (.tup (g3.ex _ _ e1) r3)
    · exact q.elim
  · exact q.elim⟩
/-! ### truth of a list -/
def truD (M : Mem) (x : DV) : Option Bool := match x with
  | .bl b => some b
  | .non => some false
  | .int i => some (i != 0)
  | x => match asSeq M x with
    | some ds => some (!ds.isEmpty)
    | none => none
end
/-! ### promises with their binding -/
def OkP (P : Program) (w : World) (K : PySem.W.Frag) (mg : Str → Option Value) (base : Heap) (k : Nat) (f : Addr) (ps : List Str) (sp : PSp) : Prop := ∃ fd, FnOk P w K mg base CX0 k f fd ps (lowSp K (pur sp)) ∧ Binds K fd ps []
def OkG (P : Program) (w : World) (K : PySem.W.Frag) (mg : Str → Option Value) (base : Heap) (k : Nat) (f : Addr) (ps : List Str) (sp : DSp) : Prop := ∃ fd, FnOk P w K mg base CX0 k f fd ps (lowSp K sp) ∧ Binds K fd ps []
/-- a def of the text, as it stands behind the top -/
def Def (K : PySem.W.Frag) (x qual : Str) (st : Stmt) (f : Addr) (ps : List Str) : Prop := ∃ fd, Fun K x qual st f fd ∧ Binds K fd ps []
theorem def_mk {K : PySem.W.Frag} {x qual : Str} {st : Stmt} {f : Addr} {ps : List Str} {oc : Value} {od an : Option Addr} {osl : Array (Option Value)} {kV doc pm cdv ct : Value} (l : K.lookup f = some ⟨oc, od, .func (PySem.W.fnOf x qual (defArgs st) (defBody st) (defScope st) .none kV doc pm an cdv ct), osl⟩)
    (c : PySem.W.codeIn K cdv qual = true) (k : PySem.W.keepIn K (.ref f) = true) (h : ∀ (kV doc pm : Value) (an : Option Addr) (cdv ct : Value) (us : List Value), us.length = ps.length → bindArgs (PySem.W.fnOf x qual (defArgs st) (defBody st) (defScope st) .none kV doc pm an cdv ct) ⟨us, []⟩ = Pure.pure (ps.zip us)) :
    Def K x qual st f ps := ⟨_, fun_mk l c k, (fun_mk l c k).binds h⟩
theorem meth_mk {K : PySem.W.Frag} {C f : Addr} {m : Str} (a : PySem.W.findIn K (.ref C) m = some (some (.ref f))) (i : PySem.W.isFn K (.ref f) = true) (k : PySem.W.keepIn K (.ref f) = true) : Meth K C m f := ⟨a, i, k⟩
end Lt
namespace Lt
open PySem PySem.Spec PyProof.Rows L2 Evl
/-! ### values by their kind -/
def onBl (x : DV) (f : Bool → Prop) : Prop := match x with
  | .bl b => f b
  | _ => False
def onInt (x : DV) (f : Int → Prop) : Prop := match x with
  | .int i => f i
  | _ => False
def onTwo (xs : List DV) (f : DV → DV → Prop) : Prop := match xs with
  | [x, y] => f x y
  | _ => False
def onMO (o : Option MO) (f : List DV → Prop) : Prop := match o with
  | some (.lst ds) => f ds
  | _ => False
def onLst (M : Mem) (x : DV) (f : Addr → List DV → Prop) : Prop := match x with
  | .ref a => onMO (get M a) (f a)
  | _ => False
def onObj {α : Type} (o : Option α) (f : α → Prop) : Prop := match o with
  | some o => f o
  | none => False
def onFst (xs : List DV) (f : Addr → Prop) : Prop := match xs with
  | .ref a :: _ => f a
  | _ => False
def onSeq (M : Mem) (x : DV) (f : List DV → Option (Addr × List DV) → Prop) : Prop := match x with
  | .lst ds => f ds none
  | .tup ds => f ds none
  | .ref a => onMO (get M a) fun ds => f ds (some (a, ds))
  | _ => False
def onIns (M : Mem) (x : DV) (f : Addr → Addr → List Str → List DV → Prop) : Prop := match x with
  | .ref a => match get M a with
    | some (.ins C ns ds) => f a C ns ds
    | _ => False
  | _ => False
def on1I (xs : List DV) (f : Int → Prop) : Prop := match xs with
  | [.int i] => f i
  | _ => False
def on2I (xs : List DV) (f : Int → Int → Prop) : Prop := match xs with
  | [.int i, .int j] => f i j
  | _ => False
def on3I (xs : List DV) (f : Int → Int → Int → Prop) : Prop := match xs with
  | [.int i, .int j, .int k] => f i j k
  | _ => False
theorem o_bl {b : Bool} {f : Bool → Prop} (h : f b) : onBl (.bl b) f := h
theorem o_int {i : Int} {f : Int → Prop} (h : f i) : onInt (.int i) f := h
theorem o_two {x y : DV} {f : DV → DV → Prop} (h : f x y) : onTwo [x, y] f := h
theorem o_lst {M : Mem} {a : Addr} {ds : List DV} {f : Addr → List DV → Prop} (e : get M a = some (.lst ds)) (h : f a ds) : onLst M (.ref a) f := by simp only [onLst, onMO, e]; exact h
theorem o_obj {α : Type} {x : Option α} {o : α} {f : α → Prop} (e : x = some o) (h : f o) : onObj x f := by rw [e]; exact h
theorem o_fst {a : Addr} {xs : List DV} {f : Addr → Prop} (h : f a) : onFst (.ref a :: xs) f := h
theorem o_seqL {M : Mem} {ds : List DV} {f : List DV → Option (Addr × List DV) → Prop} (h : f ds none) : onSeq M (.lst ds) f := h
theorem o_seqT {M : Mem} {ds : List DV} {f : List DV → Option (Addr × List DV) → Prop} (h : f ds none) : onSeq M (.tup ds) f := h
theorem o_seqR {M : Mem} {a : Addr} {ds : List DV} {f : List DV → Option (Addr × List DV) → Prop} (e : get M a = some (.lst ds)) (h : f ds (some (a, ds))) : onSeq M (.ref a) f := by simp only [onSeq, onMO, e]; exact h
theorem o_ins {M : Mem} {a C : Addr} {ns : List Str} {ds : List DV} {f : Addr → Addr → List Str → List DV → Prop} (e : get M a = some (.ins C ns ds)) (h : f a C ns ds) : onIns M (.ref a) f := by simp only [onIns, e]; exact h
theorem o_1I {i : Int} {f : Int → Prop} (h : f i) : on1I [.int i] f := h
theorem o_2I {i j : Int} {f : Int → Int → Prop} (h : f i j) : on2I [.int i, .int j] f := h
theorem o_3I {i j k : Int} {f : Int → Int → Int → Prop} (h : f i j k) : on3I [.int i, .int j, .int k] f := h
theorem to1 {P P' : DV → Mem → Prop} {c : DTE} {s : DSt} {M : Mem} (e : ∀ x M, P x M = P' x M) (h : c s M P) : c s M P' := cast (congrArg (c s M) (funext fun x => funext fun M => e x M)) h
theorem toA {P P' : List DV → Mem → Prop} {c : DTA} {s : DSt} {M : Mem} (e : ∀ x M, P x M = P' x M) (h : c s M P) : c s M P' := cast (congrArg (c s M) (funext fun x => funext fun M => e x M)) h
/-! ### one step of a reading each: the continuation first, what is left to show behind it -/
section
variable {D : DEnds} {s : DSt} {M : Mem} {Q : DQ} {Qt : Bool → Mem → Prop} {Qa : List DV → Mem → Prop} {Qn : Mem → Prop} {Qs : DSt → Mem → Prop} {Qi : List DV → Option (Addr × List DV) → Mem → Prop} {Qo : Option Int → Mem → Prop} {a b : DTS} {c ca cb cc : DTE} {t u : DTT} {cl : DTA} {i j : Nat} {d x y : DV} {m : Bool} {r : DR2} {r1 : DR1} {rn : DRN} {xs ys ds es : List DV} {z z' : Int} {p : Addr}
theorem s_seq (h : a { D with nx := fun s' M' => b D s' M' } s M) : dSeq a b D s M := h
theorem s_next (h : D.nx s M) : dNext D s M := h
theorem s_set (h : c s M fun d M1 => D.nx (s.set i (some d)) M1) : dSet i c D s M := h
theorem s_ret (h : c s M D.rt) : dRet c D s M := h
theorem s_retN (h : D.rt .non M) : dRetN D s M := h
theorem s_drop (h : c s M fun _ M1 => D.nx s M1) : dDrop c D s M := h
theorem s_break (h : D.bk s M) : dBreak D s M := h
theorem s_cont (h : D.ct s M) : dCont D s M := h
/-- which way -/
def way (b : Bool) (P R : Prop) : Prop := match b with
  | true => P
  | false => R
theorem way_t {P R : Prop} (h : P) : way true P R := h
theorem way_f {P R : Prop} (h : R) : way false P R := h
theorem way_dec {p P R : Prop} [Decidable p] (h1 : p → P) (h2 : ¬ p → R) : way (decide p) P R := by
  by_cases e : p
  · rw [decide_eq_true e]; exact h1 e
  · rw [decide_eq_false e]; exact h2 e
theorem way_by {b : Bool} {P R : Prop} (h1 : b = true → P) (h2 : b = false → R) : way b P R := by
  cases b with
  | true => exact h1 rfl
  | false => exact h2 rfl
theorem way_not {b : Bool} {P R : Prop} (h : way b R P) : way (!b) P R := by cases b <;> exact h
theorem way_xf {b : Bool} {P R : Prop} (h : way b P R) : way (false ^^ b) P R := by cases b <;> exact h
theorem way_xt {b : Bool} {P R : Prop} (h : way b R P) : way (true ^^ b) P R := by cases b <;> exact h
theorem way_is {b b' : Bool} {P R : Prop} (e : b = b') (h : way b' P R) : way b P R := by rw [e]; exact h
theorem s_if (h : t s M fun c M1 => way c (a D s M1) (b D s M1)) : dIfS t a b D s M := by
  have e : (fun (c : Bool) M1 => way c (a D s M1) (b D s M1)) = fun c M1 => match c with | true => a D s M1 | false => b D s M1 := by
    funext c M1; cases c <;> rfl
  rw [e] at h
  exact h
theorem s_ifE (h : t s M fun c M1 => way c (ca s M1 Q) (cb s M1 Q)) : dIf t ca cb s M Q := by
  have e : (fun (c : Bool) M1 => way c (ca s M1 Q) (cb s M1 Q)) = fun c M1 => match c with | true => ca s M1 Q | false => cb s M1 Q := by
    funext c M1; cases c <;> rfl
  rw [e] at h
  exact h
theorem s_asg {g : DTG} (h : c s M fun d M1 => g d s M1 D.nx) : dAsg c g D s M := h
theorem s_aug {f : Int → Int → Int} (e : s[i]? = some (some (.int z))) (h : c s M fun d M1 => onInt d fun b => D.nx (s.set i (some (.int (f z b)))) M1) : dAug i f c D s M := by
  unfold dAug; rw [e]; exact to1 (fun x M => by cases x <;> rfl) h
theorem s_par (h : cl s M fun ds M1 => onTwo ds fun d e => D.nx ((s.set i (some d)).set j (some e)) M1) : dPar i j cl D s M := h
theorem s_gName (h : Qs (s.set i (some d)) M) : dgName i d s M Qs := h
theorem s_gSub (h : ca s M fun o M1 => cb s M1 fun k M2 => stD o k d M2 fun M3 => Qs s M3) : dgSub ca cb d s M Qs := h
theorem s_stL {v : DV} {k : Int} (e : get M p = some (.lst ds)) (ek : ixN ds.length k = some j) (h : Qn (put M p (.lst (ds.set j v)))) : stD (.ref p) (.int k) v M Qn := by
  simp only [stD, e, ek]; exact h
theorem s_stK {v k : DV} {kvs : List (Key × DV)} {kk : Key} (e : get M p = some (.dK kvs)) (ek : keyD k = some kk) (h : Qn (put M p (.dK (putD kvs kk v)))) (hl : kvs.length < sizeLine) : stD (.ref p) k v M Qn := by
  simp only [stD, e, ek]; exact ⟨hl, h⟩
theorem s_for {ci : DTI} {g : DTG} (h : ci s M fun its w M1 => dLoop g b w D its s M1) : dFor ci g b D s M := h
theorem s_var (e : s[i]? = some (some d)) (h : Q d M) : dVar i s M Q := by unfold dVar; rw [e]; exact h
theorem s_c (h : Q d M) : dC d s M Q := h
theorem s_op (h : ca s M fun x M1 => cb s M1 fun y M2 => r x y M2 Q) : dOp r ca cb s M Q := h
theorem s_un (h : ca s M fun x M1 => r1 x M1 Q) : dUn r1 ca s M Q := h
theorem s_cb (h : cl s M fun xs M1 => rn xs M1 Q) : dCB rn cl s M Q := h
theorem s_nil (h : Qa [] M) : dNil s M Qa := h
theorem s_cons (h : ca s M fun x M1 => cl s M1 fun xs M2 => Qa (x :: xs) M2) : dCons ca cl s M Qa := h
theorem s_tup (h : cl s M fun ds M1 => ds.length ≤ sizeLine ∧ Q (.tup ds) M1) : dTup cl s M Q := h
theorem s_lst (h : cl s M fun ds M1 => ds.length ≤ sizeLine ∧ nl m ds M1 Q) : dLst m cl s M Q := h
theorem s_nlF (h : Q (.lst ds) M) : nl false ds M Q := h
theorem s_nlT (h : ∀ p, Fresh p M → Q (.ref p) ((p, .lst ds) :: M)) : nl true ds M Q := h
theorem s_frz (h : c s M fun x M1 => onLst M1 x fun a ds => Q (.lst ds) (del M1 a)) : dFrz c s M Q := by
  unfold dFrz
  exact to1 (fun x M => by
    cases x with
    | ref a => unfold onLst onMO; cases get M a with | none => rfl | some o => cases o <;> rfl
    | _ => rfl) h
/-! tests -/
theorem s_B (h : c s M fun x M1 => onBl x fun b => Qt b M1) : dB c s M Qt := h
theorem s_tAnd (h : t s M fun b M1 => way b (u s M1 Qt) (Qt false M1)) : dtAnd t u s M Qt := by
  have e : (fun (c : Bool) M1 => way c (u s M1 Qt) (Qt false M1)) = fun b M1 => match b with | true => u s M1 Qt | false => Qt false M1 := by funext c M1; cases c <;> rfl
  rw [e] at h; exact h
theorem s_tOr (h : t s M fun b M1 => way b (Qt true M1) (u s M1 Qt)) : dtOr t u s M Qt := by
  have e : (fun (c : Bool) M1 => way c (Qt true M1) (u s M1 Qt)) = fun b M1 => match b with | true => Qt true M1 | false => u s M1 Qt := by funext c M1; cases c <;> rfl
  rw [e] at h; exact h
theorem s_tNot (h : t s M fun b M1 => Qt (!b) M1) : dtNot t s M Qt := h
theorem s_yes (h : Qt true M) : dYes s M Qt := h
theorem s_and (h : ca s M fun x M1 => onBl x fun b => way b (cb s M1 Q) (Q (.bl false) M1)) : dAnd ca cb s M Q := by
  unfold dAnd
  exact to1 (fun x M => by
    cases x with
    | bl b => cases b <;> rfl
    | _ => rfl) h
theorem s_or (h : ca s M fun x M1 => onBl x fun b => way b (Q (.bl true) M1) (cb s M1 Q)) : dOr ca cb s M Q := by
  unfold dOr
  exact to1 (fun x M => by
    cases x with
    | bl b => cases b <;> rfl
    | _ => rfl) h
theorem s_not {b : Bool} (h : Q (.bl (!b)) M) : dNot (.bl b) M Q := h
/-! values -/
theorem v_addI (h : Q (.int (z + z')) M) : dAdd m (.int z) (.int z') M Q := h
theorem v_addT (h : Q (.tup (xs ++ ys)) M) (hl : xs.length + ys.length ≤ sizeLine) : dAdd m (.tup xs) (.tup ys) M Q := ⟨hl, h⟩
theorem v_addL (h : nl m (xs ++ ys) M Q) (hl : xs.length + ys.length ≤ sizeLine) : dAdd m (.lst xs) (.lst ys) M Q := ⟨hl, h⟩
theorem v_addRL (e : get M p = some (.lst xs)) (h : nl m (xs ++ ys) M Q) (hl : xs.length + ys.length ≤ sizeLine) : dAdd m (.ref p) (.lst ys) M Q := by simp only [dAdd, asL, e]; exact ⟨hl, h⟩
theorem v_sub (h : Q (.int (z - z')) M) : dSub (.int z) (.int z') M Q := h
theorem v_mulI (h : Q (.int (z * z')) M) (hc : CMul z z') : dMul m (.int z) (.int z') M Q := ⟨hc, h⟩
theorem v_mod (h : Q (.int (z % z')) M) (hc : 0 < z') : dMod (.int z) (.int z') M Q := ⟨hc, h⟩
theorem v_div (h : Q (.int (z / z')) M) (hc : CDiv z z') : dDiv (.int z) (.int z') M Q := ⟨hc, h⟩
theorem v_pow (h : Q (.int (z ^ z'.toNat)) M) (hc : CPow z z') : dPow (.int z) (.int z') M Q := ⟨hc, h⟩
theorem v_lt (h : Q (.bl (decide (z < z'))) M) : dLt (.int z) (.int z') M Q := h
theorem v_le (h : Q (.bl (decide (z ≤ z'))) M) : dLe (.int z) (.int z') M Q := h
theorem v_gt (h : Q (.bl (decide (z' < z))) M) : dGt (.int z) (.int z') M Q := h
theorem v_ge (h : Q (.bl (decide (z' ≤ z))) M) : dGe (.int z) (.int z') M Q := h
theorem v_neg (h : Q (.int (-z)) M) : dNeg (.int z) M Q := h
theorem v_eqI (h : Q (.bl (decide (z = z'))) M) : dEqB false (.int z) (.int z') M Q := by simpa [dEqB] using h
theorem v_neI (h : Q (.bl (!decide (z = z'))) M) : dEqB true (.int z) (.int z') M Q := by simpa [dEqB] using h
theorem v_eqS {w w' : Str} (h : Q (.bl (decide (w = w'))) M) : dEqB false (.str w) (.str w') M Q := by simpa [dEqB] using h
theorem v_neS {w w' : Str} (h : Q (.bl (!decide (w = w'))) M) : dEqB true (.str w) (.str w') M Q := by simpa [dEqB] using h
theorem v_eqB {w w' : Bool} (h : Q (.bl (decide (w = w'))) M) : dEqB false (.bl w) (.bl w') M Q := by simpa [dEqB] using h
theorem v_neB {w w' : Bool} (h : Q (.bl (!decide (w = w'))) M) : dEqB true (.bl w) (.bl w') M Q := by simpa [dEqB] using h
theorem v_isN (h : Q (.bl (isNon x)) M) : dIsB false x .non M Q := by simpa [dIsB] using h
theorem v_isnN (h : Q (.bl (!isNon x)) M) : dIsB true x .non M Q := by simpa [dIsB] using h
theorem v_isB {w w' : Bool} (h : Q (.bl (decide (w = w'))) M) : dIsB false (.bl w) (.bl w') M Q := by simpa [dIsB] using h
theorem v_isnB {w w' : Bool} (h : Q (.bl (!decide (w = w'))) M) : dIsB true (.bl w) (.bl w') M Q := by simpa [dIsB] using h
/-- x in a sequence of ints -/
theorem v_inI {ns : List Int} (e : asSeq M y = some ds) (e2 : intsD ds = some ns) (h : Q (.bl (decide (z ∈ ns))) M) : dInB false (.int z) y M Q := by simp only [dInB, e, memB, e2]; simpa using h
theorem v_ninI {ns : List Int} (e : asSeq M y = some ds) (e2 : intsD ds = some ns) (h : Q (.bl (!decide (z ∈ ns))) M) : dInB true (.int z) y M Q := by simp only [dInB, e, memB, e2]; simpa using h
theorem v_inB {ns : List Bool} {w : Bool} (e : asSeq M y = some ds) (e2 : blsD ds = some ns) (h : Q (.bl (decide (w ∈ ns))) M) : dInB false (.bl w) y M Q := by simp only [dInB, e, memB, e2]; simpa using h
theorem v_inK {kvs : List (Key × DV)} {k : Key} (e : get M p = some (.dK kvs)) (ek : keyD x = some k) (h : Q (.bl (dvalV kvs k).isSome) M) : dInB false x (.ref p) M Q := by simp only [dInB, asSeq, asL, e, dLook, ek]; simpa using h
theorem v_ninK {kvs : List (Key × DV)} {k : Key} (e : get M p = some (.dK kvs)) (ek : keyD x = some k) (h : Q (.bl (!(dvalV kvs k).isSome)) M) : dInB true x (.ref p) M Q := by simp only [dInB, asSeq, asL, e, dLook, ek]; simpa using h
theorem v_ix (e : asSeq M x = some ds) (e2 : atI ds z = some d) (h : Q d M) : dIx x (.int z) M Q := by simp only [dIx, e, e2]; exact h
theorem v_ixK {kvs : List (Key × DV)} {k : Key} (e : get M p = some (.dK kvs)) (ek : keyD x = some k) (e2 : dvalV kvs k = some d) (h : Q d M) : dIx (.ref p) x M Q := by
  cases x <;> first | (simp only [dIx, asSeq, asL, e, dDictIx, dLook, ek, e2]; exact h) | cases ek
theorem v_len {n : Nat} (e : lenD M x = some n) (h : Q (.int (n : Int)) M) : dLen [x] M Q := by simp only [dLen, e]; exact h
theorem v_list (e : asSeq M x = some ds) (h : nl m ds M Q) : dList m [x] M Q := by
  cases x with
  | scr ns => cases e
  | _ => simp only [dList, e]; exact h
theorem v_listS {ns : List Int} (h : nl m (ns.map .int) M Q) : dList m [.scr ns] M Q := h
theorem v_tuple (e : asSeq M x = some ds) (h : Q (.tup ds) M) : dTuple [x] M Q := by simp only [dTuple, e]; exact h
theorem v_int (h : Q (.int z) M) : dInt [.int z] M Q := h
theorem v_intB {w : Bool} (h : Q (.int (if w then 1 else 0)) M) : dInt [.bl w] M Q := h
theorem v_isi {n tn : String} {w : Bool} (e : tyN M x = some tn) (e2 : kitB tn n = some w) (h : Q (.bl w) M) : dIsi [x, .ty n] M Q := by simp only [dIsi, e, e2]; exact h
theorem v_sum {ns : List Int} (e : intsOf M x = some ns) (h : Q (.int ns.sum) M) : dSum [x] M Q := by simp only [dSum, e]; exact h
theorem v_max {ns : List Int} (e : intsOf M x = some ns) (h : ∀ k, k ∈ ns → (∀ y, y ∈ ns → y ≤ k) → Q (.int k) M) (hl : 0 < ns.length) : dMax [x] M Q := by simp only [dMax, e]; exact ⟨hl, h⟩
theorem s_sortedSet (h : ca s M fun x M1 => onObj (intsOf M1 x) fun ns => ns.length < 64 ∧ ∀ ns' : List Int, ns'.Pairwise (· < ·) → (∀ k, k ∈ ns' ↔ k ∈ ns) → nl m (ns'.map .int) M1 Q) : dSortedSet m ca s M Q := by
  unfold dSortedSet
  exact to1 (fun x M => by cases intsOf M x <;> rfl) h
theorem s_sl {co ch : DTO} (h : c s M fun x M1 => co s M1 fun l M2 => ch s M2 fun k M3 => dCut m x l k M3 Q) : dSl m c co ch s M Q := h
theorem s_noPart (h : Qo none M) : dNoPart s M Qo := h
theorem s_part (h : c s M fun x M1 => onInt x fun i => Qo (some i) M1) : dPart c s M Qo := h
theorem v_cutT {lo hi : Option Int} (h : Q (.tup (cutD ds lo hi)) M) : dCut m (.tup ds) lo hi M Q := h
theorem v_cutL {lo hi : Option Int} (h : nl m (cutD ds lo hi) M Q) : dCut m (.lst ds) lo hi M Q := h
theorem v_cutR {lo hi : Option Int} (e : get M p = some (.lst ds)) (h : nl m (cutD ds lo hi) M Q) : dCut m (.ref p) lo hi M Q := by simp only [dCut, asL, e]; exact h
theorem v_rev (e : asL M x = some ds) (h : nl m ds.reverse M Q) : dRev m x M Q := by simp only [dRev, e]; exact h
theorem s_call {sp : PSp} (h : cl s M fun ds M1 => sp ds fun d => Q d M1) : dCall sp cl s M Q := h
theorem s_call1 {sp : DSp} (h : cl s M fun ds M1 => onFst ds fun a => onObj (get M1 a) fun o => sp ds [(a, o)] fun d M2 => ∃ o', M2 = [(a, o')] ∧ Q d (put M1 a o')) : dCall1 sp cl s M Q := by
  unfold dCall1
  exact toA (fun x M => by
    cases x with
    | nil => rfl
    | cons x r => cases x with
      | ref a => simp only [onFst]; cases get M a <;> rfl
      | _ => rfl) h
theorem s_callG {sp : DSp} (h : cl s M fun ds M1 => ∃ Ms, (∀ a o, get Ms a = some o → get M1 a = some o) ∧ sp ds Ms fun d M2 => Q d (M2 ++ rest M1 Ms)) : dCallG sp cl s M Q := h
theorem s_make {C : Addr} {sp : DSp} (h : cl s M fun ds M1 => ∀ x, sp (.ref x :: ds) [(x, .ins C [] [])] fun d M2 => d = .non ∧ ∃ ns fs, get M2 x = some (.ins C ns fs) ∧ Q (.obj C ns fs) M1) : dMake C sp cl s M Q := h
theorem s_fldO {C : Addr} {NS : List Str} (e : ds[j]? = some d) (h : Q d M) : dFld C NS j (.obj C NS ds) M Q := by simp only [dFld, insOf, and_self, if_true, e]; exact h
theorem s_fldR {C : Addr} {NS : List Str} (eg : get M p = some (.ins C NS ds)) (e : ds[j]? = some d) (h : Q d M) : dFld C NS j (.ref p) M Q := by simp only [dFld, insOf, eg, and_self, if_true, e]; exact h
theorem s_meth {C : Addr} {NS : List Str} {sp : PSp} (h : c s M fun x M0 => onObj (insOf C NS M0 x) fun _ => cl s M0 fun ds M1 => sp (x :: ds) fun d => Q d M1) : dMeth C NS sp c cl s M Q := by
  unfold dMeth
  exact to1 (fun x M => by cases insOf C NS M x <;> rfl) h
theorem s_methG {C : Addr} {NS : List Str} {sp : DSp} (h : c s M fun x M0 => onObj (insOf C NS M0 x) fun _ => cl s M0 fun ds M1 => ∃ Ms, (∀ a o, get Ms a = some o → get M1 a = some o) ∧ sp (x :: ds) Ms fun d M2 => Q d (M2 ++ rest M1 Ms)) : dMethG C NS sp c cl s M Q := by
  unfold dMethG
  exact to1 (fun x M => by cases insOf C NS M x <;> rfl) h
theorem ins_obj {C : Addr} {NS : List Str} : insOf C NS M (.obj C NS ds) = some ds := by simp [insOf]
theorem s_setF {C : Addr} {NS NS' : List Str} {jj : Option Nat} (h : c s M fun d M1 => ca s M1 fun x M2 => onIns M2 x fun a C' ns ds => C' = C ∧ ns = NS ∧ D.nx s (put M2 a (.ins C NS' (dsUp ds d jj)))) : dSetF C NS NS' jj ca c D s M := by
  unfold dSetF
  exact to1 (fun d M1 => propext ⟨fun h => to1 (fun x M2 => by
      cases x with
      | ref a => unfold onIns; cases get M2 a with | none => rfl | some o => cases o <;> rfl
      | _ => rfl) h, fun h => to1 (fun x M2 => by
      cases x with
      | ref a => unfold onIns; cases get M2 a with | none => rfl | some o => cases o <;> rfl
      | _ => rfl) h⟩) h
theorem mo_eq {o : Option MO} {f : List DV → Prop} : onMO o f = (match o with | some (.lst ds) => f ds | _ => False) := by
  cases o with
  | none => rfl
  | some o => cases o <;> rfl
theorem s_bm {r : DMt} (h : c s M fun x M1 => onLst M1 x fun a _ => cl s M1 fun es M2 => onMO (get M2 a) fun ds => r a ds es M2 Q) : dBM r c cl s M Q := by
  simp only [onLst, mo_eq] at h
  exact h
theorem o_mo {o : Option MO} {f : List DV → Prop} (e : o = some (.lst ds)) (h : f ds) : onMO o f := by rw [e]; exact h
theorem v_append (h : Q .non (put M p (.lst (ds ++ [d])))) (hl : ds.length < sizeLine) : mAppend p ds [d] M Q := ⟨hl, h⟩
theorem v_extend (e : asSeq M y = some ys) (h : Q .non (put M p (.lst (ds ++ ys)))) (hl : ds.length + ys.length ≤ sizeLine) : mExtend p ds [y] M Q := by
  cases y with
  | tup zs => cases e; exact ⟨hl, h⟩
  | lst zs => cases e; exact ⟨hl, h⟩
  | ref a => simp only [mExtend, show asL M (.ref a) = some ys from e]; exact ⟨hl, h⟩
  | _ => cases e
theorem v_reverse (h : Q .non (put M p (.lst ds.reverse))) : mReverse p ds es M Q := h
/-! what is walked -/
theorem s_iSeq (h : c s M fun x M1 => onSeq M1 x fun ds w => Qi ds w M1) : dSeqI c s M Qi := by
  unfold dSeqI
  exact to1 (fun x M => by
    cases x with
    | ref a => unfold onSeq onMO; cases get M a with | none => rfl | some o => cases o <;> rfl
    | _ => rfl) h
theorem s_rng1 (h : cl s M fun xs M1 => on1I xs fun j => -(2 ^ 62) ≤ j ∧ j < 2 ^ 62 ∧ Qi (rngD 0 j.toNat) none M1) : dRng1 cl s M Qi := h
theorem s_rng2 (h : cl s M fun xs M1 => on2I xs fun i j => (-(2 ^ 62) ≤ i ∧ i < 2 ^ 62 ∧ -(2 ^ 62) ≤ j ∧ j < 2 ^ 62) ∧ Qi (rngD i (j - i).toNat) none M1) : dRng2 cl s M Qi := h
theorem s_rng3 (h : cl s M fun xs M1 => on3I xs fun i j c => ∃ n, RgC i j c n ∧ Qi (rngC i c n) none M1) : dRng3 cl s M Qi := h
theorem s_lc {ci : DTI} {bd : DBd} {vs : List Nat} (h : ci s M fun its w M1 => dComp m bd w t c (dwipe s vs) Q its [] M1) : dLc m ci bd t c vs s M Q := h
theorem s_lstRg (h : c s M fun x M1 => onInt x fun j => RgOk 0 j ∧ nl m (rngD 0 j.toNat) M1 Q) : dLstRg1 m c s M Q := h
theorem s_newDK (h : ∀ p, Fresh p M → Q (.ref p) ((p, .dK []) :: M)) : dNewDK s M Q := h
end
/-! ### comprehensions whose turns leave the memory as it is -/
theorem comp_enc {α : Type} {m : Bool} {bd : DBd} {w : Option (Addr × List DV)} {tt : DTT} {te : DTE} {s : DSt} {Q : DQ} {M : Mem} (xs : List α) (e : α → DV) (p : α → Bool) (f : α → DV) (hw : watchOk w M) (hl : xs.length ≤ sizeLine)
    (h : ∀ a, a ∈ xs → ∃ s2, bd s (e a) = some s2 ∧ (∀ Q' : Bool → Mem → Prop, Q' (p a) M → tt s2 M Q') ∧ (p a = true → ∀ Q' : DQ, Q' (f a) M → te s2 M Q')) (q : nl m ((xs.filter p).map f) M Q) : dComp m bd w tt te s Q (xs.map e) [] M := by
  have main : ∀ (ys : List α) (acc : List DV), acc.length + ys.length ≤ sizeLine → (∀ a, a ∈ ys → a ∈ xs) → nl m (acc ++ (ys.filter p).map f) M Q → dComp m bd w tt te s Q (ys.map e) acc M := by
    intro ys
    induction ys with
    | nil => intro acc _ _ q; rw [List.filter_nil, List.map_nil, List.append_nil] at q; exact ⟨hw, q⟩
    | cons y ys ih =>
      intro acc hl hm q
      obtain ⟨s2, e1, e2, e3⟩ := h y (hm y List.mem_cons_self)
      refine ⟨hw, ?_⟩
      simp only [e1]
      refine e2 _ ?_
      cases hp : p y with
      | true =>
        rw [List.filter_cons, if_pos hp, List.map_cons] at q
        refine e3 hp _ ⟨by simp only [List.length_cons] at hl; omega, ih _ (by simp only [List.length_cons] at hl; simp; omega) (fun a ha => hm a (List.mem_cons_of_mem _ ha)) ?_⟩
        rw [List.append_assoc]
        exact q
      | false =>
        rw [List.filter_cons, if_neg (by simp [hp])] at q
        exact ih acc (by simp only [List.length_cons] at hl; omega) (fun a ha => hm a (List.mem_cons_of_mem _ ha)) q
  exact main xs [] (by simpa using hl) (fun _ h => h) (by simpa using q)
end Lt
namespace Lt
open PySem PySem.Spec PyProof.Rows L2 Evl
section
variable {α : Type} {f : α → DV} {xs : List α} {i : Nat} {z : Int} {d : DV}
theorem atI_mapI (dflt : α) (h0 : 0 ≤ z) (h1 : z < xs.length) : atI (xs.map f) z = some (f (xs.getD z.toNat dflt)) := by
  obtain ⟨n, rfl⟩ : ∃ n : Nat, z = n := ⟨z.toNat, by omega⟩
  have h2 : n < xs.length := by omega
  refine atI_nat ?_
  rw [List.getElem?_map, List.getElem?_eq_getElem h2]
  simp [List.getD_eq_getElem?_getD, h2]
theorem atI_mapN (dflt : α) (h : i < xs.length) : atI (xs.map f) (i : Int) = some (f (xs.getD i dflt)) := by
  have := atI_mapI (f := f) (xs := xs) (z := (i : Int)) dflt (by omega) (by omega)
  simpa using this
theorem rng_at {lo : Int} {n : Nat} (h : (rngD lo n)[i]? = some d) : i < n ∧ d = .int (lo + (i : Int)) := by
  unfold rngD at h
  rw [List.getElem?_map] at h
  cases hr : (List.range n)[i]? with
  | none => rw [hr] at h; cases h
  | some k =>
    rw [hr] at h
    obtain ⟨hi, hk⟩ := List.getElem?_eq_some_iff.mp hr
    rw [List.getElem_range] at hk
    subst hk
    cases h
    exact ⟨by simpa using hi, rfl⟩
theorem rng_at0 {n : Nat} (h : (rngD 0 n)[i]? = some d) : i < n ∧ d = .int (i : Int) := by
  obtain ⟨h1, h2⟩ := rng_at h
  exact ⟨h1, by rw [h2, Int.zero_add]⟩
theorem rng_map (n : Nat) : rngD 0 n = (List.range n).map fun (k : Nat) => DV.int (k : Int) := by
  unfold rngD
  simp
theorem map_at (h : (xs.map f)[i]? = some d) : ∃ a, xs[i]? = some a ∧ d = f a := by
  rw [List.getElem?_map] at h
  cases e : xs[i]? with
  | none => rw [e] at h; cases h
  | some a => rw [e] at h; cases h; exact ⟨a, rfl, rfl⟩
theorem getD_at {dflt a : α} (h : xs[i]? = some a) : xs.getD i dflt = a := by simp [List.getD_eq_getElem?_getD, h]
theorem take_at {a : α} (h : xs[i]? = some a) : xs.take (i + 1) = xs.take i ++ [a] := by
  rw [List.take_add_one, h]; rfl
end
theorem way_cast {b : Bool} {p : Prop} {P R : Prop} (hb : b = true ↔ p) (h1 : p → P) (h2 : ¬ p → R) : way b P R := by
  cases b with
  | true => exact h1 (hb.mp rfl)
  | false => exact h2 (fun h => by have := hb.mpr h; cases this)
/-- a loop over data: Pv says what holds behind the first i items -/
theorem for_enc {α : Type} {g : DTG} {db : DTS} {w : Option (Addr × List DV)} {D : DEnds} {s : DSt} {M : Mem} (xs : List α) (e : α → DV) (Pv : Nat → DSt → Mem → Prop) (h0 : Pv 0 s M)
    (hs : ∀ i a s M (N : DSt → Mem → Prop), xs[i]? = some a → Pv i s M → (∀ s' M', Pv (i + 1) s' M' → N s' M') → watchOk w M ∧ g (e a) s M fun s2 M2 => db { D with nx := N, ct := N, bk := D.nx } s2 M2)
    (hd : ∀ s M, Pv xs.length s M → watchOk w M ∧ D.nx s M) : dLoop g db w D (xs.map e) s M := by
  refine loop_by Pv h0 (fun i d s M N hi hp hN => ?_) (fun s M hp => hd s M (by simpa using hp))
  obtain ⟨a, ha, rfl⟩ := map_at hi
  exact hs i a s M N ha hp hN
end Lt
namespace Lt
open PySem PySem.Spec PyProof.Rows L2 Evl
/-! ### the law's end -/
/-- what every law promises -/
def spS : PSp := fun ds Q => ∃ ns, ds = [.scr ns] ∧ ns.length ≤ 63 ∧ Q (.bl true)
theorem len_spS : ∀ ds Q, spS ds Q → ds.length = 1 := by rintro _ _ ⟨_, rfl, _⟩; rfl
def spL (K : PySem.W.Frag) : Sp := fun vs H Q _ => ∃ (a : Addr) (ns : List Int), vs = [.ref a] ∧ SqL K H a (ns.map V.int) ∧ ns.length ≤ 63 ∧ ∀ H', Q (.bl true) H'
def DefL (K : PySem.W.Frag) (x : Str) (st : Stmt) (f : Addr) : Prop := ∃ fd, Fun K x x st f fd ∧ ∀ (s : Shared) (v : Value), BindsTo s fd ⟨[v], []⟩ [("script", v)]
theorem defl_mk {K : PySem.W.Frag} {x : Str} {st : Stmt} {f : Addr} {oc : Value} {od an : Option Addr} {osl : Array (Option Value)} {kV doc pm cdv ct : Value} (l : K.lookup f = some ⟨oc, od, .func (PySem.W.fnOf x x (defArgs st) (defBody st) (defScope st) .none kV doc pm an cdv ct), osl⟩)
    (c : PySem.W.codeIn K cdv x = true) (k : PySem.W.keepIn K (.ref f) = true) (h : ∀ (kV doc pm : Value) (an : Option Addr) (cdv ct v : Value), bindArgs (PySem.W.fnOf x x (defArgs st) (defBody st) (defScope st) .none kV doc pm an cdv ct) ⟨[v], []⟩ = Pure.pure [(("script" : Str), v)]) :
    DefL K x st f := ⟨_, fun_mk l c k, fun s v => .of_eq (h _ _ _ _ _ _ v)⟩
def OkL (P : Program) (w : World) (K : PySem.W.Frag) (mg : Str → Option Value) (k : Nat) (f : Addr) : Prop := ∃ fd, (∀ (s : Shared) (v : Value), BindsTo s fd ⟨[v], []⟩ [("script", v)]) ∧ ∀ base : Heap, FnOk P w K mg base CX0 k f fd ["script"] (spL K)
theorem lawOf {P : Program} {w : World} {K : PySem.W.Frag} {mg : Str → Option Value} {base : Heap} {k : Nat} {f : Addr} {fd : FuncData} (F : FnOk P w K mg base CX0 k f fd ["script"] (lowSp K (pur spS))) : FnOk P w K mg base CX0 k f fd ["script"] (spL K) :=
  F.imp fun vs H Q E ⟨a, ns, e, hS, hl, q⟩ => by
    subst e
    exact ⟨[.scr ns], H, [], fun _ => none, _, .cons (.scr hS) .nil, ⟨Ex.refl H, fun _ _ z => (nomatch z), fun _ _ z => (nomatch z)⟩, ⟨rfl, ns, rfl, hl, rfl⟩, fun d M v F2 H2 (e : d = .bl true) _ _ r => by subst e; cases r; exact q H2⟩
theorem law_walk {l : PySem.W.OpenLaw} {q : Program} {loose : List Str} {XP : (Str → Option Value) → Heap → Prop} {YP : World → Heap → Prop} {d : DefRec} {K : Params → PySem.W.Frag} (k : Nat) (hr : Room k callerA) (hn : l.most = some 63) (hdf : d.params.defaults = [])
    (hY : ∀ (w : World) (h : Heap), YP w h → (K w.params).In h)
    (F : ∀ (w : World) (mg : Str → Option Value) (fa : Addr) (h : Heap), (K w.params).In h → h.Ns mainGlobals mg → mg d.name = some (.ref fa) → OkL l.prog w (K w.params) mg k fa) :
    PySem.W.WalkO q loose XP YP l.row.toRowW d [] (fun f vs => PySem.call f vs) := by
  refine L2.walk_of (n := 63) (k := k) (x := "script") (CX := fun _ => CX0) (sp := fun w => spL (K w.params)) hn (by decide) hdf hr hY ?_ (fun _ _ a ns hl _ hS => ⟨a, ns, rfl, hS, hl, fun _ => rfl⟩) fun _ _ _ _ _ z => z
  intro w mg fa h X G e
  obtain ⟨fd, x, y⟩ := F w mg fa h X G e
  exact ⟨fd, x, fun base _ _ => y base⟩
/-! ### more steps -/
section
variable {D : DEnds} {s : DSt} {M : Mem} {Q : DQ} {c ca cb cc : DTE} {d x y : DV} {m : Bool} {xs ys ds es : List DV} {p q : Addr} {o o' x1 : MO}
theorem s_chain {g g' : Int → Int → Bool} (h : ca s M fun x M1 => cb s M1 fun y M2 => onInt x fun i => onInt y fun j => way (g i j) (cc s M2 fun z M3 => onInt z fun k => Q (.bl (g' j k)) M3) (Q (.bl false) M2)) : dChain g g' ca cb cc s M Q := by
  unfold dChain
  refine to1 (fun x M1 => ?_) h
  refine propext ⟨fun h => to1 (fun y M2 => ?_) h, fun h => to1 (fun y M2 => ?_) h⟩
  all_goals
    cases x with
    | int i => cases y with
      | int j => cases e : g i j <;> simp only [onInt, way, e] <;> first | rfl | (refine propext ⟨fun h => to1 (fun z M3 => by cases z <;> rfl) h, fun h => to1 (fun z M3 => by cases z <;> rfl) h⟩)
      | _ => first | rfl | (simp [onInt])
    | _ => first | rfl | (simp [onInt]) | (cases y <;> simp [onInt])
theorem v_pop (e : ds[ds.length - 1]? = some d) (h : Q d (put M p (.lst ds.dropLast))) : mPop p ds [] M Q := by unfold mPop; rw [e]; exact h
theorem get_here : get ((p, o) :: M) p = some o := by rw [get_cons, if_pos rfl]
theorem get_next (h : p ≠ q) : get ((q, o) :: M) p = get M p := by rw [get_cons, if_neg h]
theorem put_here : put ((p, x1) :: M) p o = (p, o) :: M := by simp [put]
theorem put_next (h : p ≠ q) : put ((q, x1) :: M) p o = (q, x1) :: put M p o := by rw [put, if_neg h]
theorem del_none : ∀ {N : Mem}, Fresh p N → del N p = N
  | [], _ => rfl
  | (b, y) :: r, h => by
    unfold del
    rw [if_neg (h b (by simp)), del_none fun c hc => h c (by simp at hc ⊢; exact .inr hc)]
theorem del_here (h : Fresh p M) : del ((p, x1) :: M) p = M := by unfold del; rw [if_pos rfl, del_none h]
theorem del_next (h : p ≠ q) : del ((q, x1) :: M) p = (q, x1) :: del M p := by rw [del, if_neg h]
theorem fresh_ne (h : Fresh p ((q, o) :: M)) : p ≠ q := h q (by simp)
theorem fresh_tl (h : Fresh p ((q, o) :: M)) : Fresh p M := fun b hb => h b (by simp at hb ⊢; exact .inr hb)
theorem fresh_any (h : Fresh p ((q, o) :: M)) (o' : MO) : Fresh p ((q, o') :: M) := fun b hb => h b (by simpa using hb)
theorem seq_ref (e : get M p = some (.lst ds)) : asSeq M (.ref p) = some ds := by simp [asSeq, asL, e]
theorem l_ref (e : get M p = some (.lst ds)) : asL M (.ref p) = some ds := by simp [asL, e]
theorem len_ref (e : get M p = some (.lst ds)) : lenD M (.ref p) = some ds.length := by simp [lenD, e]
end
end Lt
namespace Lt
open PySem PySem.Spec PyProof.Rows L2 Evl
/-! steps that name the memory behind them -/
section
variable {D : DEnds} {s : DSt} {M M' : Mem} {Q : DQ} {c ca cb cc : DTE} {cl : DTA} {d x y : DV} {m : Bool} {xs ys ds es : List DV} {p q : Addr} {o o' x1 : MO} {Qn : Mem → Prop} {i j : Nat} {z : Int}
theorem w_append (hl : ds.length < sizeLine) (e : put M p (.lst (ds ++ [d])) = M') (h : Q .non M') : mAppend p ds [d] M Q := v_append (e ▸ h) hl
theorem w_extend (e0 : asSeq M y = some ys) (hl : ds.length + ys.length ≤ sizeLine) (e : put M p (.lst (ds ++ ys)) = M') (h : Q .non M') : mExtend p ds [y] M Q := v_extend e0 (e ▸ h) hl
/-- a tuple behind a list -/
theorem w_reverse (e : put M p (.lst ds.reverse) = M') (h : Q .non M') : mReverse p ds es M Q := v_reverse (e ▸ h)
theorem w_pop (e0 : ds = xs ++ [d]) (e : put M p (.lst xs) = M') (h : Q d M') : mPop p ds [] M Q := by
  subst e0
  refine v_pop (d := d) ?_ ?_
  · simp
  · rw [List.dropLast_concat, e]; exact h
theorem w_stL {k : Int} {v : DV} (e0 : get M p = some (.lst ds)) (ek : ixN ds.length k = some j) (e : put M p (.lst (ds.set j v)) = M') (h : Qn M') : stD (.ref p) (.int k) v M Qn := s_stL e0 ek (e ▸ h)
theorem w_stK {v k : DV} {kvs : List (Key × DV)} {kk : Key} (e0 : get M p = some (.dK kvs)) (ek : keyD k = some kk) (hl : kvs.length < sizeLine) (e : put M p (.dK (putD kvs kk v)) = M') (h : Qn M') : stD (.ref p) k v M Qn := s_stK e0 ek (e ▸ h) hl
def frz1 (Q : DQ) (M : Mem) (a : Addr) (ds : List DV) : Prop := Q (.lst ds) (del M a)
theorem w_frz (h : c s M fun x M1 => onLst M1 x fun a ds => frz1 Q M1 a ds) : dFrz c s M Q := s_frz h
theorem o_frz {a : Addr} (e : del M a = M') (h : Q (.lst ds) M') : frz1 Q M a ds := by unfold frz1; rw [e]; exact h
def set1 (D : DEnds) (s : DSt) (M : Mem) (C : Addr) (NS NS' : List Str) (jj : Option Nat) (d : DV) (a C' : Addr) (ns : List Str) (ds : List DV) : Prop := C' = C ∧ ns = NS ∧ D.nx s (put M a (.ins C NS' (dsUp ds d jj)))
theorem w_setF {C : Addr} {NS NS' : List Str} {jj : Option Nat} (h : c s M fun d M1 => ca s M1 fun x M2 => onIns M2 x fun a C' ns ds => set1 D s M2 C NS NS' jj d a C' ns ds) : dSetF C NS NS' jj ca c D s M := s_setF h
theorem o_set {C : Addr} {NS NS' : List Str} {jj : Option Nat} {fs : List DV} (e : put M p (.ins C NS' (dsUp fs d jj)) = M') (h : D.nx s M') : set1 D s M C NS NS' jj d p C NS fs := ⟨rfl, rfl, by rw [e]; exact h⟩
theorem c_end {Qd : DV → Mem → Prop} (e : put M p o = M') (h : Qd d M') : ∃ o', [(p, o)] = [(p, o')] ∧ Qd d (put M p o') := ⟨o, rfl, e ▸ h⟩
theorem seq_lst : asSeq M (.lst ds) = some ds := rfl
theorem seq_tup : asSeq M (.tup ds) = some ds := rfl
theorem l_lst : asL M (.lst ds) = some ds := rfl
theorem len_lst : lenD M (.lst ds) = some ds.length := rfl
theorem len_tup : lenD M (.tup ds) = some ds.length := rfl
theorem len_scr {ns : List Int} : lenD M (.scr ns) = some ns.length := rfl
theorem ints_lst {w : List Int} : intsOf M (.lst (w.map DV.int)) = some w := by simp [intsOf, asSeq, asL, intsD_map]
theorem ints_ref {w : List Int} (e : get M p = some (.lst (w.map DV.int))) : intsOf M (.ref p) = some w := by simp [intsOf, asSeq, asL, e, intsD_map]
def onSz (n : Nat) (P : Prop) : Prop := n ≤ sizeLine ∧ P
theorem o_sz {n : Nat} {P : Prop} (e : n ≤ sizeLine) (h : P) : onSz n P := ⟨e, h⟩
def inRg (k : Int) (P : Prop) : Prop := -(2 ^ 62) ≤ k ∧ k < 2 ^ 62 ∧ P
theorem o_rg {k : Int} {P : Prop} (e1 : -(2 ^ 62) ≤ k) (e2 : k < 2 ^ 62) (h : P) : inRg k P := ⟨e1, e2, h⟩
theorem w_tup (h : cl s M fun ds M1 => onSz ds.length (Q (.tup ds) M1)) : dTup cl s M Q := h
theorem w_lst (h : cl s M fun ds M1 => onSz ds.length (nl m ds M1 Q)) : dLst m cl s M Q := h
theorem w_rng1 {Qi : List DV → Option (Addr × List DV) → Mem → Prop} (h : cl s M fun xs M1 => on1I xs fun j => inRg j (Qi (rngD 0 j.toNat) none M1)) : dRng1 cl s M Qi := h
theorem w_rng2 {Qi : List DV → Option (Addr × List DV) → Mem → Prop} (h : cl s M fun xs M1 => on2I xs fun i j => inRg i (inRg j (Qi (rngD i (j - i).toNat) none M1))) : dRng2 cl s M Qi := by
  refine s_rng2 (toA (fun xs M1 => ?_) h)
  cases xs with
  | nil => rfl
  | cons x r => cases r with
    | nil => cases x <;> rfl
    | cons y r => cases r with
      | nil => cases x with
        | int i => cases y with
          | int j => exact propext ⟨fun ⟨a, b, c, d, e⟩ => ⟨⟨a, b, c, d⟩, e⟩, fun ⟨⟨a, b, c, d⟩, e⟩ => ⟨a, b, c, d, e⟩⟩
          | _ => rfl
        | _ => cases y <;> rfl
      | cons z r => cases x <;> cases y <;> rfl
theorem v_intx {i : Int} (h : Q (.int i) M) : dInt [.int i] M Q := h
theorem ix_at {n : Nat} {k : Int} (h0 : 0 ≤ k) (h1 : k < n) : ixN n k = some k.toNat := by
  unfold ixN
  rw [if_pos h0, if_pos h1]
end
end Lt
namespace Lt
open PySem PySem.Spec PyProof.Rows L2 Evl
/-- a loop over range(lo, lo + n) -/
theorem for_rng {g : DTG} {db : DTS} {w : Option (Addr × List DV)} {D : DEnds} {s : DSt} {M : Mem} {lo : Int} {n : Nat} (Pv : Nat → DSt → Mem → Prop) (h0 : Pv 0 s M)
    (hs : ∀ i s M (N : DSt → Mem → Prop), i < n → Pv i s M → (∀ s' M', Pv (i + 1) s' M' → N s' M') → watchOk w M ∧ g (.int (lo + (i : Int))) s M fun s2 M2 => db { D with nx := N, ct := N, bk := D.nx } s2 M2)
    (hd : ∀ s M, Pv n s M → watchOk w M ∧ D.nx s M) : dLoop g db w D (rngD lo n) s M := by
  refine loop_by Pv h0 (fun i d s M N hi hp hN => ?_) (fun s M hp => hd s M (by rwa [rngD_len] at hp))
  obtain ⟨h1, rfl⟩ := rng_at hi
  exact hs i s M N h1 hp hN
/-- the same from nought -/
theorem for_rng0 {g : DTG} {db : DTS} {w : Option (Addr × List DV)} {D : DEnds} {s : DSt} {M : Mem} {n : Nat} (Pv : Nat → DSt → Mem → Prop) (h0 : Pv 0 s M)
    (hs : ∀ i s M (N : DSt → Mem → Prop), i < n → Pv i s M → (∀ s' M', Pv (i + 1) s' M' → N s' M') → watchOk w M ∧ g (.int (i : Int)) s M fun s2 M2 => db { D with nx := N, ct := N, bk := D.nx } s2 M2)
    (hd : ∀ s M, Pv n s M → watchOk w M ∧ D.nx s M) : dLoop g db w D (rngD 0 n) s M :=
  for_rng Pv h0 (fun i s M N h1 h2 h3 => by rw [Int.zero_add]; exact hs i s M N h1 h2 h3) hd
/-- a comprehension, by what holds behind the first i items -/
theorem comp_loop {m : Bool} {bd : DBd} {w : Option (Addr × List DV)} {tt : DTT} {te : DTE} {s : DSt} {Q : DQ} {M : Mem} {its : List DV} (Pv : Nat → List DV → Mem → Prop) (hl : its.length ≤ sizeLine) (h0 : Pv 0 [] M)
    (hs : ∀ i d acc M (N1 : DQ) (N0 : Mem → Prop), its[i]? = some d → Pv i acc M → (∀ x M2, Pv (i + 1) (acc ++ [x]) M2 → N1 x M2) → (∀ M2, Pv (i + 1) acc M2 → N0 M2) → watchOk w M ∧ ∃ s2, bd s d = some s2 ∧ tt s2 M fun b M1 => way b (te s2 M1 N1) (N0 M1))
    (hd : ∀ acc M, Pv its.length acc M → watchOk w M ∧ nl m acc M Q) : dComp m bd w tt te s Q its [] M := by
  have main : ∀ (n i : Nat) acc M, its.length - i = n → i ≤ its.length → acc.length ≤ i → Pv i acc M → dComp m bd w tt te s Q (its.drop i) acc M := by
    intro n
    induction n with
    | zero =>
      intro i acc M hn hi _ hp
      have e : i = its.length := by omega
      subst e
      rw [List.drop_length]
      exact hd acc M hp
    | succ n ih =>
      intro i acc M hn hi ha hp
      have hlt : i < its.length := by omega
      rw [List.drop_eq_getElem_cons hlt]
      obtain ⟨hw, s2, e, ht⟩ := hs i its[i] acc M (fun x M2 => acc.length < sizeLine ∧ dComp m bd w tt te s Q (its.drop (i + 1)) (acc ++ [x]) M2) (fun M2 => dComp m bd w tt te s Q (its.drop (i + 1)) acc M2) (List.getElem?_eq_getElem hlt) hp
        (fun x M2 hx => ⟨by omega, ih (i + 1) (acc ++ [x]) M2 (by omega) (by omega) (by simp; omega) hx⟩) (fun M2 hx => ih (i + 1) acc M2 (by omega) (by omega) (by omega) hx)
      refine ⟨hw, ?_⟩
      simp only [e]
      have e2 : (fun (b : Bool) M1 => way b (te s2 M1 fun x M2 => acc.length < sizeLine ∧ dComp m bd w tt te s Q (its.drop (i + 1)) (acc ++ [x]) M2) (dComp m bd w tt te s Q (its.drop (i + 1)) acc M1)) = fun b M1 => match b with
        | true => te s2 M1 fun x M2 => acc.length < sizeLine ∧ dComp m bd w tt te s Q (its.drop (i + 1)) (acc ++ [x]) M2
        | false => dComp m bd w tt te s Q (its.drop (i + 1)) acc M1 := by funext b M1; cases b <;> rfl
      rw [e2] at ht
      exact ht
  simpa using main its.length 0 [] M (by omega) (by omega) (by simp) h0
/-- while, by what shrinks -/
theorem while_by {ct : DTT} {db : DTS} {D : DEnds} {s : DSt} {M : Mem} (Pv : Nat → DSt → Mem → Prop) (m0 : Nat) (h0 : Pv m0 s M)
    (hs : ∀ m s M (N : DSt → Mem → Prop), Pv m s M → (∀ m' s' M', m' < m → Pv m' s' M' → N s' M') → ct s M fun b M1 => way b (db { D with nx := N, ct := N, bk := D.nx } s M1) (D.nx s M1)) : dWhile ct db D s M := by
  refine while_inv Pv m0 h0 fun m s M N hp hN => ?_
  have := hs m s M N hp hN
  have e : (fun (b : Bool) M1 => way b (db { D with nx := N, ct := N, bk := D.nx } s M1) (D.nx s M1)) = fun b M1 => match b with
    | true => db { D with nx := N, ct := N, bk := D.nx } s M1
    | false => D.nx s M1 := by funext b M1; cases b <;> rfl
  rw [e] at this
  exact this
theorem fg_self {M : Mem} {P : Mem → Prop} (h : P M) : Fg M P := ⟨M, fun _ _ z => z, h⟩
theorem fg_cons {M : Mem} {p : Addr} {o : MO} {P : Mem → Prop} (hf : Fresh p M) (h : P M) : Fg ((p, o) :: M) P := ⟨M, fun a x e => by
  have : a ≠ p := fun z => by subst z; exact hf a (get_mem e) rfl
  rw [get_next this]; exact e, h⟩
theorem fg_tl {M N : Mem} {p : Addr} {o : MO} {P : Mem → Prop} (hf : Fresh p M) (h : Fg M P) : Fg ((p, o) :: M) P := by
  obtain ⟨M2, s, q⟩ := h
  refine ⟨M2, fun a x e => ?_, q⟩
  have e1 := s a x e
  have : a ≠ p := fun z => by subst z; exact hf a (get_mem e1) rfl
  rw [get_next this]; exact e1
theorem fg_head {M : Mem} {p : Addr} {o : MO} {P : Mem → Prop} (h : P [(p, o)]) : Fg ((p, o) :: M) P := by
  refine ⟨_, fun a x e => ?_, h⟩
  by_cases z : a = p
  · subst z
    rw [get_here] at e ⊢
    exact e
  · rw [get_next z] at e
    cases e
/-- a call with the first argument's object handed on -/
def call1 (sp : DSp) (ds : List DV) (a : Addr) (o : MO) (M : Mem) (Q : DQ) : Prop := sp ds [(a, o)] fun d M2 => ∃ o', M2 = [(a, o')] ∧ Q d (put M a o')
theorem w_call1 {cl : DTA} {sp : DSp} {s : DSt} {M : Mem} {Q : DQ} (h : cl s M fun ds M1 => onFst ds fun a => onObj (get M1 a) fun o => call1 sp ds a o M1 Q) : dCall1 sp cl s M Q := s_call1 h
/-! dicts by int keys -/
theorem val_put {κ : Type} [DecidableEq κ] {v : DV} {k k' : κ} : ∀ {kvs : List (κ × DV)}, dvalV (putD kvs k v) k' = if k' = k then some v else dvalV kvs k' := by
  have miss : ∀ {kvs : List (κ × DV)}, (kvs.any fun kv => decide (kv.1 = k)) = false → dvalV kvs k = none := by
    intro kvs h
    unfold dvalV
    rw [List.find?_eq_none.mpr, Option.map_none]
    intro x hx
    have := (List.any_eq_false.mp h) x hx
    simpa using this
  have app : ∀ {kvs : List (κ × DV)}, dvalV (kvs ++ [(k, v)]) k' = (dvalV kvs k').or (if k = k' then some v else none) := by
    intro kvs
    induction kvs with
    | nil => by_cases e : k = k' <;> simp [dvalV, e]
    | cons x r ih =>
      unfold dvalV at ih ⊢
      rw [List.cons_append, List.find?_cons, List.find?_cons]
      by_cases e : x.1 = k'
      · simp [e]
      · simp only [e, decide_false]; exact ih
  have upd : ∀ {kvs : List (κ × DV)}, (kvs.any fun kv => decide (kv.1 = k)) = true → dvalV (kvs.map fun kv => if kv.1 = k then (kv.1, v) else kv) k' = if k' = k then some v else dvalV kvs k' := by
    intro kvs
    induction kvs with
    | nil => intro h; simp at h
    | cons x r ih =>
      intro h
      unfold dvalV at ih ⊢
      rw [List.map_cons, List.find?_cons, List.find?_cons]
      by_cases e : x.1 = k
      · rw [if_pos e]
        by_cases e2 : k' = k
        · simp [e, e2]
        · have : ¬ x.1 = k' := fun z => e2 (z.symm.trans e)
          simp only [this, decide_false, if_neg e2]
          by_cases hr : (r.any fun kv => decide (kv.1 = k)) = true
          · have := ih hr
            rw [if_neg e2] at this
            exact this
          · have hid : ∀ l : List (κ × DV), (l.any fun kv => decide (kv.1 = k)) = false → l.map (fun kv => if kv.1 = k then (kv.1, v) else kv) = l := by
              intro l hl
              induction l with
              | nil => rfl
              | cons y l ihl =>
                rw [List.any_cons, Bool.or_eq_false_iff] at hl
                rw [List.map_cons, ihl hl.2, if_neg (by simpa using hl.1)]
            rw [hid r (Bool.eq_false_iff.mpr hr)]
      · rw [if_neg e]
        rw [List.any_cons, decide_eq_false e, Bool.false_or] at h
        by_cases e2 : x.1 = k'
        · have : ¬ k' = k := fun z => e (e2.trans z)
          simp [e2, this]
        · simp only [e2, decide_false]
          exact ih h
  intro kvs
  unfold putD
  by_cases h : (kvs.any fun kv => decide (kv.1 = k)) = true
  · rw [if_pos h]; exact upd h
  · rw [if_neg h, app]
    have hm := miss (kvs := kvs) (Bool.eq_false_iff.mpr h)
    by_cases e : k' = k
    · subst e; rw [hm]; simp
    · rw [if_neg e, if_neg (Ne.symm e), Option.or_none]
theorem len_put {κ : Type} [DecidableEq κ] {v : DV} {k : κ} {kvs : List (κ × DV)} : (putD kvs k v).length ≤ kvs.length + 1 := by
  unfold putD
  split <;> simp
end Lt
namespace Lt
open PySem PySem.Spec PyProof.Rows L2 Evl
section
variable {α : Type} {f : α → DV} {xs ys zs : List α}
/-- a slice within bounds -/
theorem cut_seg (a b : Nat) (h1 : a ≤ b) (h2 : b ≤ xs.length) : cutD (xs.map f) (some (a : Int)) (some (b : Int)) = ((xs.drop a).take (b - a)).map f := by
  unfold cutD HT.sIx
  rw [List.length_map, List.map_take, List.map_drop]
  have e1 : ¬ ((a : Int) < 0) := by omega
  have e2 : ¬ ((b : Int) < 0) := by omega
  simp only [e1, e2, if_false, Int.toNat_natCast]
  rw [Nat.min_eq_left (by omega), Nat.min_eq_left (by omega)]
theorem cut_pre (b : Nat) : cutD (xs.map f) none (some (b : Int)) = (xs.take b).map f := by
  unfold cutD HT.sIx
  rw [List.length_map, List.map_take]
  have e2 : ¬ ((b : Int) < 0) := by omega
  simp only [e2, if_false, Int.toNat_natCast, List.drop_zero, Nat.sub_zero]
  by_cases h : b ≤ xs.length
  · rw [Nat.min_eq_left (by omega)]
  · rw [List.take_of_length_le (by simp; omega), List.take_of_length_le (by simp; omega)]
theorem flat_len {p : Nat} : ∀ {l : List (List α)}, (∀ r, r ∈ l → r.length = p) → l.flatten.length = l.length * p
  | [], _ => by simp
  | x :: r, h => by
    rw [List.flatten_cons, List.length_append, flat_len fun y hy => h y (List.mem_cons_of_mem _ hy), h x List.mem_cons_self, List.length_cons, Nat.succ_mul, Nat.add_comm]
theorem flat_at {p : Nat} : ∀ {l : List (List α)} {i : Nat} {r : List α}, (∀ r, r ∈ l → r.length = p) → l[i]? = some r → (l.flatten.drop (i * p)).take p = r
  | [], _, _, _, h => by simp at h
  | x :: l, 0, r, h, e => by
    simp at e
    subst e
    have := h x List.mem_cons_self
    simp [← this]
  | x :: l, i + 1, r, h, e => by
    have h0 := h x List.mem_cons_self
    rw [List.flatten_cons, List.drop_append, List.drop_of_length_le (by rw [h0]; exact Nat.le_mul_of_pos_left p (Nat.succ_pos i)), List.nil_append, h0, show (i + 1) * p - p = i * p by rw [Nat.succ_mul, Nat.add_sub_cancel]]
    exact flat_at (fun y hy => h y (List.mem_cons_of_mem _ hy)) (by simpa using e)
/-- the middle of three -/
theorem mid_of (xs ys zs : List α) : ((xs ++ ys ++ zs).drop xs.length).take ys.length = ys := by simp
end
theorem rgc_up {n p : Nat} (h1 : 1 ≤ p) (h2 : p ≤ 4) (h3 : n ≤ 4) : RgC 0 ((n * p : Nat) : Int) (p : Int) n := by
  rcases (by omega : p = 1 ∨ p = 2 ∨ p = 3 ∨ p = 4) with rfl | rfl | rfl | rfl <;> rcases (by omega : n = 0 ∨ n = 1 ∨ n = 2 ∨ n = 3 ∨ n = 4) with rfl | rfl | rfl | rfl | rfl <;> exact ⟨by decide, by decide, by decide, by decide⟩
theorem map_range_getD {α β : Type} (xs : List α) (d : α) (f : α → β) : (List.range xs.length).map (fun k => f (xs.getD k d)) = xs.map f := by
  apply List.ext_getElem
  · simp
  · intro i h1 h2
    simp at h1
    simp [List.getD_eq_getElem?_getD, h1]
theorem v_mulT {m : Bool} {xs : List DV} {k : Int} {M : Mem} {Q : DQ} (h0 : xs ≠ []) (lo : -(2 ^ 63) ≤ k) (hi : k < 2 ^ 63) (room : xs.length * k.toNat ≤ sizeLine) (h : Q (.tup (List.replicate k.toNat xs).flatten) M) : dMul m (.tup xs) (.int k) M Q := ⟨h0, ⟨lo, hi⟩, room, h⟩
theorem v_mulL {m : Bool} {xs : List DV} {k : Int} {M : Mem} {Q : DQ} (lo : -(2 ^ 63) ≤ k) (hi : k < 2 ^ 63) (room : xs.length * k.toNat ≤ sizeLine) (h : nl m (List.replicate k.toNat xs).flatten M Q) : dMul m (.lst xs) (.int k) M Q := ⟨lo, hi, room, h⟩
theorem rep_one {α : Type} (x : α) : ∀ n : Nat, (List.replicate n [x]).flatten = List.replicate n x
  | 0 => rfl
  | n + 1 => by rw [List.replicate_succ, List.flatten_cons, rep_one x n]; rfl
theorem flat_rep {α : Type} (x : α) (m : Nat) : ∀ n : Nat, (List.replicate n (List.replicate m x)).flatten = List.replicate (n * m) x
  | 0 => by simp
  | n + 1 => by rw [List.replicate_succ, List.flatten_cons, flat_rep x m n, List.replicate_append_replicate, Nat.succ_mul, Nat.add_comm]
section
variable {d : DV} {r ds : List DV} {s : DSt} {M : Mem} {Qs : DSt → Mem → Prop} {g : DTG} {gs : DTGs}
theorem s_gTup {n : Nat} (hl : ds.length = n) (h : gs ds s M Qs) : dgTup n gs (.tup ds) s M Qs := ⟨hl, h⟩
theorem s_gCons (h : g d s M fun s' M' => gs r s' M' Qs) : dgCons g gs (d :: r) s M Qs := h
theorem s_gNil (h : Qs s M) : dgNil [] s M Qs := ⟨rfl, h⟩
end
theorem rep_map {α : Type} {f : α → DV} (l : List α) (k : Nat) : (List.replicate k (l.map f)).flatten = ((List.replicate k l).flatten).map f := by
  rw [List.map_flatten, List.map_replicate]
end Lt
namespace My
open PySem PySem.Spec PyProof.Rows L2 Evl Lt
def top (i : Nat) : Stmt := PySem.Challenge.pw_tracetalk_k21_news_for_long.main.body.getD i (.Pass ⟨0, 0, 0, 0⟩)
abbrev s_Known__init_ : Stmt := inClass (top 1) 0
abbrev s_Known_flat : Stmt := inClass (top 1) 1
abbrev s_size_of : Stmt := top 2
abbrev s_rows_of : Stmt := top 3
abbrev s_known_of : Stmt := top 4
abbrev s_first_known : Stmt := top 5
abbrev s_is_older : Stmt := top 6
abbrev s_holder : Stmt := top 7
abbrev s_fresh_label : Stmt := top 8
abbrev s_met : Stmt := top 9
abbrev s_News__init_ : Stmt := inClass (top 11) 0
abbrev s_News_start : Stmt := inClass (top 11) 1
abbrev s_News_meet : Stmt := inClass (top 11) 2
abbrev s_News_compare : Stmt := inClass (top 11) 3
abbrev s_fits : Stmt := top 18
abbrev s_Alphabet__init_ : Stmt := inClass (top 19) 0
abbrev s_law_draws : Stmt := top 21
abbrev s_law_take : Stmt := top 22
abbrev s_law_is_integer : Stmt := top 23
abbrev s_law_alphabet : Stmt := top 24
abbrev s_law_word : Stmt := top 25
abbrev s_law_small_state : Stmt := top 26
abbrev s_law_meet : Stmt := top 27
abbrev s_law_told : Stmt := top 28
abbrev s_law_left_behind : Stmt := top 29
abbrev s_law : Stmt := top 30
abbrev nsKnown : List Str := ["first", "second", "third"]
abbrev nsNews : List Str := ["alphabet"]
abbrev nsAlphabet : List Str := ["places", "letters"]
structure Ads where
  Known : Addr
  News : Addr
  Alphabet : Addr
  t_MOST_LETTERS : Tok
  t_MOST_PLACES : Tok
  f_Known__init_ : Addr
  f_Known_flat : Addr
  f_size_of : Addr
  f_rows_of : Addr
  f_known_of : Addr
  f_first_known : Addr
  f_is_older : Addr
  f_holder : Addr
  f_fresh_label : Addr
  f_met : Addr
  f_News__init_ : Addr
  f_News_start : Addr
  f_News_meet : Addr
  f_News_compare : Addr
  f_fits : Addr
  f_Alphabet__init_ : Addr
  f_law_draws : Addr
  f_law_take : Addr
  f_law_is_integer : Addr
  f_law_alphabet : Addr
  f_law_word : Addr
  f_law_small_state : Addr
  f_law_meet : Addr
  f_law_told : Addr
  f_law_left_behind : Addr
  f_law : Addr
/-! ### decoding -/
def tupInts : DV → Option (List Int)
  | .tup ds => intsD ds
  | _ => none
def lettersD : List DV → Option (List (List Int))
  | [] => some []
  | d :: r => match tupInts d, lettersD r with
    | some x, some y => some (x :: y)
    | _, _ => none
abbrev encL (l : List Int) : DV := .tup (l.map DV.int)
theorem tupInts_enc (l : List Int) : tupInts (encL l) = some l := intsD_map l
theorem lettersD_enc : ∀ L : List (List Int), lettersD (L.map encL) = some L
  | [] => rfl
  | l :: r => by simp [lettersD, tupInts_enc, lettersD_enc r]
abbrev alph (A : Ads) (n : Nat) (L : List (List Int)) : DV := .obj A.Alphabet nsAlphabet [.int n, .tup (L.map encL)]
/-! ### promises -/
def Fits (l : List Int) (p : Int) : Prop := l ≠ [] ∧ ∀ j, j < l.length → 0 ≤ l.getD j 0 ∧ l.getD j 0 < p ∧ (0 < j → l.getD (j - 1) 0 < l.getD j 0)
instance (l : List Int) (p : Int) : Decidable (Fits l p) := by unfold Fits; infer_instance
def sp_fits (A : Ads) : PSp := fun ds Q => ∃ l p, ds = [encL l, .int p] ∧ l.length ≤ 1000 ∧ Q (.bl (decide (Fits l p)))
theorem len_fits (A : Ads) : ∀ ds Q, sp_fits A ds Q → ds.length = 2 := by rintro _ _ ⟨_, _, rfl, _⟩; rfl
/-- an alphabet as the laws make it -/
structure Alph (n : Nat) (L : List (List Int)) : Prop where
  n1 : 1 ≤ n
  n4 : n ≤ 4
  l1 : 1 ≤ L.length
  l6 : L.length ≤ 6
  len : ∀ l, l ∈ L → l.length ≤ 1000
  fit : ∀ l, l ∈ L → Fits l n
def sp_Alphabet__init_ (A : Ads) : DSp := fun ds M Q => ∃ (x : Addr) (n : Nat) (L : List (List Int)), ds = [.ref x, .int n, .lst (L.map encL)] ∧ M = [(x, .ins A.Alphabet [] [])] ∧ Alph n L ∧ Q .non [(x, .ins A.Alphabet nsAlphabet [.int n, .tup (L.map encL)])]
theorem len_Alphabet__init_ (A : Ads) : ∀ ds M Q, sp_Alphabet__init_ A ds M Q → ds.length = 3 := by rintro _ _ _ ⟨_, _, _, rfl, _⟩; rfl
/-- the law's draws -/
def Dr (ns : List Int) : Prop := ns.length ≤ 1000 ∧ ∀ n, n ∈ ns → 0 ≤ n ∧ n < 1000
def sp_law_draws (A : Ads) : DSp := fun ds M Q => ∃ sc k, ds = [.scr sc, .int k] ∧ M = [] ∧ sc.length ≤ 63 ∧ 0 ≤ k ∧ k ≤ 1000 ∧ ∀ p ns, Dr ns → Q (.ref p) [(p, .lst (ns.map .int))]
theorem len_law_draws (A : Ads) : ∀ ds M Q, sp_law_draws A ds M Q → ds.length = 2 := by rintro _ _ _ ⟨_, _, rfl, _⟩; rfl
def sp_law_take (A : Ads) : DSp := fun ds M Q => ∃ p k ns, ds = [.ref p, .int k] ∧ M = [(p, .lst (ns.map .int))] ∧ Dr ns ∧ 0 < k ∧ ∀ z ns', 0 ≤ z → z < k → Dr ns' → Q (.int z) [(p, .lst (ns'.map .int))]
theorem len_law_take (A : Ads) : ∀ ds M Q, sp_law_take A ds M Q → ds.length = 2 := by rintro _ _ _ ⟨_, _, _, rfl, _⟩; rfl
def sp_law_alphabet (A : Ads) : DSp := fun ds M Q => ∃ p a b ns, ds = [.ref p, .int a, .int b] ∧ M = [(p, .lst (ns.map .int))] ∧ Dr ns ∧ 1 ≤ a ∧ a ≤ 4 ∧ 1 ≤ b ∧ b ≤ 6 ∧
  ∀ (n : Nat) (L : List (List Int)) (ns' : List Int), Alph n L → (n : Int) ≤ a → (L.length : Int) ≤ b → Dr ns' → Q (.tup [.int n, .lst (L.map encL)]) [(p, .lst (ns'.map .int))]
theorem len_law_alphabet (A : Ads) : ∀ ds M Q, sp_law_alphabet A ds M Q → ds.length = 3 := by rintro _ _ _ ⟨_, _, _, _, rfl, _⟩; rfl
def sp_law_word (A : Ads) : DSp := fun ds M Q => ∃ p a b ns, ds = [.ref p, .int a, .int b] ∧ M = [(p, .lst (ns.map .int))] ∧ Dr ns ∧ 1 ≤ a ∧ 0 ≤ b ∧ b ≤ 1000 ∧
  ∀ w ns', (w.length : Int) ≤ b → (∀ x, x ∈ w → 0 ≤ x ∧ x < a) → Dr ns' → Q (encL w) [(p, .lst (ns'.map .int))]
theorem len_law_word (A : Ads) : ∀ ds M Q, sp_law_word A ds M Q → ds.length = 3 := by rintro _ _ _ ⟨_, _, _, _, rfl, _⟩; rfl
/-! ### the states of places -/
structure KD where
  f : List Int
  s : List (List Int)
  t : List (List (List Int))
instance : Inhabited KD := ⟨⟨[], [], []⟩⟩
abbrev encM (m : List (List Int)) : DV := .tup (m.map encL)
abbrev kn (A : Ads) (k : KD) : DV := .obj A.Known nsKnown [encL k.f, encM k.s, .tup (k.t.map encM)]
structure WfK (p : Nat) (k : KD) : Prop where
  f : k.f.length = p
  s : k.s.length = p
  s1 : ∀ r, r ∈ k.s → r.length = p
  t : k.t.length = p
  t1 : ∀ b, b ∈ k.t → b.length = p ∧ ∀ r, r ∈ b → r.length = p
def flat (k : KD) : List Int := k.f ++ k.s.flatten ++ (k.t.map List.flatten).flatten
def zeroK (p : Nat) : KD := ⟨List.replicate p 0, List.replicate p (List.replicate p 0), List.replicate p (List.replicate p (List.replicate p 0))⟩
abbrev encS (k : KD) : DV := encL (flat k)
/-- is a older than b at a place -/
def older (a b : KD) (pl : Nat) : Bool :=
  if a.f.getD pl 0 = b.f.getD pl 0 then false
  else if a.f.getD pl 0 = 0 ∨ b.f.getD pl 0 = 0 then decide (a.f.getD pl 0 = 0)
  else (List.range a.f.length).any fun o => decide (a.f.getD o 0 ≠ 0 ∧ a.f.getD o 0 ∈ b.f ∧ (a.s.getD o []).getD pl 0 = a.f.getD pl 0)
def hold (ks : List KD) (pl : Nat) : Nat → Nat
  | 0 => 0
  | i + 1 => if older (ks.getD (hold ks pl i) default) (ks.getD (i + 1) default) pl then i + 1 else hold ks pl i
def holder (ks : List KD) (pl : Nat) : KD := ks.getD (hold ks pl (ks.length - 1)) default
def metF (p : Nat) (there : List Int) (lab : Int) (ks : List KD) : List Int := (List.range p).map fun (pl : Nat) => if (pl : Int) ∈ there then lab else (holder ks pl).f.getD pl 0
def metS (p : Nat) (there : List Int) (lab : Int) (ks : List KD) : List (List Int) := (List.range p).map fun (pl : Nat) => if (pl : Int) ∈ there then metF p there lab ks else (holder ks pl).s.getD pl []
def metT (p : Nat) (there : List Int) (lab : Int) (ks : List KD) : List (List (List Int)) := (List.range p).map fun (pl : Nat) => if (pl : Int) ∈ there then metS p there lab ks else (holder ks pl).t.getD pl []
def metK (p : Nat) (there : List Int) (lab : Int) (ks : List KD) : KD := ⟨metF p there lab ks, metS p there lab ks, metT p there lab ks⟩
/-- a label that may be given -/
structure NewLab (ks : List KD) (e m lab : Int) : Prop where
  pos : 1 ≤ lab
  top : lab ≤ 9999
  cls : (lab - 1) % m = e
  new : ∀ k, k ∈ ks → lab ∉ flat k
def sp_Known__init_ (A : Ads) : DSp := fun ds M Q => ∃ x a b c, ds = [.ref x, a, b, c] ∧ M = [(x, .ins A.Known [] [])] ∧ Q .non [(x, .ins A.Known nsKnown [a, b, c])]
theorem len_Known__init_ (A : Ads) : ∀ ds M Q, sp_Known__init_ A ds M Q → ds.length = 4 := by rintro _ _ _ ⟨_, _, _, _, rfl, _⟩; rfl
def sp_Known_flat (A : Ads) : PSp := fun ds Q => ∃ p k, ds = [kn A k] ∧ WfK p k ∧ p ≤ 4 ∧ Q (encS k)
theorem len_Known_flat (A : Ads) : ∀ ds Q, sp_Known_flat A ds Q → ds.length = 1 := by rintro _ _ ⟨_, _, rfl, _⟩; rfl
def sp_size_of (A : Ads) : PSp := fun ds Q => ∃ p : Nat, ds = [.int p] ∧ p ≤ 4 ∧ Q (.int ((p + p * p + p * p * p : Nat) : Int))
theorem len_size_of (A : Ads) : ∀ ds Q, sp_size_of A ds Q → ds.length = 1 := by rintro _ _ ⟨_, rfl, _⟩; rfl
def sp_rows_of (A : Ads) : PSp := fun ds Q => ∃ (p : Nat) (rs : List (List Int)), ds = [encL rs.flatten, .int p] ∧ 1 ≤ p ∧ p ≤ 4 ∧ rs.length ≤ 4 ∧ (∀ r, r ∈ rs → r.length = p) ∧ Q (.lst (rs.map encL))
theorem len_rows_of (A : Ads) : ∀ ds Q, sp_rows_of A ds Q → ds.length = 2 := by rintro _ _ ⟨_, _, rfl, _⟩; rfl
def sp_known_of (A : Ads) : PSp := fun ds Q => ∃ (p : Nat) (k : KD), ds = [encS k, .int p] ∧ 1 ≤ p ∧ p ≤ 4 ∧ WfK p k ∧ Q (kn A k)
theorem len_known_of (A : Ads) : ∀ ds Q, sp_known_of A ds Q → ds.length = 2 := by rintro _ _ ⟨_, _, rfl, _⟩; rfl
def sp_first_known (A : Ads) : PSp := fun ds Q => ∃ p : Nat, ds = [.int p] ∧ 1 ≤ p ∧ p ≤ 4 ∧ Q (kn A (zeroK p))
theorem len_first_known (A : Ads) : ∀ ds Q, sp_first_known A ds Q → ds.length = 1 := by rintro _ _ ⟨_, rfl, _⟩; rfl
def sp_is_older (A : Ads) : PSp := fun ds Q => ∃ (p : Nat) (a b : KD) (pl : Nat), ds = [kn A a, kn A b, .int pl] ∧ p ≤ 4 ∧ WfK p a ∧ WfK p b ∧ pl < p ∧ Q (.bl (older a b pl))
theorem len_is_older (A : Ads) : ∀ ds Q, sp_is_older A ds Q → ds.length = 3 := by rintro _ _ ⟨_, _, _, _, rfl, _⟩; rfl
def sp_holder (A : Ads) : PSp := fun ds Q => ∃ (p : Nat) (ks : List KD) (pl : Nat), ds = [.lst (ks.map (kn A)), .int pl] ∧ p ≤ 4 ∧ 1 ≤ ks.length ∧ ks.length ≤ 4 ∧ (∀ k, k ∈ ks → WfK p k) ∧ pl < p ∧ Q (.int (hold ks pl (ks.length - 1) : Nat))
theorem len_holder (A : Ads) : ∀ ds Q, sp_holder A ds Q → ds.length = 2 := by rintro _ _ ⟨_, _, _, rfl, _⟩; rfl
def sp_fresh_label (A : Ads) : PSp := fun ds Q => ∃ (p : Nat) (ks : List KD) (e m : Int), ds = [.lst (ks.map (kn A)), .int e, .int m] ∧ p ≤ 4 ∧ ks.length ≤ 4 ∧ (∀ k, k ∈ ks → WfK p k) ∧ 0 ≤ e ∧ e < m ∧ m ≤ 6 ∧ ∀ lab, NewLab ks e m lab → Q (.int lab)
theorem len_fresh_label (A : Ads) : ∀ ds Q, sp_fresh_label A ds Q → ds.length = 3 := by rintro _ _ ⟨_, _, _, _, rfl, _⟩; rfl
def sp_met (A : Ads) : PSp := fun ds Q => ∃ (p : Nat) (ks : List KD) (e : Nat) (L : List (List Int)), ds = [.lst (ks.map (kn A)), .int e, alph A p L] ∧ Alph p L ∧ 1 ≤ ks.length ∧ ks.length ≤ 4 ∧ (∀ k, k ∈ ks → WfK p k) ∧ e < L.length ∧
  ∀ lab, NewLab ks e L.length lab → Q (kn A (metK p (L.getD e []) lab ks))
theorem len_met (A : Ads) : ∀ ds Q, sp_met A ds Q → ds.length = 3 := by rintro _ _ ⟨_, _, _, _, rfl, _⟩; rfl
abbrev news (A : Ads) (p : Nat) (L : List (List Int)) : DV := .obj A.News nsNews [alph A p L]
def sp_News__init_ (A : Ads) : DSp := fun ds M Q => ∃ x a, ds = [.ref x, a] ∧ M = [(x, .ins A.News [] [])] ∧ Q .non [(x, .ins A.News nsNews [a])]
theorem len_News__init_ (A : Ads) : ∀ ds M Q, sp_News__init_ A ds M Q → ds.length = 2 := by rintro _ _ _ ⟨_, _, rfl, _⟩; rfl
def sp_News_start (A : Ads) : PSp := fun ds Q => ∃ p L, ds = [news A p L] ∧ Alph p L ∧ Q (.tup ((List.replicate p (zeroK p)).map encS))
theorem len_News_start (A : Ads) : ∀ ds Q, sp_News_start A ds Q → ds.length = 1 := by rintro _ _ ⟨_, _, rfl, _⟩; rfl
def sp_News_meet (A : Ads) : PSp := fun ds Q => ∃ (p : Nat) (ks : List KD) (e : Nat) (L : List (List Int)), ds = [news A p L, .int e, .tup (ks.map encS)] ∧ Alph p L ∧ 1 ≤ ks.length ∧ ks.length ≤ 4 ∧ (∀ k, k ∈ ks → WfK p k) ∧ e < L.length ∧
  ∀ lab, NewLab ks e L.length lab → Q (.tup ((List.replicate ks.length (metK p (L.getD e []) lab ks)).map encS))
theorem len_News_meet (A : Ads) : ∀ ds Q, sp_News_meet A ds Q → ds.length = 3 := by rintro _ _ ⟨_, _, _, _, rfl, _⟩; rfl
def cmpK (a b : KD) (pl : Nat) : Int := if a.f.getD pl 0 = b.f.getD pl 0 then 0 else if older a b pl then -1 else 1
def sp_News_compare (A : Ads) : PSp := fun ds Q => ∃ (p : Nat) (L : List (List Int)) (a b : KD) (pl : Nat), ds = [news A p L, encS a, encS b, .int pl] ∧ Alph p L ∧ WfK p a ∧ WfK p b ∧ pl < p ∧ Q (.int (cmpK a b pl))
theorem len_News_compare (A : Ads) : ∀ ds Q, sp_News_compare A ds Q → ds.length = 4 := by rintro _ _ ⟨_, _, _, _, _, rfl, _⟩; rfl
def sp_law_is_integer (A : Ads) : PSp := fun ds Q => ∃ i, ds = [.int i] ∧ Q (.bl true)
theorem len_law_is_integer (A : Ads) : ∀ ds Q, sp_law_is_integer A ds Q → ds.length = 1 := by rintro _ _ ⟨_, rfl, _⟩; rfl
def sp_law_small_state (A : Ads) : PSp := fun ds Q => ∃ l, ds = [encL l, .int 300] ∧ l.length ≤ 300 ∧ (∀ x, x ∈ l → 0 ≤ x ∧ x ≤ 9999) ∧ Q (.bl true)
theorem len_law_small_state (A : Ads) : ∀ ds Q, sp_law_small_state A ds Q → ds.length = 2 := by rintro _ _ ⟨_, rfl, _⟩; rfl
def part (there : List Int) (st : List KD) : List KD := there.map fun pl => st.getD pl.toNat default
def meetS (p : Nat) (there : List Int) (lab : Int) (st : List KD) : List KD := (List.range p).map fun (pl : Nat) => if (pl : Int) ∈ there then metK p there lab (part there st) else st.getD pl default
def sp_law_meet (A : Ads) : PSp := fun ds Q => ∃ (p : Nat) (L : List (List Int)) (st : List KD) (e : Nat), ds = [news A p L, .lst (L.map encL), .lst (st.map encS), .int e] ∧ Alph p L ∧ st.length = p ∧ (∀ k, k ∈ st → WfK p k) ∧ e < L.length ∧
  ∀ lab, NewLab (part (L.getD e []) st) e L.length lab → Q (.lst ((meetS p (L.getD e []) lab st).map encS))
theorem len_law_meet (A : Ads) : ∀ ds Q, sp_law_meet A ds Q → ds.length = 4 := by rintro _ _ ⟨_, _, _, _, rfl, _⟩; rfl
def maxI : List Int → Int
  | [] => 0
  | [x] => x
  | x :: r => max x (maxI r)
def toldR (p : Nat) (there : List Int) (rows : List (List Int)) (num : Int) : List Int := (List.range p).map fun (o : Nat) => if (o : Int) ∈ there then num else maxI (there.map fun pl => (rows.getD pl.toNat []).getD o 0)
def toldS (p : Nat) (there : List Int) (rows : List (List Int)) (num : Int) : List (List Int) := (List.range p).map fun (pl : Nat) => if (pl : Int) ∈ there then toldR p there rows num else rows.getD pl []
abbrev encR (m : List (List Int)) : DV := .lst (m.map fun r => .lst (r.map DV.int))
def sp_law_told (A : Ads) : PSp := fun ds Q => ∃ (p : Nat) (L : List (List Int)) (rows : List (List Int)) (e : Nat) (num : Int), ds = [.int p, .lst (L.map encL), encR rows, .int e, .int num] ∧ Alph p L ∧ rows.length = p ∧ (∀ r, r ∈ rows → r.length = p) ∧ e < L.length ∧
  Q (encR (toldS p (L.getD e []) rows num))
theorem len_law_told (A : Ads) : ∀ ds Q, sp_law_told A ds Q → ds.length = 5 := by rintro _ _ ⟨_, _, _, _, _, rfl, _⟩; rfl
def sp_law_left_behind (A : Ads) : PSp := fun ds Q => ∃ (a b : Int), ds = [.int a, .int b] ∧ 0 ≤ a ∧ a < 3 ∧ 0 ≤ b ∧ b < 2 ∧ ∀ (p : Nat) (L : List (List Int)) (w w' : List Int), Alph p L → w = [0] → (w' = [1] ∨ w' = [3]) → 4 ≤ L.length → Q (.tup [.int p, .lst (L.map encL), encL w, encL w'])
theorem len_law_left_behind (A : Ads) : ∀ ds Q, sp_law_left_behind A ds Q → ds.length = 2 := by rintro _ _ ⟨_, _, rfl, _⟩; rfl
theorem u_take {A : Ads} {p : Addr} {k : Int} {ns : List Int} {M : Mem} {Q : DQ} {M2 : List Int → Mem} (hD : Dr ns) (hk : 0 < k) (hm : ∀ ns' : List Int, put M p (.lst (ns'.map .int)) = M2 ns') (h : ∀ z ns', 0 ≤ z → z < k → Dr ns' → Q (.int z) (M2 ns')) :
    call1 (sp_law_take A) [.ref p, .int k] p (.lst (ns.map .int)) M Q := ⟨p, k, ns, rfl, rfl, hD, hk, fun z ns' a b c => ⟨_, rfl, by rw [hm]; exact h z ns' a b c⟩⟩
theorem inc_len : ∀ {l : List Int} {a b : Int}, l.Pairwise (· < ·) → (∀ x, x ∈ l → a ≤ x ∧ x < b) → (l.length : Int) ≤ max 0 (b - a)
  | [], _, _, _, _ => by simp; omega
  | x :: r, a, b, h, hb => by
    have h1 := List.pairwise_cons.mp h
    have h2 := hb x List.mem_cons_self
    have := inc_len (a := x + 1) (b := b) h1.2 fun y hy => ⟨by have := h1.1 y hy; omega, (hb y (List.mem_cons_of_mem _ hy)).2⟩
    rw [List.length_cons]
    omega
theorem inc_fits {l : List Int} {k : Int} (h : l.Pairwise (· < ·)) (hb : ∀ x, x ∈ l → 0 ≤ x ∧ x < k) (hne : l ≠ []) : Fits l k := by
  refine ⟨hne, fun j hj => ?_⟩
  have hm : l.getD j 0 ∈ l := by rw [List.getD_eq_getElem?_getD, List.getElem?_eq_getElem hj]; exact List.getElem_mem hj
  refine ⟨(hb _ hm).1, (hb _ hm).2, fun h0 => ?_⟩
  have := List.pairwise_iff_getElem.mp h (j - 1) j (by omega) hj (by omega)
  simpa [List.getD_eq_getElem?_getD, hj, show j - 1 < l.length by omega] using this
theorem zero_wf (p : Nat) : WfK p (zeroK p) := by
  refine ⟨by simp [zeroK], by simp [zeroK], fun r hr => ?_, by simp [zeroK], fun b hb => ?_⟩
  · rw [(List.mem_replicate.mp hr).2]; simp
  · rw [(List.mem_replicate.mp hb).2]
    refine ⟨by simp, fun r hr => ?_⟩
    rw [(List.mem_replicate.mp hr).2]; simp
theorem zero_flat (p : Nat) : flat (zeroK p) = List.replicate (p + p * p + p * p * p) 0 := by
  unfold flat zeroK
  rw [List.map_replicate, flat_rep, flat_rep, List.replicate_append_replicate, List.replicate_append_replicate, Nat.mul_assoc]
theorem flat_small {p : Nat} {k : KD} (hk : WfK p k) (hp : p ≤ 4) : (flat k).length ≤ 84 := by
  have hpp : p * p ≤ 16 := Nat.mul_le_mul hp hp
  have h3 : p * (p * p) ≤ 64 := Nat.mul_le_mul hp hpp
  unfold flat
  rw [List.length_append, List.length_append, flat_len hk.s1, hk.s, hk.f, flat_len (p := p * p) fun r hr => ?_, List.length_map, hk.t]
  · omega
  · obtain ⟨b, hb, rfl⟩ := List.mem_map.mp hr
    have := hk.t1 b hb
    rw [flat_len this.2, this.1]
def above (x : Int) (l : List Int) : Nat := (l.filter fun y => decide (x ≤ y)).length
theorem above_le (x : Int) (l : List Int) : above x l ≤ l.length := List.length_filter_le ..
theorem above_lt {x m : Int} (hm : 0 < m) : ∀ {l : List Int}, x ∈ l → above (x + m) l < above x l
  | [], h => by simp at h
  | y :: l, h => by
    have le : ∀ l : List Int, above (x + m) l ≤ above x l := fun l => by
      induction l with
      | nil => exact Nat.le_refl _
      | cons z l ih =>
        unfold above at ih ⊢
        rw [List.filter_cons, List.filter_cons]
        by_cases e : x + m ≤ z
        · rw [if_pos (by simpa using e), if_pos (by simp; omega)]
          simp only [List.length_cons]; omega
        · rw [if_neg (by simpa using e)]
          split
          · simp only [List.length_cons]; omega
          · exact ih
    by_cases e : x = y
    · subst e
      unfold above
      rw [List.filter_cons, List.filter_cons, if_neg (by simp; omega), if_pos (by simp)]
      have := le l
      unfold above at this
      simp only [List.length_cons]; omega
    · have h1 := above_lt hm ((List.mem_cons.mp h).resolve_left e)
      unfold above at h1 ⊢
      rw [List.filter_cons, List.filter_cons]
      by_cases e2 : x + m ≤ y
      · rw [if_pos (by simpa using e2), if_pos (by simp; omega)]
        simp only [List.length_cons]; omega
      · rw [if_neg (by simpa using e2)]
        split
        · simp only [List.length_cons]; omega
        · exact h1
theorem holder_wf {p : Nat} {ks : List KD} (hk1 : 1 ≤ ks.length) (hw : ∀ k, k ∈ ks → WfK p k) (pl : Nat) : WfK p (holder ks pl) := by
  have h1 : ∀ i, hold ks pl i ≤ i := fun i => by
    induction i with
    | zero => exact Nat.le_refl _
    | succ i ih => unfold hold; split <;> omega
  have h2 := h1 (ks.length - 1)
  have h3 : hold ks pl (ks.length - 1) < ks.length := by omega
  unfold holder
  rw [List.getD_eq_getElem?_getD, List.getElem?_eq_getElem h3]
  exact hw _ (List.getElem_mem h3)
theorem getD_mem {α : Type} {l : List α} {i : Nat} {d : α} (h : i < l.length) : l.getD i d ∈ l := by
  rw [List.getD_eq_getElem?_getD, List.getElem?_eq_getElem h]
  exact List.getElem_mem h
theorem met_wf {p : Nat} {there : List Int} {lab : Int} {ks : List KD} (hA : 1 ≤ ks.length) (hw : ∀ k, k ∈ ks → WfK p k) : WfK p (metK p there lab ks) := by
  have hh := holder_wf hA hw
  have lF : (metF p there lab ks).length = p := by simp [metF]
  have lS : (metS p there lab ks).length = p := by simp [metS]
  have rS : ∀ r, r ∈ metS p there lab ks → r.length = p := fun r hr => by
    obtain ⟨pl, hpl, rfl⟩ := List.mem_map.mp hr
    split
    · exact lF
    · exact (hh pl).s1 _ (getD_mem (by rw [(hh pl).s]; exact List.mem_range.mp hpl))
  refine ⟨lF, lS, rS, by simp [metK, metT], fun b hb => ?_⟩
  obtain ⟨pl, hpl, rfl⟩ := List.mem_map.mp hb
  split
  · exact ⟨lS, rS⟩
  · exact (hh pl).t1 _ (getD_mem (by rw [(hh pl).t]; exact List.mem_range.mp hpl))
theorem fits_ge {l : List Int} {n : Int} (h : Fits l n) : ∀ j, j < l.length → (j : Int) ≤ l.getD j 0
  | 0, hj => (h.2 0 hj).1
  | j + 1, hj => by
    have h1 := fits_ge h j (by omega)
    have h2 := (h.2 (j + 1) hj).2.2 (by omega)
    rw [Nat.add_sub_cancel] at h2
    omega
theorem fits_len {l : List Int} {n : Nat} (h : Fits l n) : 1 ≤ l.length ∧ l.length ≤ n := by
  have h0 : 0 < l.length := List.length_pos_iff.mpr h.1
  have h1 := fits_ge h (l.length - 1) (by omega)
  have h2 := (h.2 (l.length - 1) (by omega)).2.1
  omega
theorem fits_in {l : List Int} {n : Nat} (h : Fits l n) {x : Int} (hx : x ∈ l) : 0 ≤ x ∧ x < n := by
  obtain ⟨j, hj, rfl⟩ := List.getElem_of_mem hx
  have := h.2 j hj
  rw [List.getD_eq_getElem?_getD, List.getElem?_eq_getElem hj] at this
  exact ⟨this.1, this.2.1⟩
theorem part_len {there : List Int} {st : List KD} : (part there st).length = there.length := by simp [part]
theorem part_wf {p : Nat} {there : List Int} {st : List KD} (ht : Fits there p) (hs : st.length = p) (hw : ∀ k, k ∈ st → WfK p k) : ∀ k, k ∈ part there st → WfK p k := fun k hk => by
  obtain ⟨pl, hpl, rfl⟩ := List.mem_map.mp hk
  have := fits_in ht hpl
  exact hw _ (getD_mem (by omega))
theorem maxI_spec : ∀ {l : List Int} {k : Int}, k ∈ l → (∀ y, y ∈ l → y ≤ k) → k = maxI l
  | [], _, h, _ => by simp at h
  | [x], k, h, _ => List.mem_singleton.mp h
  | x :: y :: r, k, h, hb => by
    have ex : maxI (x :: y :: r) = max x (maxI (y :: r)) := rfl
    rw [ex]
    have hm : maxI (y :: r) ∈ y :: r ∧ ∀ z, z ∈ y :: r → z ≤ maxI (y :: r) := by
      have : ∀ (l : List Int) (y : Int), maxI (y :: l) ∈ y :: l ∧ ∀ z, z ∈ y :: l → z ≤ maxI (y :: l) := by
        intro l
        induction l with
        | nil => intro y; refine ⟨by simp [maxI], fun z hz => ?_⟩; rw [List.mem_singleton] at hz; subst hz; exact Int.le_refl _
        | cons w l ih =>
          intro y
          have e2 : maxI (y :: w :: l) = max y (maxI (w :: l)) := rfl
          rw [e2]
          refine ⟨?_, fun z hz => ?_⟩
          · rcases Int.le_total y (maxI (w :: l)) with e | e
            · rw [Int.max_eq_right e]; exact List.mem_cons_of_mem _ (ih w).1
            · rw [Int.max_eq_left e]; exact List.mem_cons_self
          · rcases List.mem_cons.mp hz with rfl | hz
            · omega
            · have := (ih w).2 z hz; omega
      exact this r y
    have h1 := hb x List.mem_cons_self
    have h2 := hb _ (List.mem_cons_of_mem _ hm.1)
    rcases List.mem_cons.mp h with rfl | h
    · omega
    · have := hm.2 k h; omega
/-- a list over the places, changed at one place after the other -/
theorem put_places {α : Type} (p : Nat) (d K : α) (st : List α) (there : List Int) (hs : st.length = p) {i : Nat} {x : Int} (hi : there[i]? = some x) (h0 : 0 ≤ x) (h1 : x < p) :
    ((List.range p).map fun (pl : Nat) => if (pl : Int) ∈ there.take i then K else st.getD pl d).set x.toNat K = (List.range p).map fun (pl : Nat) => if (pl : Int) ∈ there.take (i + 1) then K else st.getD pl d := by
  apply List.ext_getElem
  · simp
  · intro j h2 h3
    simp at h2
    have ti := take_at hi
    simp only [List.getElem_set, List.getElem_map, List.getElem_range, ti, List.mem_append, List.mem_singleton]
    by_cases e : x.toNat = j
    · rw [if_pos e, if_pos (.inr (by omega))]
    · rw [if_neg e]
      by_cases m : (j : Int) ∈ there.take i
      · rw [if_pos m, if_pos (.inl m)]
      · rw [if_neg m, if_neg (fun z => z.elim m (by omega))]
theorem u_word {A : Ads} {p : Addr} {a b : Int} {ns : List Int} {M : Mem} {Q : DQ} {M2 : List Int → Mem} (hD : Dr ns) (ha : 1 ≤ a) (hb : 0 ≤ b) (hb2 : b ≤ 1000) (hm : ∀ ns' : List Int, put M p (.lst (ns'.map .int)) = M2 ns') (h : ∀ w ns', (w.length : Int) ≤ b → (∀ x, x ∈ w → 0 ≤ x ∧ x < a) → Dr ns' → Q (encL w) (M2 ns')) :
    call1 (sp_law_word A) [.ref p, .int a, .int b] p (.lst (ns.map .int)) M Q := ⟨p, a, b, ns, rfl, rfl, hD, ha, hb, hb2, fun w ns' x y z => ⟨_, rfl, by rw [hm]; exact h w ns' x y z⟩⟩
theorem u_alphabet {A : Ads} {p : Addr} {a b : Int} {ns : List Int} {M : Mem} {Q : DQ} {M2 : List Int → Mem} (hD : Dr ns) (ha : 1 ≤ a) (ha2 : a ≤ 4) (hb : 1 ≤ b) (hb2 : b ≤ 6) (hm : ∀ ns' : List Int, put M p (.lst (ns'.map .int)) = M2 ns') (h : ∀ (n : Nat) (L : List (List Int)) ns', Alph n L → (n : Int) ≤ a → (L.length : Int) ≤ b → Dr ns' → Q (.tup [.int n, .lst (L.map encL)]) (M2 ns')) :
    call1 (sp_law_alphabet A) [.ref p, .int a, .int b] p (.lst (ns.map .int)) M Q := ⟨p, a, b, ns, rfl, rfl, hD, ha, ha2, hb, hb2, fun n L ns' x y z w => ⟨_, rfl, by rw [hm]; exact h n L ns' x y z w⟩⟩
theorem u_draws {A : Ads} {sc : List Int} {k : Int} {Q : DQ} (hsc : sc.length ≤ 63) (h0 : 0 ≤ k) (h1 : k ≤ 1000) (h : ∀ (p : Addr) (ns : List Int), Dr ns → Q (.ref p) [(p, .lst (ns.map .int))]) :
    ∃ Ms : Mem, (∀ a o, get Ms a = some o → get [] a = some o) ∧ sp_law_draws A [.scr sc, .int k] Ms fun d M2 => Q d (M2 ++ rest [] Ms) := ⟨[], fun _ _ h => h, sc, k, rfl, rfl, hsc, h0, h1, h⟩
/-- Known.__init__ -/
def c_Known__init_ (A : Ads) : DTS := (dSeq (dSetF A.Known [] ["first"] none (dVar 0) (dVar 1))
    (dSeq (dSetF A.Known ["first"] ["first", "second"] none (dVar 0) (dVar 2))
    (dSetF A.Known ["first", "second"] nsKnown none (dVar 0) (dVar 3))))
/-- Known.flat -/
def c_Known_flat (A : Ads) : DTS := (dSeq (dSet 1 (dCB (dList true) (dCons (dUn (dFld A.Known nsKnown 0) (dVar 0)) dNil)))
    (dSeq (dFor (dSeqI (dUn (dFld A.Known nsKnown 1) (dVar 0))) (dgName 2) (dDrop (dBM mExtend (dVar 1) (dCons (dVar 2) dNil))))
    (dSeq (dFor (dSeqI (dUn (dFld A.Known nsKnown 2) (dVar 0))) (dgName 3) (dFor (dSeqI (dVar 3)) (dgName 2) (dDrop (dBM mExtend (dVar 1) (dCons (dVar 2) dNil)))))
    (dRet (dCB dTuple (dCons (dVar 1) dNil))))))
/-- size_of -/
def c_size_of (A : Ads) : DTS := (dRet (dOp (dAdd false) (dOp (dAdd false) (dVar 0) (dOp (dMul false) (dVar 0) (dVar 0))) (dOp (dMul false) (dOp (dMul false) (dVar 0) (dVar 0)) (dVar 0))))
/-- rows_of -/
def c_rows_of (A : Ads) : DTS := (dRet (dLc false (dRng3 (dCons (dC (.int 0)) (dCons (dCB dLen (dCons (dVar 0) dNil)) (dCons (dVar 1) dNil)))) (bdName 2) dYes (dCB dTuple (dCons (dSl false (dVar 0) (dPart (dVar 2)) (dPart (dOp (dAdd false) (dVar 2) (dVar 1)))) dNil)) [2]))
/-- known_of -/
def c_known_of (A : Ads) : DTS := (dSeq (dSet 2 (dOp (dMul false) (dVar 1) (dVar 1)))
    (dSeq (dSet 3 (dCB dTuple (dCons (dSl false (dVar 0) dNoPart (dPart (dVar 1))) dNil)))
    (dSeq (dSet 4 (dCB dTuple (dCons (dCall (sp_rows_of A) (dCons (dSl false (dVar 0) (dPart (dVar 1)) (dPart (dOp (dAdd false) (dVar 1) (dVar 2)))) (dCons (dVar 1) dNil))) dNil)))
    (dSeq (dSet 5 (dLst true dNil))
    (dSeq (dFor (dRng1 (dCons (dVar 1) dNil)) (dgName 6) (dSeq (dSet 7 (dOp (dAdd false) (dOp (dAdd false) (dVar 1) (dVar 2)) (dOp (dMul false) (dVar 6) (dVar 2))))
    (dDrop (dBM mAppend (dVar 5) (dCons (dCB dTuple (dCons (dCall (sp_rows_of A) (dCons (dSl false (dVar 0) (dPart (dVar 7)) (dPart (dOp (dAdd false) (dVar 7) (dVar 2)))) (dCons (dVar 1) dNil))) dNil)) dNil)))))
    (dRet (dMake A.Known (sp_Known__init_ A) (dCons (dVar 3) (dCons (dVar 4) (dCons (dCB dTuple (dCons (dVar 5) dNil)) dNil))))))))))
/-- first_known -/
def c_first_known (A : Ads) : DTS := (dRet (dCall (sp_known_of A) (dCons (dOp (dMul false) (dTup (dCons (dC (.int 0)) dNil)) (dCall (sp_size_of A) (dCons (dVar 0) dNil))) (dCons (dVar 0) dNil))))
/-- is_older -/
def c_is_older (A : Ads) : DTS := (dSeq (dSet 3 (dOp dIx (dUn (dFld A.Known nsKnown 0) (dVar 0)) (dVar 2)))
    (dSeq (dIfS (dB (dOp (dEqB false) (dVar 3) (dOp dIx (dUn (dFld A.Known nsKnown 0) (dVar 1)) (dVar 2)))) (dRet (dC (.bl false))) dNext)
    (dSeq (dIfS (dtOr (dB (dOp (dEqB false) (dVar 3) (dC (.int 0)))) (dB (dOp (dEqB false) (dOp dIx (dUn (dFld A.Known nsKnown 0) (dVar 1)) (dVar 2)) (dC (.int 0))))) (dRet (dOp (dEqB false) (dVar 3) (dC (.int 0)))) dNext)
    (dSeq (dFor (dRng1 (dCons (dCB dLen (dCons (dUn (dFld A.Known nsKnown 0) (dVar 0)) dNil)) dNil)) (dgName 4) (dIfS (dtAnd (dB (dOp (dEqB true) (dOp dIx (dUn (dFld A.Known nsKnown 0) (dVar 0)) (dVar 4)) (dC (.int 0)))) (dtAnd (dB (dOp (dInB false) (dOp dIx (dUn (dFld A.Known nsKnown 0) (dVar 0)) (dVar 4)) (dUn (dFld A.Known nsKnown 0) (dVar 1)))) (dB (dOp (dEqB false) (dOp dIx (dOp dIx (dUn (dFld A.Known nsKnown 1) (dVar 0)) (dVar 4)) (dVar 2)) (dVar 3))))) (dRet (dC (.bl true))) dNext))
    (dRet (dC (.bl false)))))))
/-- holder -/
def c_holder (A : Ads) : DTS := (dSeq (dSet 2 (dC (.int 0)))
    (dSeq (dFor (dRng2 (dCons (dC (.int 1)) (dCons (dCB dLen (dCons (dVar 0) dNil)) dNil))) (dgName 3) (dIfS (dB (dCall (sp_is_older A) (dCons (dOp dIx (dVar 0) (dVar 2)) (dCons (dOp dIx (dVar 0) (dVar 3)) (dCons (dVar 1) dNil))))) (dSet 2 (dVar 3)) dNext))
    (dRet (dVar 2))))
/-- fresh_label -/
def c_fresh_label (A : Ads) : DTS := (dSeq (dSet 3 dNewDK)
    (dSeq (dFor (dSeqI (dVar 0)) (dgName 4) (dFor (dSeqI (dMeth A.Known nsKnown (sp_Known_flat A) (dVar 4) dNil)) (dgName 5) (dAsg (dC (.bl true)) (dgSub (dVar 3) (dVar 5)))))
    (dSeq (dSet 5 (dOp (dAdd false) (dC (.int 1)) (dVar 1)))
    (dSeq (dWhile (dB (dOp (dInB false) (dVar 5) (dVar 3))) (dAug 5 (fun i j => i + j) (dVar 2)))
    (dRet (dVar 5))))))
/-- met -/
def c_met (A : Ads) : DTS := (dSeq (dSet 3 (dOp dIx (dUn (dFld A.Alphabet nsAlphabet 1) (dVar 2)) (dVar 1)))
    (dSeq (dSet 4 (dCall (sp_fresh_label A) (dCons (dVar 0) (dCons (dVar 1) (dCons (dCB dLen (dCons (dUn (dFld A.Alphabet nsAlphabet 1) (dVar 2)) dNil)) dNil)))))
    (dSeq (dSet 5 (dLc false (dRng1 (dCons (dUn (dFld A.Alphabet nsAlphabet 0) (dVar 2)) dNil)) (bdName 7) dYes (dCall (sp_holder A) (dCons (dVar 0) (dCons (dVar 7) dNil))) [7]))
    (dSeq (dSet 6 (dLst true dNil))
    (dSeq (dFor (dRng1 (dCons (dUn (dFld A.Alphabet nsAlphabet 0) (dVar 2)) dNil)) (dgName 7) (dIfS (dB (dOp (dInB false) (dVar 7) (dVar 3))) (dDrop (dBM mAppend (dVar 6) (dCons (dVar 4) dNil))) (dDrop (dBM mAppend (dVar 6) (dCons (dOp dIx (dUn (dFld A.Known nsKnown 0) (dOp dIx (dVar 0) (dOp dIx (dVar 5) (dVar 7)))) (dVar 7)) dNil)))))
    (dSeq (dSet 8 (dLst true dNil))
    (dSeq (dFor (dRng1 (dCons (dUn (dFld A.Alphabet nsAlphabet 0) (dVar 2)) dNil)) (dgName 7) (dIfS (dB (dOp (dInB false) (dVar 7) (dVar 3))) (dDrop (dBM mAppend (dVar 8) (dCons (dCB dTuple (dCons (dVar 6) dNil)) dNil))) (dDrop (dBM mAppend (dVar 8) (dCons (dOp dIx (dUn (dFld A.Known nsKnown 1) (dOp dIx (dVar 0) (dOp dIx (dVar 5) (dVar 7)))) (dVar 7)) dNil)))))
    (dSeq (dSet 9 (dLst true dNil))
    (dSeq (dFor (dRng1 (dCons (dUn (dFld A.Alphabet nsAlphabet 0) (dVar 2)) dNil)) (dgName 7) (dIfS (dB (dOp (dInB false) (dVar 7) (dVar 3))) (dDrop (dBM mAppend (dVar 9) (dCons (dCB dTuple (dCons (dVar 8) dNil)) dNil))) (dDrop (dBM mAppend (dVar 9) (dCons (dOp dIx (dUn (dFld A.Known nsKnown 2) (dOp dIx (dVar 0) (dOp dIx (dVar 5) (dVar 7)))) (dVar 7)) dNil)))))
    (dRet (dMake A.Known (sp_Known__init_ A) (dCons (dCB dTuple (dCons (dVar 6) dNil)) (dCons (dCB dTuple (dCons (dVar 8) dNil)) (dCons (dCB dTuple (dCons (dVar 9) dNil)) dNil))))))))))))))
/-- News.__init__ -/
def c_News__init_ (A : Ads) : DTS := (dSetF A.News [] nsNews none (dVar 0) (dVar 1))
/-- News.start -/
def c_News_start (A : Ads) : DTS := (dRet (dOp (dMul false) (dTup (dCons (dMeth A.Known nsKnown (sp_Known_flat A) (dCall (sp_first_known A) (dCons (dUn (dFld A.Alphabet nsAlphabet 0) (dUn (dFld A.News nsNews 0) (dVar 0))) dNil)) dNil) dNil)) (dUn (dFld A.Alphabet nsAlphabet 0) (dUn (dFld A.News nsNews 0) (dVar 0)))))
/-- News.meet -/
def c_News_meet (A : Ads) : DTS := (dSeq (dSet 3 (dLc false (dSeqI (dVar 2)) (bdName 4) dYes (dCall (sp_known_of A) (dCons (dVar 4) (dCons (dUn (dFld A.Alphabet nsAlphabet 0) (dUn (dFld A.News nsNews 0) (dVar 0))) dNil))) [4]))
    (dRet (dOp (dMul false) (dTup (dCons (dMeth A.Known nsKnown (sp_Known_flat A) (dCall (sp_met A) (dCons (dVar 3) (dCons (dVar 1) (dCons (dUn (dFld A.News nsNews 0) (dVar 0)) dNil)))) dNil) dNil)) (dCB dLen (dCons (dVar 2) dNil)))))
/-- News.compare -/
def c_News_compare (A : Ads) : DTS := (dSeq (dSet 4 (dCall (sp_known_of A) (dCons (dVar 1) (dCons (dUn (dFld A.Alphabet nsAlphabet 0) (dUn (dFld A.News nsNews 0) (dVar 0))) dNil))))
    (dSeq (dSet 5 (dCall (sp_known_of A) (dCons (dVar 2) (dCons (dUn (dFld A.Alphabet nsAlphabet 0) (dUn (dFld A.News nsNews 0) (dVar 0))) dNil))))
    (dSeq (dIfS (dB (dOp (dEqB false) (dOp dIx (dUn (dFld A.Known nsKnown 0) (dVar 4)) (dVar 3)) (dOp dIx (dUn (dFld A.Known nsKnown 0) (dVar 5)) (dVar 3)))) (dRet (dC (.int 0))) dNext)
    (dSeq (dIfS (dB (dCall (sp_is_older A) (dCons (dVar 4) (dCons (dVar 5) (dCons (dVar 3) dNil))))) (dRet (dUn dNeg (dC (.int 1)))) dNext)
    (dRet (dC (.int 1)))))))
/-- fits -/
def c_fits (A : Ads) : DTS := (dSeq (dIfS (dB (dOp (dEqB false) (dCB dLen (dCons (dVar 0) dNil)) (dC (.int 0)))) (dRet (dC (.bl false))) dNext)
    (dSeq (dFor (dRng1 (dCons (dCB dLen (dCons (dVar 0) dNil)) dNil)) (dgName 2) (dIfS (dtOr (dB (dOp dLt (dOp dIx (dVar 0) (dVar 2)) (dC (.int 0)))) (dtOr (dB (dOp dGe (dOp dIx (dVar 0) (dVar 2)) (dVar 1))) (dtAnd (dB (dOp dGt (dVar 2) (dC (.int 0)))) (dB (dOp dLe (dOp dIx (dVar 0) (dVar 2)) (dOp dIx (dVar 0) (dOp dSub (dVar 2) (dC (.int 1))))))))) (dRet (dC (.bl false))) dNext))
    (dRet (dC (.bl true)))))
/-- Alphabet.__init__ -/
def c_Alphabet__init_ (A : Ads) : DTS := (dSeq (dSet 3 (dAnd (dChain (fun i j => decide (i ≤ j)) (fun i j => decide (i ≤ j)) (dC (.int 1)) (dVar 1) (dC (.int 4))) (dChain (fun i j => decide (i ≤ j)) (fun i j => decide (i ≤ j)) (dC (.int 1)) (dCB dLen (dCons (dVar 2) dNil)) (dC (.int 6)))))
    (dSeq (dFor (dSeqI (dVar 2)) (dgName 4) (dSet 3 (dAnd (dVar 3) (dCall (sp_fits A) (dCons (dVar 4) (dCons (dVar 1) dNil))))))
    (dSeq (dIfS (dtNot (dB (dVar 3))) dNever dNext)
    (dSeq (dSetF A.Alphabet [] ["places"] none (dVar 0) (dVar 1))
    (dSetF A.Alphabet ["places"] nsAlphabet none (dVar 0) (dCB dTuple (dCons (dLc false (dSeqI (dVar 2)) (bdName 4) dYes (dCB dTuple (dCons (dVar 4) dNil)) [4]) dNil)))))))
/-- _law_draws -/
def c_law_draws (A : Ads) : DTS := (dSeq (dSet 2 (dCB (dList true) (dCons (dVar 0) dNil)))
    (dSeq (dIfS (dB (dOp (dEqB false) (dCB dLen (dCons (dVar 2) dNil)) (dC (.int 0)))) (dSet 2 (dLst true (dCons (dC (.int 7)) dNil))) dNext)
    (dSeq (dSet 3 (dLst true dNil))
    (dSeq (dSet 4 (dC (.int 12345)))
    (dSeq (dFor (dRng1 (dCons (dVar 1) dNil)) (dgName 5) (dSeq (dSet 6 (dOp dMod (dVar 5) (dCB dLen (dCons (dVar 2) dNil))))
    (dSeq (dSet 7 (dOp dIx (dVar 2) (dVar 6)))
    (dSeq (dSet 4 (dOp dMod (dCB dInt (dCons (dOp (dAdd false) (dOp (dAdd false) (dOp (dAdd false) (dOp (dMul false) (dVar 4) (dC (.int 48271))) (dOp (dMul false) (dOp dMod (dCB dInt (dCons (dVar 7) dNil)) (dC (.int 1000003))) (dC (.int 69621)))) (dOp (dMul false) (dVar 5) (dC (.int 7919)))) (dC (.int 11))) dNil)) (dC (.int 2147483647))))
    (dSeq (dSet 8 (dOp dMod (dCB dInt (dCons (dOp (dAdd false) (dOp (dAdd false) (dOp (dMul false) (dVar 4) (dVar 4)) (dOp (dMul false) (dC (.int 31)) (dVar 4))) (dVar 5)) dNil)) (dC (.int 1000003))))
    (dIfS (dB (dOp dGe (dVar 7) (dOp dPow (dC (.int 10)) (dC (.int 18))))) (dSeq (dDrop (dBM mAppend (dVar 3) (dCons (dOp dMod (dCB dInt (dCons (dVar 7) dNil)) (dC (.int 1000))) dNil)))
    (dAsg (dOp dDiv (dVar 7) (dC (.int 1000))) (dgSub (dVar 2) (dVar 6)))) (dDrop (dBM mAppend (dVar 3) (dCons (dOp dMod (dCB dInt (dCons (dVar 8) dNil)) (dC (.int 1000))) dNil)))))))))
    (dSeq (dDrop (dBM mReverse (dVar 3) dNil))
    (dRet (dVar 3))))))))
/-- _law_take -/
def c_law_take (A : Ads) : DTS := (dSeq (dIfS (dB (dOp (dEqB false) (dCB dLen (dCons (dVar 0) dNil)) (dC (.int 0)))) (dRet (dC (.int 0))) dNext)
    (dRet (dOp dMod (dCB dInt (dCons (dBM mPop (dVar 0) dNil) dNil)) (dVar 1))))
/-- _law_is_integer -/
def c_law_is_integer (A : Ads) : DTS := (dRet (dAnd (dCB dIsi (dCons (dVar 0) (dCons (dC (.ty "int")) dNil))) (dUn dNot (dCB dIsi (dCons (dVar 0) (dCons (dC (.ty "bool")) dNil))))))
/-- _law_alphabet -/
def c_law_alphabet (A : Ads) : DTS := (dSeq (dSet 3 (dOp (dAdd false) (dC (.int 1)) (dCall1 (sp_law_take A) (dCons (dVar 0) (dCons (dVar 1) dNil)))))
    (dSeq (dSet 4 (dLst true dNil))
    (dSeq (dFor (dRng1 (dCons (dOp (dAdd false) (dC (.int 1)) (dCall1 (sp_law_take A) (dCons (dVar 0) (dCons (dVar 2) dNil)))) dNil)) (dgName 5) (dSeq (dSet 6 (dOp dIx (dLst false (dCons (dC (.int 1)) (dCons (dC (.int 1)) (dCons (dC (.int 1)) (dCons (dC (.int 2)) (dCons (dC (.int 3)) (dCons (dC (.int 6)) dNil))))))) (dCall1 (sp_law_take A) (dCons (dVar 0) (dCons (dC (.int 6)) dNil)))))
    (dSeq (dSet 7 (dLc false (dRng1 (dCons (dVar 6) dNil)) (bdName 8) dYes (dCall1 (sp_law_take A) (dCons (dVar 0) (dCons (dVar 3) dNil))) [8]))
    (dDrop (dBM mAppend (dVar 4) (dCons (dCB dTuple (dCons (dSortedSet false (dVar 7)) dNil)) dNil))))))
    (dRet (dTup (dCons (dVar 3) (dCons (dFrz (dVar 4)) dNil)))))))
/-- _law_word -/
def c_law_word (A : Ads) : DTS := (dRet (dCB dTuple (dCons (dLc false (dRng1 (dCons (dCall1 (sp_law_take A) (dCons (dVar 0) (dCons (dOp (dAdd false) (dVar 2) (dC (.int 1))) dNil))) dNil)) (bdName 3) dYes (dCall1 (sp_law_take A) (dCons (dVar 0) (dCons (dVar 1) dNil))) [3]) dNil)))
/-- _law_small_state -/
def c_law_small_state (A : Ads) : DTS := (dSeq (dIfS (dtOr (dtNot (dB (dCB dIsi (dCons (dVar 0) (dCons (dC (.ty "tuple")) dNil))))) (dB (dOp dGt (dCB dLen (dCons (dVar 0) dNil)) (dVar 1)))) (dRet (dC (.bl false))) dNext)
    (dSeq (dFor (dSeqI (dVar 0)) (dgName 2) (dIfS (dtOr (dtNot (dB (dCall (sp_law_is_integer A) (dCons (dVar 2) dNil)))) (dtOr (dB (dOp dLt (dVar 2) (dC (.int 0)))) (dB (dOp dGt (dVar 2) (dC (.int 9999)))))) (dRet (dC (.bl false))) dNext))
    (dRet (dC (.bl true)))))
/-- _law_meet -/
def c_law_meet (A : Ads) : DTS := (dSeq (dSet 4 (dOp dIx (dVar 1) (dVar 3)))
    (dSeq (dSet 5 (dMeth A.News nsNews (sp_News_meet A) (dVar 0) (dCons (dVar 3) (dCons (dCB dTuple (dCons (dLc false (dSeqI (dVar 4)) (bdName 8) dYes (dOp dIx (dVar 2) (dVar 8)) [8]) dNil)) dNil))))
    (dSeq (dIfS (dtOr (dtNot (dB (dCB dIsi (dCons (dVar 5) (dCons (dC (.ty "tuple")) dNil))))) (dB (dOp (dEqB true) (dCB dLen (dCons (dVar 5) dNil)) (dCB dLen (dCons (dVar 4) dNil))))) (dRet (dC .non)) dNext)
    (dSeq (dSet 6 (dCB (dList true) (dCons (dVar 2) dNil)))
    (dSeq (dFor (dRng1 (dCons (dCB dLen (dCons (dVar 4) dNil)) dNil)) (dgName 7) (dSeq (dSet 8 (dOp dIx (dVar 4) (dVar 7)))
    (dAsg (dOp dIx (dVar 5) (dVar 7)) (dgSub (dVar 6) (dVar 8)))))
    (dRet (dFrz (dVar 6))))))))
/-- _law_told -/
def c_law_told (A : Ads) : DTS := (dSeq (dSet 5 (dOp dIx (dVar 1) (dVar 3)))
    (dSeq (dSet 6 (dLc true (dRng1 (dCons (dVar 0) dNil)) (bdName 8) dYes (dCB dMax (dCons (dLc false (dSeqI (dVar 5)) (bdName 7) dYes (dOp dIx (dOp dIx (dVar 2) (dVar 7)) (dVar 8)) [7]) dNil)) [8]))
    (dSeq (dFor (dSeqI (dVar 5)) (dgName 7) (dAsg (dVar 4) (dgSub (dVar 6) (dVar 7))))
    (dRet (dLc false (dRng1 (dCons (dVar 0) dNil)) (bdName 7) dYes (dIf (dB (dOp (dInB false) (dVar 7) (dVar 5))) (dCB (dList false) (dCons (dVar 6) dNil)) (dOp dIx (dVar 2) (dVar 7))) [7])))))
/-- _law_left_behind -/
def c_law_left_behind (A : Ads) : DTS := (dSeq (dSet 2 (dSl false (dLst false (dCons (dTup (dCons (dC (.int 0)) (dCons (dC (.int 1)) dNil))) (dCons (dTup (dCons (dC (.int 1)) dNil)) (dCons (dTup (dCons (dC (.int 0)) dNil)) (dCons (dTup (dCons (dC (.int 1)) (dCons (dC (.int 2)) dNil))) (dCons (dTup (dCons (dC (.int 0)) (dCons (dC (.int 1)) (dCons (dC (.int 2)) dNil)))) (dCons (dTup (dCons (dC (.int 0)) (dCons (dC (.int 1)) (dCons (dC (.int 2)) (dCons (dC (.int 3)) dNil))))) dNil))))))) dNoPart (dPart (dOp (dAdd false) (dC (.int 4)) (dVar 0)))))
    (dSeq (dSet 3 (dOp (dAdd false) (dC (.int 3)) (dCB dInt (dCons (dOp dGt (dVar 0) (dC (.int 1))) dNil))))
    (dRet (dTup (dCons (dVar 3) (dCons (dVar 2) (dCons (dTup (dCons (dC (.int 0)) dNil)) (dCons (dIf (dB (dOp (dEqB false) (dVar 1) (dC (.int 0)))) (dTup (dCons (dC (.int 1)) dNil)) (dTup (dCons (dC (.int 3)) dNil))) dNil))))))))
/-- law -/
def c_law (A : Ads) : DTS := (dSeq (dSet 1 (dCallG (sp_law_draws A) (dCons (dVar 0) (dCons (dC (.int 70)) dNil))))
    (dSeq (dAsg (dCall1 (sp_law_alphabet A) (dCons (dVar 1) (dCons (dC (.int 4)) (dCons (dC (.int 6)) dNil)))) (dgTup 2 (dgCons (dgName 2) (dgCons (dgName 3) dgNil))))
    (dSeq (dSet 4 (dMake A.News (sp_News__init_ A) (dCons (dMake A.Alphabet (sp_Alphabet__init_ A) (dCons (dVar 2) (dCons (dCB (dList false) (dCons (dVar 3) dNil)) dNil))) dNil)))
    (dSeq (dSet 5 (dCB (dList false) (dCons (dMeth A.News nsNews (sp_News_start A) (dVar 4) dNil) dNil)))
    (dSeq (dSet 6 (dOp (dAdd false) (dCall1 (sp_law_word A) (dCons (dVar 1) (dCons (dCB dLen (dCons (dVar 3) dNil)) (dCons (dC (.int 5)) dNil)))) (dTup (dCons (dCall1 (sp_law_take A) (dCons (dVar 1) (dCons (dCB dLen (dCons (dVar 3) dNil)) dNil))) dNil))))
    (dSeq (dSet 7 (dOp dIx (dLst false (dCons (dC (.int 20)) (dCons (dC (.int 340)) dNil))) (dCall1 (sp_law_take A) (dCons (dVar 1) (dCons (dC (.int 2)) dNil)))))
    (dSeq (dIfS (dtAnd (dB (dOp dLt (dVar 2) (dC (.int 3)))) (dB (dOp (dEqB false) (dCall1 (sp_law_take A) (dCons (dVar 1) (dCons (dC (.int 6)) dNil))) (dC (.int 0))))) (dSet 7 (dC (.int 10050))) dNext)
    (dSeq (dSet 8 (dCall1 (sp_law_word A) (dCons (dVar 1) (dCons (dCB dLen (dCons (dVar 3) dNil)) (dCons (dC (.int 6)) dNil)))))
    (dSeq (dIfS (dB (dOp (dEqB false) (dCall1 (sp_law_take A) (dCons (dVar 1) (dCons (dC (.int 24)) dNil))) (dC (.int 0)))) (dSeq (dAsg (dCall (sp_law_left_behind A) (dCons (dCall1 (sp_law_take A) (dCons (dVar 1) (dCons (dC (.int 3)) dNil))) (dCons (dCall1 (sp_law_take A) (dCons (dVar 1) (dCons (dC (.int 2)) dNil))) dNil))) (dgTup 4 (dgCons (dgName 2) (dgCons (dgName 3) (dgCons (dgName 8) (dgCons (dgName 6) dgNil))))))
    (dSeq (dSet 4 (dMake A.News (sp_News__init_ A) (dCons (dMake A.Alphabet (sp_Alphabet__init_ A) (dCons (dVar 2) (dCons (dCB (dList false) (dCons (dVar 3) dNil)) dNil))) dNil)))
    (dSeq (dSet 5 (dCB (dList false) (dCons (dMeth A.News nsNews (sp_News_start A) (dVar 4) dNil) dNil)))
    (dSet 7 (dOp dIx (dLst false (dCons (dC (.int 4990)) (dCons (dC (.int 5010)) (dCons (dC (.int 10050)) dNil)))) (dCall1 (sp_law_take A) (dCons (dVar 1) (dCons (dC (.int 3)) dNil)))))))) dNext)
    (dSeq (dSet 9 (dOp (dAdd false) (dOp (dAdd false) (dVar 8) (dSl false (dOp (dMul false) (dVar 6) (dVar 7)) dNoPart (dPart (dVar 7)))) (dCall1 (sp_law_word A) (dCons (dVar 1) (dCons (dCB dLen (dCons (dVar 3) dNil)) (dCons (dC (.int 6)) dNil))))))
    (dSeq (dSet 10 (dLc false (dRng1 (dCons (dVar 2) dNil)) (bdName 14) dYes (dOp (dMul false) (dLst false (dCons (dC (.int 0)) dNil)) (dVar 2)) [14]))
    (dSeq (dFor (dRng1 (dCons (dCB dLen (dCons (dVar 9) dNil)) dNil)) (dgName 11) (dSeq (dSet 5 (dCall (sp_law_meet A) (dCons (dVar 4) (dCons (dVar 3) (dCons (dVar 5) (dCons (dOp dIx (dVar 9) (dVar 11)) dNil))))))
    (dSeq (dIfS (dB (dOp (dIsB false) (dVar 5) (dC .non))) (dRet (dC (.bl false))) dNext)
    (dSet 10 (dCall (sp_law_told A) (dCons (dVar 2) (dCons (dVar 3) (dCons (dVar 10) (dCons (dOp dIx (dVar 9) (dVar 11)) (dCons (dOp (dAdd false) (dVar 11) (dC (.int 1))) dNil))))))))))
    (dSeq (dFor (dRng1 (dCons (dVar 2) dNil)) (dgName 12) (dSeq (dIfS (dtNot (dB (dCall (sp_law_small_state A) (dCons (dOp dIx (dVar 5) (dVar 12)) (dCons (dC (.int 300)) dNil))))) (dRet (dC (.bl false))) dNext)
    (dFor (dRng1 (dCons (dVar 2) dNil)) (dgName 13) (dFor (dRng1 (dCons (dVar 2) dNil)) (dgName 14) (dSeq (dSet 15 (dOp dSub (dCB dInt (dCons (dOp dGt (dOp dIx (dOp dIx (dVar 10) (dVar 12)) (dVar 14)) (dOp dIx (dOp dIx (dVar 10) (dVar 13)) (dVar 14))) dNil)) (dCB dInt (dCons (dOp dLt (dOp dIx (dOp dIx (dVar 10) (dVar 12)) (dVar 14)) (dOp dIx (dOp dIx (dVar 10) (dVar 13)) (dVar 14))) dNil))))
    (dIfS (dB (dOp (dEqB true) (dMeth A.News nsNews (sp_News_compare A) (dVar 4) (dCons (dOp dIx (dVar 5) (dVar 12)) (dCons (dOp dIx (dVar 5) (dVar 13)) (dCons (dVar 14) dNil)))) (dVar 15))) (dRet (dC (.bl false))) dNext))))))
    (dRet (dC (.bl true))))))))))))))))
local macro_rules | `(tactic| walk_at "ne") => `(tactic| first | assumption | exact Ne.symm (by assumption) | exact fresh_ne (by assumption) | exact Ne.symm (fresh_ne (by assumption)) | exact fresh_ne (fresh_tl (by assumption)) | exact Ne.symm (fresh_ne (fresh_tl (by assumption))))
local macro_rules | `(tactic| walk_at "get") => `(tactic| first | with_reducible exact get_here | with_reducible assumption | ((with_reducible refine' Eq.trans (get_next ?kn) ?kg); (case kn => walk_at "ne"); (case kg => walk_at "get")))
local macro_rules | `(tactic| walk_at "put") => `(tactic| first | with_reducible exact put_here | ((with_reducible refine' Eq.trans (put_next ?kn) (congrArg _ ?kg)); (case kn => walk_at "ne"); (case kg => walk_at "put")))
local macro_rules | `(tactic| walk_at "fresh") => `(tactic| first | assumption | exact (fun b hb => by simp at hb) | exact fresh_any (by assumption) _ | exact fresh_tl (by assumption))
local macro_rules | `(tactic| walk_at "del") => `(tactic| first | ((with_reducible refine' del_here ?kf); (case kf => walk_at "fresh")) | ((with_reducible refine' Eq.trans (del_next ?kn) (congrArg _ ?kg)); (case kn => walk_at "ne"); (case kg => walk_at "del")))
local macro_rules | `(tactic| walk_at "mem") => `(tactic| first | with_reducible exact seq_lst | with_reducible exact seq_tup | with_reducible exact l_lst | with_reducible exact len_lst | with_reducible exact len_tup | with_reducible exact len_scr | with_reducible exact ints_lst | with_reducible exact ins_obj | walk_at "get" | ((with_reducible refine' seq_ref ?kr); (case kr => walk_at "get")) | ((with_reducible refine' l_ref ?kr); (case kr => walk_at "get")) | ((with_reducible refine' len_ref ?kr); (case kr => walk_at "get")) | ((with_reducible refine' ints_ref ?kr); (case kr => walk_at "get")))
local macro_rules | `(tactic| walk_at "szs") => `(tactic| first | decide | ((try rw [sizeLine_eq]); (try simp only [List.length_map, List.length_cons, List.length_nil, List.length_append, List.length_take, List.length_replicate, List.length_range]); omega))
local macro_rules | `(tactic| walk_at "go1") => `(tactic| first
  | with_reducible refine s_seq ?_
  | with_reducible refine s_next ?_
  | with_reducible refine s_set ?_
  | with_reducible refine s_ret ?_
  | with_reducible refine s_retN ?_
  | with_reducible refine s_drop ?_
  | with_reducible refine s_if ?_
  | with_reducible refine s_ifE ?_
  | with_reducible refine s_asg ?_
  | with_reducible refine s_par ?_
  | with_reducible refine s_gName ?_
  | ((with_reducible refine' s_gTup ?k1 ?_); (case k1 => rfl))
  | with_reducible refine s_gCons ?_
  | with_reducible refine s_gNil ?_
  | with_reducible refine s_gSub ?_
  | with_reducible refine s_for ?_
  | with_reducible refine s_var rfl ?_
  | with_reducible refine s_c ?_
  | with_reducible refine s_op ?_
  | with_reducible refine s_un ?_
  | with_reducible refine s_cb ?_
  | with_reducible refine s_nil ?_
  | with_reducible refine s_cons ?_
  | with_reducible refine w_tup ?_
  | with_reducible refine w_lst ?_
  | with_reducible refine s_nlF ?_
  | with_reducible refine s_break ?_
  | with_reducible refine s_cont ?_
  | with_reducible refine w_frz ?_
  | with_reducible refine s_B ?_
  | with_reducible refine s_tAnd ?_
  | with_reducible refine s_tOr ?_
  | with_reducible refine s_tNot ?_
  | with_reducible refine s_yes ?_
  | with_reducible refine s_and ?_
  | with_reducible refine s_or ?_
  | with_reducible refine s_not ?_
  | with_reducible refine o_bl ?_
  | with_reducible refine o_int ?_
  | with_reducible refine o_two ?_
  | with_reducible refine o_fst ?_
  | with_reducible refine o_seqL ?_
  | with_reducible refine o_seqT ?_
  | with_reducible refine o_1I ?_
  | with_reducible refine o_2I ?_
  | with_reducible refine o_3I ?_
  | ((with_reducible refine' o_frz ?k1 ?_); (case k1 => walk_at "del"))
  | ((with_reducible refine' o_lst ?k0 ?_); (case k0 => walk_at "get"))
  | ((with_reducible refine' o_obj ?k0 ?_); (case k0 => walk_at "mem"))
  | ((with_reducible refine' o_seqR ?k0 ?_); (case k0 => walk_at "mem"))
  | ((with_reducible refine' o_mo ?k0 ?_); (case k0 => walk_at "mem"))
  | ((with_reducible refine' o_set ?k1 ?_); (case k1 => walk_at "put"))
  | ((with_reducible refine' o_ins ?k0 ?_); (case k0 => walk_at "get"))
  | with_reducible refine o_obj ins_obj ?_
  | with_reducible refine v_addI ?_
  | ((with_reducible refine' v_addT ?_ ?k1); (case k1 => walk_at "szs"))
  | ((with_reducible refine' v_addL ?_ ?k1); (case k1 => walk_at "szs"))
  | with_reducible refine v_sub ?_
  | ((with_reducible refine' v_mulI ?_ ?k1); (case k1 => first | exact .inl (by omega) | exact .inr (by omega)))
  | ((with_reducible refine' v_mod ?_ ?k1); (case k1 => first | decide | omega))
  | ((with_reducible refine' v_div ?_ ?k1); (case k1 => exact ⟨by omega, by omega⟩))
  | ((with_reducible refine' v_pow ?_ ?k1); (case k1 => exact ⟨by decide, by decide, by decide⟩))
  | with_reducible refine v_lt ?_
  | with_reducible refine v_le ?_
  | with_reducible refine v_gt ?_
  | with_reducible refine v_ge ?_
  | with_reducible refine v_neg ?_
  | with_reducible refine v_eqI ?_
  | with_reducible refine v_neI ?_
  | with_reducible refine v_eqS ?_
  | with_reducible refine v_neS ?_
  | with_reducible refine v_eqB ?_
  | with_reducible refine v_neB ?_
  | with_reducible refine v_isN ?_
  | with_reducible refine v_isnN ?_
  | with_reducible refine v_isB ?_
  | with_reducible refine v_isnB ?_
  | ((with_reducible refine' v_inI ?k0 (intsD_map _) ?_); (case k0 => walk_at "mem"))
  | ((with_reducible refine' v_ninI ?k0 (intsD_map _) ?_); (case k0 => walk_at "mem"))
  | ((with_reducible refine' v_len ?k0 ?_); (case k0 => walk_at "mem"))
  | ((with_reducible refine' v_list ?k0 ?_); (case k0 => walk_at "mem"))
  | with_reducible refine v_listS ?_
  | ((with_reducible refine' v_tuple ?k0 ?_); (case k0 => walk_at "mem"))
  | with_reducible refine v_int ?_
  | with_reducible refine v_intB ?_
  | with_reducible refine s_sortedSet ?_
  | with_reducible refine s_sl ?_
  | with_reducible refine s_noPart ?_
  | with_reducible refine s_part ?_
  | with_reducible refine v_cutT ?_
  | with_reducible refine v_cutL ?_
  | ((with_reducible refine' v_cutR ?k0 ?_); (case k0 => walk_at "mem"))
  | with_reducible refine s_call ?_
  | with_reducible refine w_call1 ?_
  | with_reducible refine s_callG ?_
  | with_reducible refine s_make ?_
  | with_reducible refine s_fldO rfl ?_
  | ((with_reducible refine' s_fldR ?k0 rfl ?_); (case k0 => walk_at "mem"))
  | with_reducible refine s_meth ?_
  | with_reducible refine s_methG ?_
  | with_reducible refine w_setF ?_
  | with_reducible refine s_bm ?_
  | ((with_reducible refine' w_append ?k1 ?k2 ?_); (case k1 => walk_at "szs"); (case k2 => walk_at "put"))
  | ((with_reducible refine' w_extend ?k0 ?k1 ?k2 ?_); (case k0 => walk_at "mem"); (case k1 => walk_at "szs"); (case k2 => walk_at "put"))
  | ((with_reducible refine' w_reverse ?k2 ?_); (case k2 => walk_at "put"))
  | with_reducible refine s_iSeq ?_
  | with_reducible refine w_rng1 ?_
  | with_reducible refine w_rng2 ?_
  | with_reducible refine s_rng3 ?_
  | with_reducible refine s_lc ?_
  | with_reducible refine s_chain ?_
  | ((with_reducible refine' o_sz ?k1 ?_); (case k1 => walk_at "szs"))
  | ((with_reducible refine' o_rg ?k1 ?k2 ?_); (case k1 => first | omega | (simp only [List.length_map]; omega)); (case k2 => first | omega | (simp only [List.length_map]; omega)))
  | with_reducible refine s_newDK ?_
  | with_reducible refine s_lstRg ?_
  | with_reducible refine way_t ?_
  | with_reducible refine way_f ?_
  | with_reducible refine way_not ?_)
local macro_rules | `(tactic| walk_at "go") => `(tactic| (repeat (walk_at "go1")))
local macro_rules | `(tactic| walk_at "way") => `(tactic| first | (refine way_dec (fun _ => ?_) (fun e => absurd (by omega) e)) | (refine way_dec (fun e => absurd e (by omega)) (fun _ => ?_)))
local macro_rules | `(tactic| walk_at "gow") => `(tactic| (repeat (first | (walk_at "go1") | (walk_at "way"))))
theorem r_fits (A : Ads) : ∀ ds Q, sp_fits A ds Q → c_fits A { nx := fun _ _ => Q .non, rt := fun d _ => Q d } (dstart ["letter", "places", "k"] ds) [] := by
  rintro _ Q ⟨l, p, rfl, hl, h⟩
  show c_fits A _ [some _, some _, none] []
  unfold c_fits
  walk_at "go"
  refine way_dec (fun e => ?_) fun e => ?_
  · walk_at "go"
    have : l = [] := by simpa using e
    rw [decide_eq_false (fun z => z.1 this)] at h
    exact h
  · walk_at "go"
    have hne : l ≠ [] := by simpa using e
    rw [List.length_map]
    rw [Int.toNat_natCast]
    refine loop_by (fun i s M => M = [] ∧ (∃ x, s = [some (encL l), some (.int p), x]) ∧ ∀ j, j < i → 0 ≤ l.getD j 0 ∧ l.getD j 0 < p ∧ (0 < j → l.getD (j - 1) 0 < l.getD j 0)) ⟨rfl, ⟨_, rfl⟩, fun j hj => by omega⟩ ?_ ?_
    · rintro i d s M N hi0 ⟨rfl, ⟨x, rfl⟩, hg⟩ hN
      obtain ⟨hi, rfl⟩ := rng_at0 hi0
      refine ⟨trivial, ?_⟩
      have hx : atI (l.map DV.int) (i : Int) = some (.int (l.getD i 0)) := atI_mapN 0 hi
      have no : ¬ (0 ≤ l.getD i 0 ∧ l.getD i 0 < p ∧ (0 < i → l.getD (i - 1) 0 < l.getD i 0)) → Q (.bl false) := fun hn => by
        rw [decide_eq_false (fun z => hn (z.2 i hi))] at h
        exact h
      walk_at "go"
      refine v_ix rfl hx ?_
      walk_at "go"
      refine way_dec (fun e1 => ?_) fun e1 => ?_
      · walk_at "go"
        exact no fun z => absurd z.1 (by omega)
      walk_at "go"
      refine v_ix rfl hx ?_
      walk_at "go"
      refine way_dec (fun e2 => ?_) fun e2 => ?_
      · walk_at "go"
        exact no fun z => absurd z.2.1 (by omega)
      walk_at "go"
      refine way_dec (fun e3 => ?_) fun e3 => ?_
      · walk_at "go"
        refine v_ix rfl hx ?_
        walk_at "go"
        refine v_ix rfl (atI_mapI 0 (by omega) (by omega)) ?_
        walk_at "go"
        have en : ((i : Int) - 1).toNat = i - 1 := by omega
        rw [en]
        refine way_dec (fun e4 => ?_) fun e4 => ?_
        · walk_at "go"
          exact no fun z => absurd (z.2.2 (by omega)) (by omega)
        · walk_at "go"
          refine hN _ _ ⟨rfl, ⟨_, rfl⟩, fun j hj => ?_⟩
          by_cases ej : j = i
          · subst ej; exact ⟨by omega, by omega, fun _ => by omega⟩
          · exact hg j (by omega)
      · walk_at "go"
        refine hN _ _ ⟨rfl, ⟨_, rfl⟩, fun j hj => ?_⟩
        by_cases ej : j = i
        · subst ej; exact ⟨by omega, by omega, fun _ => by omega⟩
        · exact hg j (by omega)
    · rintro s M ⟨rfl, ⟨x, rfl⟩, hg⟩
      refine ⟨trivial, ?_⟩
      walk_at "go"
      rw [rngD_len] at hg
      rw [decide_eq_true ⟨hne, hg⟩] at h
      exact h
theorem r_Alphabet__init_ (A : Ads) : ∀ ds M Q, sp_Alphabet__init_ A ds M Q → c_Alphabet__init_ A { nx := fun _ M' => Fg M' (Q .non), rt := fun d M' => Fg M' (Q d) } (dstart ["self", "places", "letters", "valid", "letter"] ds) M := by
  rintro _ _ Q ⟨x, n, L, rfl, rfl, hA, h⟩
  show c_Alphabet__init_ A _ [some _, some _, some _, none, none] _
  unfold c_Alphabet__init_
  have h1 := hA.n1
  have h2 := hA.n4
  have h3 := hA.l1
  have h4 := hA.l6
  have h5 : (L.map encL).length = L.length := List.length_map ..
  walk_at "gow"
  rw [show decide ((↑(List.map encL L).length : Int) ≤ 6) = true from decide_eq_true (by omega)]
  refine for_enc L encL (fun i s M => M = [(x, .ins A.Alphabet [] [])] ∧ ∃ y, s = [some (.ref x), some (.int n), some (.lst (L.map encL)), some (.bl true), y]) ⟨rfl, _, rfl⟩ ?_ ?_
  · rintro i l s M N hi ⟨rfl, y, rfl⟩ hN
    have hl := List.mem_of_getElem? hi
    refine ⟨trivial, ?_⟩
    walk_at "gow"
    refine ⟨l, n, rfl, hA.len l hl, ?_⟩
    rw [decide_eq_true (hA.fit l hl)]
    exact hN _ _ ⟨rfl, _, rfl⟩
  · rintro s M ⟨rfl, y, rfl⟩
    refine ⟨trivial, ?_⟩
    walk_at "gow"
    refine comp_enc L encL (fun _ => true) encL trivial (by rw [sizeLine_eq]; omega) (fun l hl => ⟨_, rfl, fun Q' q => by walk_at "go"; exact q, fun _ Q' q => by walk_at "go"; exact q⟩) ?_
    walk_at "gow"
    rw [List.filter_eq_self.mpr (fun _ _ => rfl)]
    exact fg_self h
theorem r_law_take (A : Ads) : ∀ ds M Q, sp_law_take A ds M Q → c_law_take A { nx := fun _ M' => Fg M' (Q .non), rt := fun d M' => Fg M' (Q d) } (dstart ["draws", "limit"] ds) M := by
  rintro _ _ Q ⟨p, k, ns, rfl, rfl, hD, hk, h⟩
  show c_law_take A _ [some _, some _] _
  unfold c_law_take
  walk_at "go"
  rcases List.eq_nil_or_concat ns with rfl | ⟨xs, z, rfl⟩
  · refine way_is (b' := true) rfl ?_
    walk_at "go"
    exact fg_self (h 0 [] (Int.le_refl 0) hk hD)
  · refine way_dec (fun e => absurd e (by simp; omega)) fun _ => ?_
    walk_at "go"
    refine w_pop (xs := xs.map DV.int) (d := .int z) (by simp) (by walk_at "put") ?_
    walk_at "go"
    refine fg_self (h _ xs (Int.emod_nonneg _ (by omega)) (Int.emod_lt_of_pos _ hk) ⟨?_, fun n hn => hD.2 n (by simp [hn])⟩)
    have := hD.1
    simp at this
    omega
theorem r_law_word (A : Ads) : ∀ ds M Q, sp_law_word A ds M Q → c_law_word A { nx := fun _ M' => Fg M' (Q .non), rt := fun d M' => Fg M' (Q d) } (dstart ["draws", "letters", "most", "k"] ds) M := by
  rintro _ _ Q ⟨p, a, b, ns, rfl, rfl, hD, ha, hb, hb2, h⟩
  show c_law_word A _ [some _, some _, some _, none] _
  unfold c_law_word
  walk_at "go"
  refine u_take hD (by omega) (fun _ => put_here) fun z ns1 hz0 hz1 hD1 => ?_
  walk_at "go"
  refine comp_loop (fun i acc M => ∃ (w : List Int) (ns2 : List Int), acc = w.map DV.int ∧ w.length = i ∧ (∀ x, x ∈ w → 0 ≤ x ∧ x < a) ∧ Dr ns2 ∧ M = [(p, .lst (ns2.map .int))]) (by rw [rngD_len, sizeLine_eq]; omega) ⟨[], ns1, rfl, rfl, fun _ h => by simp at h, hD1, rfl⟩ ?_ ?_
  · rintro i d acc M N1 N0 hi ⟨w, ns2, rfl, hw, hr, hD2, rfl⟩ hN1 _
    refine ⟨trivial, _, rfl, ?_⟩
    walk_at "go"
    refine u_take hD2 (by omega) (fun _ => put_here) fun y ns3 hy0 hy1 hD3 => ?_
    refine hN1 _ _ ⟨w ++ [y], ns3, by simp, by simp [hw], fun x hx => ?_, hD3, rfl⟩
    rcases List.mem_append.mp hx with e | e
    · exact hr x e
    · rw [List.mem_singleton] at e; subst e; exact ⟨hy0, hy1⟩
  · rintro acc M ⟨w, ns2, rfl, hw, hr, hD2, rfl⟩
    refine ⟨trivial, ?_⟩
    rw [rngD_len] at hw
    walk_at "go"
    exact fg_self (h w ns2 (by omega) hr hD2)
theorem r_law_alphabet (A : Ads) : ∀ ds M Q, sp_law_alphabet A ds M Q → c_law_alphabet A { nx := fun _ M' => Fg M' (Q .non), rt := fun d M' => Fg M' (Q d) } (dstart ["draws", "places", "most", "count", "letters", "k", "size", "there", "j"] ds) M := by
  rintro _ _ Q ⟨p, a, b, ns, rfl, rfl, hD, ha, ha2, hb, hb2, h⟩
  show c_law_alphabet A _ [some _, some _, some _, none, none, none, none, none, none] _
  unfold c_law_alphabet
  walk_at "go"
  refine u_take hD (by omega) (fun _ => put_here) fun z ns1 hz0 hz1 hD1 => ?_
  walk_at "go"
  refine s_nlT fun q hq => ?_
  have hpq : p ≠ q := (fresh_ne hq).symm
  walk_at "go"
  refine u_take hD1 (by omega) (fun _ => (put_next hpq).trans (congrArg _ put_here)) fun y ns2 hy0 hy1 hD2 => ?_
  walk_at "go"
  refine for_rng0 (fun i s M => ∃ (L : List (List Int)) (ns3 : List Int) (x1 x2 x3 x4 : Option DV), s = [some (.ref p), some (.int a), some (.int b), some (.int (1 + z)), some (.ref q), x1, x2, x3, x4] ∧ M = [(q, .lst (L.map encL)), (p, .lst (ns3.map .int))] ∧ L.length = i ∧ Dr ns3 ∧ ∀ l, l ∈ L → l.length ≤ 6 ∧ Fits l (1 + z))
    ⟨[], ns2, _, _, _, _, rfl, rfl, rfl, hD2, fun l hl => by simp at hl⟩ ?_ ?_
  · rintro i s M N hi ⟨L, ns3, x1, x2, x3, x4, rfl, rfl, hL, hD3, hf⟩ hN
    refine ⟨trivial, ?_⟩
    walk_at "go"
    refine u_take hD3 (by omega) (fun _ => (put_next hpq).trans (congrArg _ put_here)) fun v ns4 hv0 hv1 hD4 => ?_
    obtain ⟨sz, hs, hs1, hs2⟩ : ∃ sz : Int, atI [DV.int 1, DV.int 1, DV.int 1, DV.int 2, DV.int 3, DV.int 6] v = some (.int sz) ∧ 1 ≤ sz ∧ sz ≤ 6 := by
      rcases (by omega : v = 0 ∨ v = 1 ∨ v = 2 ∨ v = 3 ∨ v = 4 ∨ v = 5) with rfl | rfl | rfl | rfl | rfl | rfl <;> exact ⟨_, rfl, by omega, by omega⟩
    refine v_ix rfl hs ?_
    walk_at "go"
    refine comp_loop (fun i acc M => ∃ (w : List Int) (ns5 : List Int), acc = w.map DV.int ∧ w.length = i ∧ (∀ x, x ∈ w → 0 ≤ x ∧ x < 1 + z) ∧ Dr ns5 ∧ M = [(q, .lst (L.map encL)), (p, .lst (ns5.map .int))]) (by rw [rngD_len, sizeLine_eq]; omega) ⟨[], ns4, rfl, rfl, fun _ h => by simp at h, hD4, rfl⟩ ?_ ?_
    · rintro i d acc M N1 N0 hi ⟨w, ns5, rfl, hw, hr, hD5, rfl⟩ hN1 _
      refine ⟨trivial, _, rfl, ?_⟩
      walk_at "go"
      refine u_take hD5 (by omega) (fun _ => (put_next hpq).trans (congrArg _ put_here)) fun u ns6 hu0 hu1 hD6 => ?_
      refine hN1 _ _ ⟨w ++ [u], ns6, by simp, by simp [hw], fun x hx => ?_, hD6, rfl⟩
      rcases List.mem_append.mp hx with e | e
      · exact hr x e
      · rw [List.mem_singleton] at e; subst e; exact ⟨hu0, hu1⟩
    · rintro acc M ⟨w, ns5, rfl, hw, hr, hD5, rfl⟩
      refine ⟨trivial, ?_⟩
      rw [rngD_len] at hw
      walk_at "go"
      refine ⟨by omega, fun ns' hinc hmem => ?_⟩
      walk_at "go"
      refine hN _ _ ⟨L ++ [ns'], ns5, _, _, _, _, rfl, by rw [List.map_append]; rfl, by simp [hL], hD5, fun l hl => ?_⟩
      rcases List.mem_append.mp hl with e | e
      · exact hf l e
      · rw [List.mem_singleton] at e
        subst e
        exact ⟨by have := inc_len hinc fun x hx => hr x ((hmem x).mp hx); omega, inc_fits hinc (fun x hx => hr x ((hmem x).mp hx)) (by
          cases w with
          | nil => simp at hw; omega
          | cons x r => intro e; have := (hmem x).mpr List.mem_cons_self; rw [e] at this; simp at this)⟩
  · rintro s M ⟨L, ns3, x1, x2, x3, x4, rfl, rfl, hL, hD3, hf⟩
    refine ⟨trivial, ?_⟩
    walk_at "go"
    have := h (1 + z).toNat L ns3 ⟨by omega, by omega, by omega, by omega, fun l hl => by have := (hf l hl).1; omega, fun l hl => by rw [Int.toNat_of_nonneg (by omega)]; exact (hf l hl).2⟩ (by omega) (by omega) hD3
    rw [Int.toNat_of_nonneg (by omega)] at this
    exact fg_self this
theorem r_draws_tail (A : Ads) {Q : DQ} {sc : List Int} {k : Int} (hk0 : 0 ≤ k) (hk : k ≤ 1000) (h : ∀ (p : Addr) (ns : List Int), Dr ns → Q (DV.ref p) [(p, MO.lst (List.map DV.int ns))]) (c : Addr) (cs : List Int) (M : Mem) (h1 : 1 ≤ cs.length) (h2 : cs.length ≤ 63) (hg : get M c = some (.lst (cs.map DV.int))) :
    (dSeq (dSet 3 (dLst true dNil))
    (dSeq (dSet 4 (dC (.int 12345)))
    (dSeq (dFor (dRng1 (dCons (dVar 1) dNil)) (dgName 5) (dSeq (dSet 6 (dOp dMod (dVar 5) (dCB dLen (dCons (dVar 2) dNil))))
    (dSeq (dSet 7 (dOp dIx (dVar 2) (dVar 6)))
    (dSeq (dSet 4 (dOp dMod (dCB dInt (dCons (dOp (dAdd false) (dOp (dAdd false) (dOp (dAdd false) (dOp (dMul false) (dVar 4) (dC (.int 48271))) (dOp (dMul false) (dOp dMod (dCB dInt (dCons (dVar 7) dNil)) (dC (.int 1000003))) (dC (.int 69621)))) (dOp (dMul false) (dVar 5) (dC (.int 7919)))) (dC (.int 11))) dNil)) (dC (.int 2147483647))))
    (dSeq (dSet 8 (dOp dMod (dCB dInt (dCons (dOp (dAdd false) (dOp (dAdd false) (dOp (dMul false) (dVar 4) (dVar 4)) (dOp (dMul false) (dC (.int 31)) (dVar 4))) (dVar 5)) dNil)) (dC (.int 1000003))))
    (dIfS (dB (dOp dGe (dVar 7) (dOp dPow (dC (.int 10)) (dC (.int 18))))) (dSeq (dDrop (dBM mAppend (dVar 3) (dCons (dOp dMod (dCB dInt (dCons (dVar 7) dNil)) (dC (.int 1000))) dNil)))
    (dAsg (dOp dDiv (dVar 7) (dC (.int 1000))) (dgSub (dVar 2) (dVar 6)))) (dDrop (dBM mAppend (dVar 3) (dCons (dOp dMod (dCB dInt (dCons (dVar 8) dNil)) (dC (.int 1000))) dNil)))))))))
    (dSeq (dDrop (dBM mReverse (dVar 3) dNil))
    (dRet (dVar 3))))))
    { nx := fun _ M' => Fg M' (Q .non), rt := fun d M' => Fg M' (Q d) } [some (.scr sc), some (.int k), some (.ref c), none, none, none, none, none, none] M := by
  refine s_seq ?_
  walk_at "go"
  refine s_nlT fun f hf => ?_
  have hfc : f ≠ c := fun e => hf c (get_mem hg) e
  walk_at "go"
  refine for_rng0 (fun i s M' => ∃ (M1 : Mem) (cs' ns : List Int) (mixed : Int) (x1 x2 x3 x4 : Option DV), s = [some (.scr sc), some (.int k), some (.ref c), some (.ref f), some (.int mixed), x1, x2, x3, x4] ∧ M' = (f, .lst (ns.map .int)) :: M1 ∧ cs'.length = cs.length ∧ get M1 c = some (.lst (cs'.map DV.int)) ∧ ns.length = i ∧ (∀ n, n ∈ ns → 0 ≤ n ∧ n < 1000) ∧ 0 ≤ mixed ∧ mixed < 2147483647)
    ⟨M, cs, [], 12345, _, _, _, _, rfl, rfl, rfl, hg, rfl, fun n hn => by simp at hn, by decide, by decide⟩ ?_ ?_
  · rintro i s M' N hi ⟨M1, cs', ns, mixed, x1, x2, x3, x4, rfl, rfl, hcs, hg1, hns, hr, hm0, hm1⟩ hN
    have hgc : get ((f, .lst (ns.map .int)) :: M1) c = some (.lst (cs'.map DV.int)) := (get_next hfc.symm).trans hg1
    have hlc : lenD ((f, .lst (ns.map .int)) :: M1) (.ref c) = some (cs'.map DV.int).length := len_ref hgc
    have hik : (i : Int) < k := by omega
    refine ⟨trivial, ?_⟩
    walk_at "go"
    rw [List.length_map]
    walk_at "go"
    have hj0 : 0 ≤ (i : Int) % (cs'.length : Int) := Int.emod_nonneg _ (by omega)
    have hj1 : (i : Int) % (cs'.length : Int) < cs'.length := Int.emod_lt_of_pos _ (by omega)
    refine v_ix (seq_ref hgc) (atI_mapI 0 hj0 hj1) ?_
    walk_at "go"
    have hmix : ∀ z : Int, 0 ≤ z % 2147483647 ∧ z % 2147483647 < 2147483647 := fun z => ⟨Int.emod_nonneg _ (by decide), Int.emod_lt_of_pos _ (by decide)⟩
    have hthou : ∀ z n : Int, n ∈ ns ++ [z % 1000] → 0 ≤ n ∧ n < 1000 := fun z n hn => by
      rcases List.mem_append.mp hn with e | e
      · exact hr n e
      · rw [List.mem_singleton] at e; subst e; omega
    refine way_dec (fun e => ?_) fun e => ?_
    · walk_at "go"
      refine w_stL (ds := cs'.map DV.int) ((get_next hfc.symm).trans hg1) (ix_at hj0 (by rw [List.length_map]; exact hj1)) (put_next hfc.symm) ?_
      rw [← List.map_set]
      refine hN _ _ ⟨put M1 c (.lst ((cs'.set _ _).map DV.int)), cs'.set _ _, ns ++ [_], _, _, _, _, _, rfl, by rw [List.map_append]; rfl, by simp [hcs], (by rw [get_put hg1, if_pos rfl]), by simp [hns], hthou _, (hmix _).1, (hmix _).2⟩
    · walk_at "go"
      refine hN _ _ ⟨M1, cs', ns ++ [_], _, _, _, _, _, rfl, by rw [List.map_append]; rfl, hcs, hg1, by simp [hns], hthou _, (hmix _).1, (hmix _).2⟩
  · rintro s M' ⟨M1, cs', ns, mixed, x1, x2, x3, x4, rfl, rfl, hcs, hg1, hns, hr, hm0, hm1⟩
    refine ⟨trivial, ?_⟩
    walk_at "go"
    rw [← List.map_reverse]
    exact fg_head (h f ns.reverse ⟨by simp; omega, fun n hn => hr n (by simpa using hn)⟩)
theorem r_law_draws (A : Ads) : ∀ ds M Q, sp_law_draws A ds M Q → c_law_draws A { nx := fun _ M' => Fg M' (Q .non), rt := fun d M' => Fg M' (Q d) } (dstart ["script", "count", "cells", "found", "mixed", "k", "j", "cell", "again"] ds) M := by
  rintro _ _ Q ⟨sc, k, rfl, rfl, hsc, hk0, hk, h⟩
  show c_law_draws A _ [some _, some _, none, none, none, none, none, none, none] _
  unfold c_law_draws
  walk_at "go"
  refine s_nlT fun c hc => ?_
  walk_at "go"
  rw [List.length_map]
  refine way_dec (fun e => ?_) fun e => ?_
  · walk_at "go"
    refine s_nlT fun q hq => ?_
    exact r_draws_tail A hk0 hk h q [7] _ (by decide) (by decide) get_here
  · walk_at "go1"
    exact r_draws_tail A hk0 hk h c sc _ (by omega) (by omega) get_here
theorem r_Known__init_ (A : Ads) : ∀ ds M Q, sp_Known__init_ A ds M Q → c_Known__init_ A { nx := fun _ M' => Fg M' (Q .non), rt := fun d M' => Fg M' (Q d) } (dstart ["self", "first", "second", "third"] ds) M := by
  rintro _ _ Q ⟨x, a, b, c, rfl, rfl, h⟩
  show c_Known__init_ A _ [some _, some _, some _, some _] _
  unfold c_Known__init_
  walk_at "go"
  exact fg_self h
theorem r_News__init_ (A : Ads) : ∀ ds M Q, sp_News__init_ A ds M Q → c_News__init_ A { nx := fun _ M' => Fg M' (Q .non), rt := fun d M' => Fg M' (Q d) } (dstart ["self", "alphabet"] ds) M := by
  rintro _ _ Q ⟨x, a, rfl, rfl, h⟩
  show c_News__init_ A _ [some _, some _] _
  unfold c_News__init_
  walk_at "go"
  exact fg_self h
theorem r_size_of (A : Ads) : ∀ ds Q, sp_size_of A ds Q → c_size_of A { nx := fun _ _ => Q .non, rt := fun d _ => Q d } (dstart ["places"] ds) [] := by
  rintro _ Q ⟨p, rfl, hp, h⟩
  show c_size_of A _ [some _] []
  unfold c_size_of
  have h2 : (p : Int) * p ≤ 16 := by
    have : p * p ≤ 4 * 4 := Nat.mul_le_mul hp hp
    exact_mod_cast this
  have h3 : (0 : Int) ≤ (p : Int) * p := Int.mul_nonneg (by omega) (by omega)
  walk_at "go"
  exact_mod_cast h
theorem r_law_is_integer (A : Ads) : ∀ ds Q, sp_law_is_integer A ds Q → c_law_is_integer A { nx := fun _ _ => Q .non, rt := fun d _ => Q d } (dstart ["actual"] ds) [] := by
  rintro _ Q ⟨i, rfl, h⟩
  show c_law_is_integer A _ [some _] []
  unfold c_law_is_integer
  walk_at "go"
  refine v_isi (tn := "int") rfl rfl ?_
  walk_at "go"
  refine v_isi (tn := "int") rfl rfl ?_
  walk_at "go"
  exact h
theorem r_Known_flat (A : Ads) : ∀ ds Q, sp_Known_flat A ds Q → c_Known_flat A { nx := fun _ _ => Q .non, rt := fun d _ => Q d } (dstart ["self", "found", "row", "table"] ds) [] := by
  rintro _ Q ⟨p, k, rfl, hk, hp, h⟩
  show c_Known_flat A _ [some _, none, none, none] []
  unfold c_Known_flat
  have small : ∀ (l : List (List Int)), (∀ r, r ∈ l → r.length = p) → l.length ≤ p → l.flatten.length ≤ 16 := fun l h1 h2 => by
    rw [flat_len h1]
    exact Nat.le_trans (Nat.mul_le_mul (by omega) hp) (by omega : 4 * 4 ≤ 16)
  have hf := hk.f
  walk_at "go"
  refine s_nlT fun q hq => ?_
  walk_at "go"
  refine for_enc k.s encL (fun i s M => ∃ x, s = [some (kn A k), some (.ref q), x, none] ∧ M = [(q, .lst ((k.f ++ (k.s.take i).flatten).map .int))]) ⟨_, rfl, by simp⟩ ?_ ?_
  · rintro i r s M N hi ⟨x, rfl, rfl⟩ hN
    have hr := hk.s1 r (List.mem_of_getElem? hi)
    have h1 := small (k.s.take i) (fun y hy => hk.s1 y (List.mem_of_mem_take hy)) (by rw [List.length_take]; have := hk.s; omega)
    refine ⟨trivial, ?_⟩
    walk_at "go"
    exact hN _ _ ⟨_, rfl, by rw [take_at hi]; simp⟩
  · rintro s M ⟨x, rfl, rfl⟩
    have h1 := small k.s hk.s1 (by have := hk.s; omega)
    have big : ∀ (l : List (List (List Int))), (∀ b, b ∈ l → b ∈ k.t) → l.length ≤ p → (l.map List.flatten).flatten.length ≤ 64 := fun l hl hn => by
      rw [flat_len (p := p * p) fun r hr => ?_, List.length_map]
      · exact Nat.le_trans (Nat.mul_le_mul (Nat.le_trans hn hp) (Nat.mul_le_mul hp hp)) (by omega)
      · obtain ⟨b, hb, rfl⟩ := List.mem_map.mp hr
        have := hk.t1 b (hl b hb)
        rw [flat_len this.2, this.1]
    refine ⟨trivial, ?_⟩
    rw [List.take_length]
    walk_at "go"
    refine for_enc k.t encM (fun i s M => ∃ x y, s = [some (kn A k), some (.ref q), x, y] ∧ M = [(q, .lst ((k.f ++ k.s.flatten ++ ((k.t.take i).map List.flatten).flatten).map .int))]) ⟨_, _, rfl, by simp⟩ ?_ ?_
    · rintro i b s M N hi ⟨x, y, rfl, rfl⟩ hN
      have hb := hk.t1 b (List.mem_of_getElem? hi)
      have h2 := big (k.t.take i) (fun y hy => List.mem_of_mem_take hy) (by rw [List.length_take]; have := hk.t; omega)
      refine ⟨trivial, ?_⟩
      walk_at "go"
      refine for_enc b encL (fun j s M => ∃ x, s = [some (kn A k), some (.ref q), x, some (encM b)] ∧ M = [(q, .lst ((k.f ++ k.s.flatten ++ ((k.t.take i).map List.flatten).flatten ++ (b.take j).flatten).map .int))]) ⟨_, rfl, by simp⟩ ?_ ?_
      · rintro j r s M N2 hj ⟨x, rfl, rfl⟩ hN2
        have hr := hb.2 r (List.mem_of_getElem? hj)
        have h3 := small (b.take j) (fun y hy => hb.2 y (List.mem_of_mem_take hy)) (by rw [List.length_take]; have := hb.1; omega)
        refine ⟨trivial, ?_⟩
        walk_at "go"
        exact hN2 _ _ ⟨_, rfl, by rw [take_at hj]; simp⟩
      · rintro s M ⟨x, rfl, rfl⟩
        refine ⟨trivial, ?_⟩
        refine hN _ _ ⟨_, _, rfl, by rw [take_at hi]; simp⟩
    · rintro s M ⟨x, y, rfl, rfl⟩
      refine ⟨trivial, ?_⟩
      rw [List.take_length]
      walk_at "go"
      exact h
theorem r_rows_of (A : Ads) : ∀ ds Q, sp_rows_of A ds Q → c_rows_of A { nx := fun _ _ => Q .non, rt := fun d _ => Q d } (dstart ["numbers", "places", "k"] ds) [] := by
  rintro _ Q ⟨p, rs, rfl, hp1, hp4, hn, hl, h⟩
  show c_rows_of A _ [some _, some _, none] []
  unfold c_rows_of
  walk_at "go"
  refine ⟨rs.length, ?_, ?_⟩
  · rw [List.length_map, flat_len hl]
    exact rgc_up hp1 hp4 hn
  · refine comp_enc (List.range rs.length) (fun (k : Nat) => DV.int (0 + (k : Int) * (p : Int))) (fun _ => true) (fun k => encL (rs.getD k [])) trivial (by simp [sizeLine_eq]; omega) (fun k hk => ⟨_, rfl, fun Q' q => by walk_at "go"; exact q, fun _ Q' q => ?_⟩) ?_
    · have hk := List.mem_range.mp hk
      have e1 : (0 + (k : Int) * (p : Int)) = ((k * p : Nat) : Int) := by simp
      have e2 : (0 + (k : Int) * (p : Int)) + (p : Int) = ((k * p + p : Nat) : Int) := by simp
      have e3 : k * p + p ≤ rs.flatten.length := by
        rw [flat_len hl, ← Nat.succ_mul]
        exact Nat.mul_le_mul_right p hk
      walk_at "go"
      rw [e1, ← Int.natCast_add, cut_seg (k * p) (k * p + p) (by omega) e3, show k * p + p - k * p = p by omega, flat_at hl (List.getElem?_eq_getElem hk)]
      walk_at "go"
      simpa [List.getD_eq_getElem?_getD, hk] using q
    · walk_at "go"
      rw [List.filter_eq_self.mpr (fun _ _ => rfl), map_range_getD rs [] encL]
      exact h
theorem r_known_of (A : Ads) : ∀ ds Q, sp_known_of A ds Q → c_known_of A { nx := fun _ _ => Q .non, rt := fun d _ => Q d } (dstart ["state", "places", "square", "first", "second", "third", "k", "begin"] ds) [] := by
  rintro _ Q ⟨p, k, rfl, hp1, hp4, hk, h⟩
  show c_known_of A _ [some _, some _, none, none, none, none, none, none] []
  unfold c_known_of
  have hpp : p * p ≤ 16 := Nat.mul_le_mul hp4 hp4
  have es : k.s.flatten.length = p * p := by rw [flat_len hk.s1, hk.s]
  have hb : ∀ r, r ∈ k.t.map List.flatten → r.length = p * p := fun r hr => by
    obtain ⟨b, hb, rfl⟩ := List.mem_map.mp hr
    have := hk.t1 b hb
    rw [flat_len this.2, this.1]
  have et : (k.t.map List.flatten).flatten.length = p * (p * p) := by rw [flat_len hb, List.length_map, hk.t]
  have ef := hk.f
  have eT := hk.t
  have len : (flat k).length = p + p * p + p * (p * p) := by unfold flat; rw [List.length_append, List.length_append, es, et, ef]
  walk_at "go"
  rw [cut_pre, show (flat k).take p = k.f by unfold flat; rw [List.append_assoc, List.take_append_of_le_length (by omega), List.take_of_length_le (by omega)]]
  walk_at "go"
  rw [show (p : Int) + (p : Int) * (p : Int) = ((p + p * p : Nat) : Int) by simp, cut_seg p (p + p * p) (by omega) (by omega)]
  rw [show ((flat k).drop p).take (p + p * p - p) = k.s.flatten by
    rw [show p + p * p - p = k.s.flatten.length by omega, ← ef]; exact mid_of k.f k.s.flatten _]
  refine ⟨p, k.s, rfl, hp1, hp4, by have := hk.s; omega, hk.s1, ?_⟩
  walk_at "go"
  refine s_nlT fun q hq => ?_
  walk_at "go"
  refine for_rng0 (fun i s M => ∃ x y, s = [some (encS k), some (.int p), some (.int ((p : Int) * p)), some (encL k.f), some (encM k.s), some (.ref q), x, y] ∧ M = [(q, .lst ((k.t.take i).map encM))]) ⟨_, _, rfl, by simp⟩ ?_ ?_
  · rintro i s M N hi ⟨x, y, rfl, rfl⟩ hN
    rw [Int.toNat_natCast] at hi
    have hlt : i < k.t.length := by rw [hk.t]; exact hi
    have hti : k.t[i]? = some k.t[i] := List.getElem?_eq_getElem hlt
    have hbi := hk.t1 k.t[i] (List.getElem_mem hlt)
    have i1 : (i + 1) * (p * p) ≤ p * (p * p) := Nat.mul_le_mul_right _ hi
    rw [Nat.succ_mul] at i1
    have iz : (i : Int) * ((p : Int) * p) ≤ 64 := by
      have : i * (p * p) ≤ 4 * 16 := Nat.mul_le_mul (by omega) hpp
      exact_mod_cast this
    refine ⟨trivial, ?_⟩
    walk_at "go"
    rw [show (p : Int) + (p : Int) * (p : Int) + (i : Int) * ((p : Int) * (p : Int)) = ((p + p * p + i * (p * p) : Nat) : Int) by simp]
    rw [show ((p + p * p + i * (p * p) : Nat) : Int) + (p : Int) * (p : Int) = ((p + p * p + i * (p * p) + p * p : Nat) : Int) by simp]
    rw [cut_seg _ _ (by omega) (by omega)]
    rw [show ((flat k).drop (p + p * p + i * (p * p))).take (p + p * p + i * (p * p) + p * p - (p + p * p + i * (p * p))) = k.t[i].flatten by
      rw [show p + p * p + i * (p * p) + p * p - (p + p * p + i * (p * p)) = p * p by omega]
      unfold flat
      rw [List.drop_append, List.drop_of_length_le (by rw [List.length_append, es, ef]; omega), List.nil_append, List.length_append, es, ef, show p + p * p + i * (p * p) - (p + p * p) = i * (p * p) by omega]
      exact flat_at hb (by rw [List.getElem?_map, hti]; rfl)]
    refine ⟨p, k.t[i], rfl, hp1, hp4, by omega, hbi.2, ?_⟩
    walk_at "go"
    exact hN _ _ ⟨_, _, rfl, by rw [take_at hti, List.map_append]; rfl⟩
  · rintro s M ⟨x, y, rfl, rfl⟩
    refine ⟨trivial, ?_⟩
    rw [Int.toNat_natCast, List.take_of_length_le (by rw [hk.t]; omega)]
    walk_at "go"
    intro x
    refine ⟨_, _, _, _, rfl, rfl, ?_⟩
    exact ⟨rfl, _, _, get_here, h⟩
theorem r_first_known (A : Ads) : ∀ ds Q, sp_first_known A ds Q → c_first_known A { nx := fun _ _ => Q .non, rt := fun d _ => Q d } (dstart ["places"] ds) [] := by
  rintro _ Q ⟨p, rfl, hp1, hp4, h⟩
  show c_first_known A _ [some _] []
  unfold c_first_known
  walk_at "go"
  refine ⟨p, rfl, hp4, ?_⟩
  have h2 : p * p ≤ 16 := Nat.mul_le_mul hp4 hp4
  have h3 : p * p * p ≤ 64 := Nat.mul_le_mul h2 hp4
  refine v_mulT (by simp) (by omega) (by omega) (by rw [sizeLine_eq, Int.toNat_natCast]; simp; omega) ?_
  walk_at "go"
  refine ⟨p, zeroK p, ?_, hp1, hp4, zero_wf p, h⟩
  rw [Int.toNat_natCast, rep_one, ← List.map_replicate (f := DV.int), ← zero_flat]
theorem r_is_older (A : Ads) : ∀ ds Q, sp_is_older A ds Q → c_is_older A { nx := fun _ _ => Q .non, rt := fun d _ => Q d } (dstart ["one", "two", "place", "label", "other"] ds) [] := by
  rintro _ Q ⟨p, a, b, pl, rfl, hp, ha, hb, hpl, h⟩
  show c_is_older A _ [some _, some _, some _, none, none] []
  unfold c_is_older
  have fa : pl < a.f.length := by rw [ha.f]; exact hpl
  have fb : pl < b.f.length := by rw [hb.f]; exact hpl
  have xa : atI (a.f.map DV.int) (pl : Int) = some (.int (a.f.getD pl 0)) := atI_mapN 0 fa
  have xb : atI (b.f.map DV.int) (pl : Int) = some (.int (b.f.getD pl 0)) := atI_mapN 0 fb
  unfold older at h
  walk_at "go"
  refine v_ix rfl xa ?_
  walk_at "go"
  refine v_ix rfl xb ?_
  walk_at "go"
  refine way_dec (fun e => ?_) fun e => ?_
  · walk_at "go"
    rw [if_pos e] at h
    exact h
  rw [if_neg e] at h
  walk_at "go"
  refine way_dec (fun e1 => ?_) fun e1 => ?_
  · walk_at "go"
    rw [if_pos (.inl e1)] at h
    exact h
  walk_at "go"
  refine v_ix rfl xb ?_
  walk_at "go"
  refine way_dec (fun e2 => ?_) fun e2 => ?_
  · walk_at "go"
    rw [if_pos (.inr e2)] at h
    exact h
  rw [if_neg (fun z => z.elim e1 e2)] at h
  have lf := ha.f
  walk_at "go"
  rw [List.length_map]
  refine for_rng0 (fun i s M => M = [] ∧ (∃ x, s = [some (kn A a), some (kn A b), some (.int pl), some (.int (a.f.getD pl 0)), x]) ∧ ∀ o, o < i → ¬ (a.f.getD o 0 ≠ 0 ∧ a.f.getD o 0 ∈ b.f ∧ (a.s.getD o []).getD pl 0 = a.f.getD pl 0)) ⟨rfl, ⟨_, rfl⟩, fun o ho => by omega⟩ ?_ ?_
  · rintro i s M N hi ⟨rfl, ⟨x, rfl⟩, hg⟩ hN
    rw [Int.toNat_natCast] at hi
    have xi : atI (a.f.map DV.int) (i : Int) = some (.int (a.f.getD i 0)) := atI_mapN 0 hi
    have li : i < a.s.length := by rw [ha.s]; omega
    have si : atI (a.s.map encL) (i : Int) = some (encL (a.s.getD i [])) := atI_mapN [] li
    have hrow : (a.s.getD i []).length = p := by
      rw [List.getD_eq_getElem?_getD, List.getElem?_eq_getElem li]
      exact ha.s1 _ (List.getElem_mem li)
    have ri : atI ((a.s.getD i []).map DV.int) (pl : Int) = some (.int ((a.s.getD i []).getD pl 0)) := atI_mapN 0 (by omega)
    have next : ¬ (a.f.getD i 0 ≠ 0 ∧ a.f.getD i 0 ∈ b.f ∧ (a.s.getD i []).getD pl 0 = a.f.getD pl 0) → ∀ o, o < i + 1 → ¬ (a.f.getD o 0 ≠ 0 ∧ a.f.getD o 0 ∈ b.f ∧ (a.s.getD o []).getD pl 0 = a.f.getD pl 0) := fun hn o ho => by
      by_cases eo : o = i
      · subst eo; exact hn
      · exact hg o (by omega)
    refine ⟨trivial, ?_⟩
    walk_at "go"
    refine v_ix rfl xi ?_
    walk_at "go"
    refine way_dec (fun z => ?_) fun z1 => ?_
    · walk_at "go"
      exact hN _ _ ⟨rfl, ⟨_, rfl⟩, next fun w => w.1 z⟩
    walk_at "go"
    refine v_ix rfl xi ?_
    walk_at "go"
    refine way_dec (fun z2 => ?_) fun z => ?_
    · walk_at "go"
      refine v_ix rfl si ?_
      walk_at "go"
      refine v_ix rfl ri ?_
      walk_at "go"
      refine way_dec (fun z3 => ?_) fun z => ?_
      · walk_at "go"
        rw [List.any_eq_true.mpr ⟨i, List.mem_range.mpr hi, decide_eq_true ⟨z1, z2, z3⟩⟩] at h
        exact h
      · walk_at "go"
        exact hN _ _ ⟨rfl, ⟨_, rfl⟩, next fun w => z w.2.2⟩
    · walk_at "go"
      exact hN _ _ ⟨rfl, ⟨_, rfl⟩, next fun w => z w.2.1⟩
  · rintro s M ⟨rfl, ⟨x, rfl⟩, hg⟩
    rw [Int.toNat_natCast] at hg
    refine ⟨trivial, ?_⟩
    walk_at "go"
    rw [List.any_eq_false.mpr fun o ho => by have := hg o (List.mem_range.mp ho); simpa using this] at h
    exact h
theorem r_holder (A : Ads) : ∀ ds Q, sp_holder A ds Q → c_holder A { nx := fun _ _ => Q .non, rt := fun d _ => Q d } (dstart ["known", "place", "best", "k"] ds) [] := by
  rintro _ Q ⟨p, ks, pl, rfl, hp, hk1, hk4, hw, hpl, h⟩
  show c_holder A _ [some _, some _, none, none] []
  unfold c_holder
  walk_at "go"
  rw [List.length_map]
  have hl : ((ks.length : Int) - 1).toNat = ks.length - 1 := by omega
  rw [hl]
  have hle : ∀ i, hold ks pl i ≤ i := fun i => by
    induction i with
    | zero => exact Nat.le_refl _
    | succ i ih => unfold hold; split <;> omega
  have mem : ∀ i, i < ks.length → ks.getD i default ∈ ks := fun i hi => by rw [List.getD_eq_getElem?_getD, List.getElem?_eq_getElem hi]; exact List.getElem_mem hi
  refine for_rng (fun i s M => M = [] ∧ ∃ x, s = [some (.lst (ks.map (kn A))), some (.int pl), some (.int (hold ks pl i : Nat)), x]) ⟨rfl, _, rfl⟩ ?_ ?_
  · rintro i s M N hi ⟨rfl, x, rfl⟩ hN
    have h0 := hle i
    have x1 : atI (ks.map (kn A)) (hold ks pl i : Nat) = some (kn A (ks.getD (hold ks pl i) default)) := atI_mapN default (by omega)
    have x2 : atI (ks.map (kn A)) (1 + (i : Int)) = some (kn A (ks.getD (i + 1) default)) := by
      rw [show 1 + (i : Int) = ((i + 1 : Nat) : Int) by omega]
      exact atI_mapN default (by omega)
    refine ⟨trivial, ?_⟩
    walk_at "go"
    refine v_ix rfl x1 ?_
    walk_at "go"
    refine v_ix rfl x2 ?_
    walk_at "go"
    refine ⟨p, _, _, pl, rfl, hp, hw _ (mem _ (by omega)), hw _ (mem _ (by omega)), hpl, ?_⟩
    walk_at "go"
    refine way_by (fun e => ?_) fun e => ?_
    · walk_at "go"
      refine hN _ _ ⟨rfl, some (.int (1 + (i : Int))), ?_⟩
      show _ = [_, _, some (DV.int ((if older _ _ pl then i + 1 else hold ks pl i : Nat) : Int)), _]
      rw [if_pos e, show 1 + (i : Int) = ((i + 1 : Nat) : Int) by omega]
      rfl
    · walk_at "go"
      refine hN _ _ ⟨rfl, some (.int (1 + (i : Int))), ?_⟩
      show _ = [_, _, some (DV.int ((if older _ _ pl then i + 1 else hold ks pl i : Nat) : Int)), _]
      rw [if_neg (by rw [e]; exact Bool.false_ne_true)]
      rfl
  · rintro s M ⟨rfl, x, rfl⟩
    refine ⟨trivial, ?_⟩
    walk_at "go"
    exact h
theorem r_fresh_label (A : Ads) : ∀ ds Q, sp_fresh_label A ds Q → c_fresh_label A { nx := fun _ _ => Q .non, rt := fun d _ => Q d } (dstart ["known", "letter", "letters", "used", "one", "label"] ds) [] := by
  rintro _ Q ⟨p, ks, e, m, rfl, hp, hk4, hw, he, hem, hm6, h⟩
  show c_fresh_label A _ [some _, some _, some _, none, none, none] []
  unfold c_fresh_label
  walk_at "go"
  intro u hu
  walk_at "go"
  -- behind i of them: the dict knows just the labels of these
  have many : ∀ l : List KD, (∀ k, k ∈ l → k ∈ ks) → (l.flatMap flat).length ≤ l.length * 84 := fun l => by
    induction l with
    | nil => intro _; simp
    | cons k l ih =>
      intro hl
      have h1 := ih fun y hy => hl y (List.mem_cons_of_mem _ hy)
      have h2 := flat_small (hw k (hl k List.mem_cons_self)) hp
      rw [List.flatMap_cons, List.length_append, List.length_cons, Nat.succ_mul]
      omega
  refine for_enc ks (kn A) (fun i s M => ∃ (kvs : List (Key × DV)) (x y : Option DV), s = [some (.lst (ks.map (kn A))), some (.int e), some (.int m), some (.ref u), x, y] ∧ M = [(u, .dK kvs)] ∧ (∀ z : Int, (dvalV kvs (.inl z)).isSome = true ↔ z ∈ (ks.take i).flatMap flat) ∧ kvs.length ≤ i * 84)
    ⟨[], _, _, rfl, rfl, fun z => by simp [dvalV], by simp⟩ ?_ ?_
  · rintro i k s M N hi ⟨kvs, x, y, rfl, rfl, hv, hkl⟩ hN
    have hkm := hw k (List.mem_of_getElem? hi)
    have hfs := flat_small hkm hp
    have hi4 : i < ks.length := (List.getElem?_eq_some_iff.mp hi).1
    refine ⟨trivial, ?_⟩
    walk_at "go"
    refine ⟨p, k, rfl, hkm, hp, ?_⟩
    walk_at "go"
    refine for_enc (flat k) DV.int (fun j s M => ∃ (kvs2 : List (Key × DV)) (y : Option DV), s = [some (.lst (ks.map (kn A))), some (.int e), some (.int m), some (.ref u), some (kn A k), y] ∧ M = [(u, .dK kvs2)] ∧ (∀ z : Int, (dvalV kvs2 (.inl z)).isSome = true ↔ z ∈ (ks.take i).flatMap flat ∨ z ∈ (flat k).take j) ∧ kvs2.length ≤ i * 84 + j)
      ⟨kvs, _, rfl, rfl, fun z => by simp [hv z], by omega⟩ ?_ ?_
    · rintro j z s M N2 hj ⟨kvs2, y, rfl, rfl, hv2, hkl2⟩ hN2
      have hj1 : j < (flat k).length := (List.getElem?_eq_some_iff.mp hj).1
      refine ⟨trivial, ?_⟩
      walk_at "go"
      refine w_stK get_here rfl (by rw [sizeLine_eq]; omega) put_here ?_
      have hle := len_put (v := DV.bl true) (k := (Sum.inl z : Key)) (kvs := kvs2)
      refine hN2 _ _ ⟨_, _, rfl, rfl, fun z' => ?_, by omega⟩
      rw [val_put, take_at hj]
      by_cases ez : z' = z
      · subst ez; simp
      · rw [if_neg (fun w => ez (Sum.inl.inj w)), hv2 z']
        simp [ez]
    · rintro s M ⟨kvs2, y, rfl, rfl, hv2, hkl2⟩
      refine ⟨trivial, hN _ _ ⟨kvs2, _, _, rfl, rfl, fun z => ?_, by omega⟩⟩
      rw [hv2 z, List.take_length, take_at hi]
      simp
  · rintro s M ⟨kvs, x, y, rfl, rfl, hv, hkl⟩
    rw [List.take_length] at hv
    refine ⟨trivial, ?_⟩
    walk_at "go"
    have hF := many ks fun _ h => h
    refine while_by (fun a s M => ∃ lab : Int, s = [some (.lst (ks.map (kn A))), some (.int e), some (.int m), some (.ref u), x, some (.int lab)] ∧ M = [(u, .dK kvs)] ∧ 1 ≤ lab ∧ (lab - 1) % m = e ∧ a = above lab (ks.flatMap flat) ∧ lab + m * (a : Int) ≤ 1 + e + m * ((ks.flatMap flat).length : Int)) (above (1 + e) (ks.flatMap flat)) ⟨1 + e, rfl, rfl, by omega, ?_, rfl, ?_⟩ ?_
    · rw [show 1 + e - 1 = e by omega]; exact Int.emod_eq_of_lt he hem
    · have := Int.mul_le_mul_of_nonneg_left (c := m) (Int.ofNat_le.mpr (above_le (1 + e) (ks.flatMap flat))) (by omega)
      omega
    · rintro a s M N ⟨lab, rfl, rfl, h1, h2, rfl, h4⟩ hN
      walk_at "go"
      refine v_inK get_here rfl ?_
      walk_at "go"
      refine way_cast (hv lab) (fun hin => ?_) fun hout => ?_
      · have lt := above_lt (by omega : 0 < m) hin
        refine s_aug rfl ?_
        walk_at "go"
        refine hN _ _ _ lt ⟨lab + m, rfl, rfl, by omega, ?_, rfl, ?_⟩
        · rw [show lab + m - 1 = lab - 1 + m by omega, Int.add_emod_right]; exact h2
        · have := Int.mul_le_mul_of_nonneg_left (c := m) (Int.ofNat_le.mpr lt) (by omega)
          rw [Int.natCast_succ, Int.mul_add, Int.mul_one] at this
          omega
      · walk_at "go"
        refine h lab ⟨h1, ?_, h2, fun k hk hx => hout (List.mem_flatMap.mpr ⟨k, hk, hx⟩)⟩
        have g1 : (0 : Int) ≤ m * (above lab (ks.flatMap flat) : Int) := Int.mul_nonneg (by omega) (by omega)
        have g2 : m * ((ks.flatMap flat).length : Int) ≤ 6 * 336 := by
          have g3 : ((ks.flatMap flat).length : Int) ≤ 336 := by
            have : ks.length * 84 ≤ 4 * 84 := Nat.mul_le_mul_right _ hk4
            omega
          exact Int.mul_le_mul hm6 g3 (by omega) (by omega)
        omega
theorem r_met (A : Ads) : ∀ ds Q, sp_met A ds Q → c_met A { nx := fun _ _ => Q .non, rt := fun d _ => Q d } (dstart ["known", "letter", "alphabet", "there", "label", "holders", "first", "place", "second", "third"] ds) [] := by
  rintro _ Q ⟨p, ks, e, L, rfl, hA, hk1, hk4, hw, he, h⟩
  show c_met A _ [some _, some _, some _, none, none, none, none, none, none, none] []
  unfold c_met
  have hp1 := hA.n1
  have hp4 := hA.n4
  have hL6 := hA.l6
  have xe : atI (L.map encL) (e : Int) = some (encL (L.getD e [])) := atI_mapN [] he
  walk_at "go"
  refine v_ix rfl xe ?_
  walk_at "go"
  refine ⟨p, ks, e, L.length, by rw [List.length_map], hp4, hk4, hw, by omega, by omega, by omega, fun lab hlab => ?_⟩
  have hQ := h lab hlab
  generalize L.getD e [] = there at hQ
  walk_at "go"
  have hold_lt : ∀ pl, hold ks pl (ks.length - 1) < ks.length := fun pl => by
    have : ∀ i, hold ks pl i ≤ i := fun i => by
      induction i with
      | zero => exact Nat.le_refl _
      | succ i ih => unfold hold; split <;> omega
    have := this (ks.length - 1)
    omega
  have hold_wf : ∀ pl, WfK p (holder ks pl) := fun pl => by
    have := hold_lt pl
    unfold holder
    rw [List.getD_eq_getElem?_getD, List.getElem?_eq_getElem this]
    exact hw _ (List.getElem_mem this)
  rw [rng_map, Int.toNat_natCast]
  refine comp_enc (List.range p) (fun (k : Nat) => DV.int (k : Int)) (fun _ => true) (fun pl => DV.int (hold ks pl (ks.length - 1) : Nat)) trivial (by simp [sizeLine_eq]; omega) (fun pl hpl => ⟨_, rfl, fun Q' q => by walk_at "go"; exact q, fun _ Q' q => ?_⟩) ?_
  · walk_at "go"
    exact ⟨p, ks, pl, rfl, hp4, hk1, hk4, hw, List.mem_range.mp hpl, q⟩
  rw [List.filter_eq_self.mpr (fun _ _ => rfl)]
  have xh : ∀ i : Nat, i < p → atI ((List.range p).map fun pl => DV.int (hold ks pl (ks.length - 1) : Nat)) (i : Int) = some (.int (hold ks i (ks.length - 1) : Nat)) := fun i hi => by
    have := atI_mapN (f := fun pl => DV.int (hold ks pl (ks.length - 1) : Nat)) (xs := List.range p) 0 (i := i) (by simpa using hi)
    simpa [List.getD_eq_getElem?_getD, hi] using this
  have xk : ∀ i : Nat, atI (ks.map (kn A)) (hold ks i (ks.length - 1) : Nat) = some (kn A (holder ks i)) := fun i => atI_mapN default (hold_lt i)
  generalize hHS : ((List.range p).map fun pl => DV.int (hold ks pl (ks.length - 1) : Nat)) = HS at xh ⊢
  walk_at "go"
  refine s_nlT fun q1 hq1 => ?_
  walk_at "go"
  refine for_rng0 (fun i s M => ∃ x y, s = [some (.lst (ks.map (kn A))), some (.int e), some (alph A p L), some (encL there), some (.int lab), some (.lst HS), some (.ref q1), x, none, none] ∧ y = (List.range i).map (fun (pl : Nat) => if (pl : Int) ∈ there then lab else (holder ks pl).f.getD pl 0) ∧ M = [(q1, .lst (y.map DV.int))]) ⟨_, _, rfl, rfl, rfl⟩ ?_ ?_
  · rintro i s M N hi ⟨x, y, rfl, rfl, rfl⟩ hN
    rw [Int.toNat_natCast] at hi
    have fin : ∀ v : Int, v = (if (i : Int) ∈ there then lab else (holder ks i).f.getD i 0) → N [some (.lst (ks.map (kn A))), some (.int e), some (alph A p L), some (encL there), some (.int lab), some (.lst HS), some (.ref q1), some (.int i), none, none] [(q1, .lst (((List.range i).map (fun (pl : Nat) => if (pl : Int) ∈ there then lab else (holder ks pl).f.getD pl 0)).map DV.int ++ [.int v]))] := fun v hv => hN _ _ ⟨_, _, rfl, rfl, by rw [List.range_succ, List.map_append, List.map_append, hv]; rfl⟩
    refine ⟨trivial, ?_⟩
    walk_at "go"
    refine way_dec (fun z => ?_) fun z => ?_
    · walk_at "go"
      exact fin _ (by rw [if_pos z])
    · walk_at "go"
      refine v_ix rfl (xh i hi) ?_
      walk_at "go"
      refine v_ix rfl (xk i) ?_
      walk_at "go"
      have := (hold_wf i).f
      refine v_ix rfl (atI_mapN 0 (by omega)) ?_
      walk_at "go"
      exact fin _ (by rw [if_neg z])
  rintro s M ⟨x, y, rfl, rfl, rfl⟩
  rw [Int.toNat_natCast]
  change (_ ∧ _ : Prop)
  refine ⟨trivial, ?_⟩
  have eF : (List.range p).map (fun (pl : Nat) => if (pl : Int) ∈ there then lab else (holder ks pl).f.getD pl 0) = metF p there lab ks := rfl
  rw [eF]
  have lF : (metF p there lab ks).length = p := by simp [metF]
  walk_at "go"
  refine s_nlT fun q2 hq2 => ?_
  have n21 := fresh_ne hq2
  walk_at "go"
  refine for_rng0 (fun i s M => ∃ x y, s = [some (.lst (ks.map (kn A))), some (.int e), some (alph A p L), some (encL there), some (.int lab), some (.lst HS), some (.ref q1), x, some (.ref q2), none] ∧ y = (List.range i).map (fun (pl : Nat) => if (pl : Int) ∈ there then metF p there lab ks else (holder ks pl).s.getD pl []) ∧ M = [(q2, .lst (y.map encL)), (q1, .lst ((metF p there lab ks).map DV.int))]) ⟨_, _, rfl, rfl, rfl⟩ ?_ ?_
  · rintro i s M N hi ⟨x, y, rfl, rfl, rfl⟩ hN
    rw [Int.toNat_natCast] at hi
    have fin : ∀ v : List Int, v = (if (i : Int) ∈ there then metF p there lab ks else (holder ks i).s.getD i []) → N [some (.lst (ks.map (kn A))), some (.int e), some (alph A p L), some (encL there), some (.int lab), some (.lst HS), some (.ref q1), some (.int i), some (.ref q2), none] [(q2, .lst (((List.range i).map (fun (pl : Nat) => if (pl : Int) ∈ there then metF p there lab ks else (holder ks pl).s.getD pl [])).map encL ++ [encL v])), (q1, .lst ((metF p there lab ks).map DV.int))] := fun v hv => hN _ _ ⟨_, _, rfl, rfl, by rw [List.range_succ, List.map_append, List.map_append, hv]; rfl⟩
    refine ⟨trivial, ?_⟩
    walk_at "go"
    refine way_dec (fun z => ?_) fun z => ?_
    · walk_at "go"
      exact fin _ (by rw [if_pos z])
    · walk_at "go"
      refine v_ix rfl (xh i hi) ?_
      walk_at "go"
      refine v_ix rfl (xk i) ?_
      walk_at "go"
      have := (hold_wf i).s
      refine v_ix rfl (atI_mapN [] (by omega)) ?_
      walk_at "go"
      exact fin _ (by rw [if_neg z])
  rintro s M ⟨x, y, rfl, rfl, rfl⟩
  rw [Int.toNat_natCast]
  change (_ ∧ _ : Prop)
  refine ⟨trivial, ?_⟩
  have eS : (List.range p).map (fun (pl : Nat) => if (pl : Int) ∈ there then metF p there lab ks else (holder ks pl).s.getD pl []) = metS p there lab ks := rfl
  rw [eS]
  have lS : (metS p there lab ks).length = p := by simp [metS]
  walk_at "go"
  refine s_nlT fun q3 hq3 => ?_
  have n32 := fresh_ne hq3
  have n31 := fresh_ne (fresh_tl hq3)
  walk_at "go"
  refine for_rng0 (fun i s M => ∃ x y, s = [some (.lst (ks.map (kn A))), some (.int e), some (alph A p L), some (encL there), some (.int lab), some (.lst HS), some (.ref q1), x, some (.ref q2), some (.ref q3)] ∧ y = (List.range i).map (fun (pl : Nat) => if (pl : Int) ∈ there then metS p there lab ks else (holder ks pl).t.getD pl []) ∧ M = [(q3, .lst (y.map encM)), (q2, .lst ((metS p there lab ks).map encL)), (q1, .lst ((metF p there lab ks).map DV.int))]) ⟨_, _, rfl, rfl, rfl⟩ ?_ ?_
  · rintro i s M N hi ⟨x, y, rfl, rfl, rfl⟩ hN
    rw [Int.toNat_natCast] at hi
    have fin : ∀ v : List (List Int), v = (if (i : Int) ∈ there then metS p there lab ks else (holder ks i).t.getD i []) → N [some (.lst (ks.map (kn A))), some (.int e), some (alph A p L), some (encL there), some (.int lab), some (.lst HS), some (.ref q1), some (.int i), some (.ref q2), some (.ref q3)] [(q3, .lst (((List.range i).map (fun (pl : Nat) => if (pl : Int) ∈ there then metS p there lab ks else (holder ks pl).t.getD pl [])).map encM ++ [encM v])), (q2, .lst ((metS p there lab ks).map encL)), (q1, .lst ((metF p there lab ks).map DV.int))] := fun v hv => hN _ _ ⟨_, _, rfl, rfl, by rw [List.range_succ, List.map_append, List.map_append, hv]; rfl⟩
    refine ⟨trivial, ?_⟩
    walk_at "go"
    refine way_dec (fun z => ?_) fun z => ?_
    · walk_at "go"
      exact fin _ (by rw [if_pos z])
    · walk_at "go"
      refine v_ix rfl (xh i hi) ?_
      walk_at "go"
      refine v_ix rfl (xk i) ?_
      walk_at "go"
      have := (hold_wf i).t
      refine v_ix rfl (atI_mapN [] (by omega)) ?_
      walk_at "go"
      exact fin _ (by rw [if_neg z])
  rintro s M ⟨x, y, rfl, rfl, rfl⟩
  rw [Int.toNat_natCast]
  change (_ ∧ _ : Prop)
  refine ⟨trivial, ?_⟩
  have eT : (List.range p).map (fun (pl : Nat) => if (pl : Int) ∈ there then metS p there lab ks else (holder ks pl).t.getD pl []) = metT p there lab ks := rfl
  rw [eT]
  walk_at "go"
  intro x
  exact ⟨_, _, _, _, rfl, rfl, rfl, _, _, get_here, hQ⟩
theorem r_News_start (A : Ads) : ∀ ds Q, sp_News_start A ds Q → c_News_start A { nx := fun _ _ => Q .non, rt := fun d _ => Q d } (dstart ["self"] ds) [] := by
  rintro _ Q ⟨p, L, rfl, hA, h⟩
  show c_News_start A _ [some _] []
  unfold c_News_start
  have hp1 := hA.n1
  have hp4 := hA.n4
  walk_at "go"
  refine ⟨p, rfl, hp1, hp4, ?_⟩
  walk_at "go"
  refine ⟨p, zeroK p, rfl, zero_wf p, hp4, ?_⟩
  walk_at "go"
  refine v_mulT (by simp) (by omega) (by omega) (by rw [sizeLine_eq, Int.toNat_natCast]; simp; omega) ?_
  rw [Int.toNat_natCast, rep_one]
  walk_at "go"
  rw [List.map_replicate] at h
  exact h
theorem r_News_meet (A : Ads) : ∀ ds Q, sp_News_meet A ds Q → c_News_meet A { nx := fun _ _ => Q .non, rt := fun d _ => Q d } (dstart ["self", "letter", "states", "known", "state"] ds) [] := by
  rintro _ Q ⟨p, ks, e, L, rfl, hA, hk1, hk4, hw, he, h⟩
  show c_News_meet A _ [some _, some _, some _, none, none] []
  unfold c_News_meet
  have hp1 := hA.n1
  have hp4 := hA.n4
  walk_at "go"
  refine comp_enc ks encS (fun _ => true) (kn A) trivial (by rw [sizeLine_eq]; omega) (fun k hk => ⟨_, rfl, fun Q' q => by walk_at "go"; exact q, fun _ Q' q => ?_⟩) ?_
  · walk_at "go"
    exact ⟨p, k, rfl, hp1, hp4, hw k hk, q⟩
  rw [List.filter_eq_self.mpr (fun _ _ => rfl)]
  walk_at "go"
  refine ⟨p, ks, e, L, rfl, hA, hk1, hk4, hw, he, fun lab hlab => ?_⟩
  walk_at "go"
  refine ⟨p, _, rfl, met_wf hk1 hw, hp4, ?_⟩
  walk_at "go"
  rw [List.length_map]
  refine v_mulT (by simp) (by omega) (by omega) (by rw [sizeLine_eq, Int.toNat_natCast]; simp; omega) ?_
  rw [Int.toNat_natCast, rep_one]
  walk_at "go"
  have := h lab hlab
  rw [List.map_replicate] at this
  exact this
theorem r_News_compare (A : Ads) : ∀ ds Q, sp_News_compare A ds Q → c_News_compare A { nx := fun _ _ => Q .non, rt := fun d _ => Q d } (dstart ["self", "first", "second", "place", "one", "two"] ds) [] := by
  rintro _ Q ⟨p, L, a, b, pl, rfl, hA, ha, hb, hpl, h⟩
  show c_News_compare A _ [some _, some _, some _, some _, none, none] []
  unfold c_News_compare
  unfold cmpK at h
  have hp1 := hA.n1
  have hp4 := hA.n4
  have fa := ha.f
  have fb := hb.f
  walk_at "go"
  refine ⟨p, a, rfl, hp1, hp4, ha, ?_⟩
  walk_at "go"
  refine ⟨p, b, rfl, hp1, hp4, hb, ?_⟩
  walk_at "go"
  refine v_ix rfl (atI_mapN 0 (by omega)) ?_
  walk_at "go"
  refine v_ix rfl (atI_mapN 0 (by omega)) ?_
  walk_at "go"
  refine way_dec (fun e => ?_) fun e => ?_
  · walk_at "go"
    rw [if_pos e] at h
    exact h
  rw [if_neg e] at h
  walk_at "go"
  refine ⟨p, a, b, pl, rfl, hp4, ha, hb, hpl, ?_⟩
  walk_at "go"
  refine way_by (fun e => ?_) fun e => ?_
  · walk_at "go"
    rw [if_pos e] at h
    exact h
  · walk_at "go"
    rw [if_neg (by rw [e]; exact Bool.false_ne_true)] at h
    exact h
theorem r_law_small_state (A : Ads) : ∀ ds Q, sp_law_small_state A ds Q → c_law_small_state A { nx := fun _ _ => Q .non, rt := fun d _ => Q d } (dstart ["actual", "most", "number"] ds) [] := by
  rintro _ Q ⟨l, rfl, hl, hr, h⟩
  show c_law_small_state A _ [some _, some _, none] []
  unfold c_law_small_state
  walk_at "go"
  refine v_isi (tn := "tuple") rfl rfl ?_
  walk_at "go"
  rw [List.length_map]
  walk_at "gow"
  refine for_enc l DV.int (fun i s M => M = [] ∧ ∃ x, s = [some (encL l), some (.int 300), x]) ⟨rfl, _, rfl⟩ ?_ ?_
  · rintro i n s M N hi ⟨rfl, x, rfl⟩ hN
    have hn := hr n (List.mem_of_getElem? hi)
    refine ⟨trivial, ?_⟩
    walk_at "go"
    refine ⟨n, rfl, ?_⟩
    walk_at "gow"
    exact hN _ _ ⟨rfl, _, rfl⟩
  · rintro s M ⟨rfl, x, rfl⟩
    refine ⟨trivial, ?_⟩
    walk_at "go"
    exact h
theorem r_law_meet (A : Ads) : ∀ ds Q, sp_law_meet A ds Q → c_law_meet A { nx := fun _ _ => Q .non, rt := fun d _ => Q d } (dstart ["machines", "letters", "states", "letter", "there", "after", "found", "k", "place"] ds) [] := by
  rintro _ Q ⟨p, L, st, e, rfl, hA, hs, hw, he, h⟩
  show c_law_meet A _ [some _, some _, some _, some _, none, none, none, none, none] []
  unfold c_law_meet
  have hp1 := hA.n1
  have hp4 := hA.n4
  have xe : atI (L.map encL) (e : Int) = some (encL (L.getD e [])) := atI_mapN [] he
  have ht := hA.fit _ (getD_mem (d := []) he)
  walk_at "go"
  refine v_ix rfl xe ?_
  generalize hth : L.getD e [] = there at ht h
  have htl := fits_len ht
  walk_at "go"
  refine comp_enc there DV.int (fun _ => true) (fun pl => encS (st.getD pl.toNat default)) trivial (by rw [sizeLine_eq]; omega) (fun pl hpl => ⟨_, rfl, fun Q' q => by walk_at "go"; exact q, fun _ Q' q => ?_⟩) ?_
  · have hx := fits_in ht hpl
    walk_at "go"
    exact v_ix rfl (atI_mapI default hx.1 (by omega)) q
  rw [List.filter_eq_self.mpr (fun _ _ => rfl)]
  walk_at "go"
  refine ⟨p, part there st, e, L, by unfold part; rw [List.map_map]; rfl, hA, by rw [part_len]; exact htl.1, by rw [part_len]; omega, part_wf ht hs hw, he, fun lab hlab => ?_⟩
  have hQ := h lab hlab
  rw [hth]
  walk_at "go"
  refine v_isi (tn := "tuple") rfl rfl ?_
  walk_at "go"
  rw [List.length_map, List.length_map, List.length_replicate, part_len]
  walk_at "gow"
  refine s_nlT fun q hq => ?_
  walk_at "go"
  rw [List.length_map]
  walk_at "go"
  have e0 : st.map encS = ((List.range p).map fun (pl : Nat) => if (pl : Int) ∈ there.take 0 then metK p there lab (part there st) else st.getD pl default).map encS := by
    rw [List.map_map, ← map_range_getD st default encS, hs]
    rfl
  rw [e0]
  refine for_rng0 (fun i s M => ∃ x y, s = [some (news A p L), some (.lst (L.map encL)), some (.lst (st.map encS)), some (.int e), some (encL there), some (.tup ((List.replicate there.length (metK p there lab (part there st))).map encS)), some (.ref q), x, y] ∧ M = [(q, .lst (((List.range p).map fun (pl : Nat) => if (pl : Int) ∈ there.take i then metK p there lab (part there st) else st.getD pl default).map encS))]) ⟨_, _, by rw [← e0]; rfl, rfl⟩ ?_ ?_
  · rintro i s M N hi ⟨x, y, rfl, rfl⟩ hN
    rw [Int.toNat_natCast] at hi
    have hti : there[i]? = some (there.getD i 0) := by rw [List.getD_eq_getElem?_getD, List.getElem?_eq_getElem hi]; rfl
    have hx := fits_in ht (getD_mem (d := 0) hi)
    refine ⟨trivial, ?_⟩
    walk_at "go"
    refine v_ix rfl (atI_mapN 0 hi) ?_
    walk_at "go"
    refine v_ix rfl (atI_mapN default (by rw [List.length_replicate]; exact hi)) ?_
    walk_at "go"
    refine w_stL get_here (ix_at hx.1 (by rw [List.length_map, List.length_map, List.length_range]; exact hx.2)) put_here ?_
    refine hN _ _ ⟨_, _, rfl, ?_⟩
    rw [← put_places p default _ st there hs hti hx.1 hx.2, List.map_set, List.getD_eq_getElem?_getD (l := List.replicate _ _), List.getElem?_replicate, if_pos hi]
    rfl
  · rintro s M ⟨x, y, rfl, rfl⟩
    rw [Int.toNat_natCast, List.take_length]
    refine ⟨trivial, ?_⟩
    walk_at "go"
    exact hQ
theorem r_law_told (A : Ads) : ∀ ds Q, sp_law_told A ds Q → c_law_told A { nx := fun _ _ => Q .non, rt := fun d _ => Q d } (dstart ["count", "letters", "known", "letter", "number", "there", "row", "place", "other"] ds) [] := by
  rintro _ Q ⟨p, L, rows, e, num, rfl, hA, hs, hw, he, h⟩
  show c_law_told A _ [some _, some _, some _, some _, some _, none, none, none, none] []
  unfold c_law_told
  have hp1 := hA.n1
  have hp4 := hA.n4
  have xe : atI (L.map encL) (e : Int) = some (encL (L.getD e [])) := atI_mapN [] he
  have ht := hA.fit _ (getD_mem (d := []) he)
  walk_at "go"
  refine v_ix rfl xe ?_
  generalize L.getD e [] = there at ht h
  have htl := fits_len ht
  walk_at "go"
  rw [rng_map, Int.toNat_natCast]
  refine comp_enc (List.range p) (fun (k : Nat) => DV.int (k : Int)) (fun _ => true) (fun o => DV.int (maxI (there.map fun pl => (rows.getD pl.toNat []).getD o 0))) trivial (by simp [sizeLine_eq]; omega) (fun o ho => ⟨_, rfl, fun Q' q => by walk_at "go"; exact q, fun _ Q' q => ?_⟩) ?_
  · have ho := List.mem_range.mp ho
    walk_at "go"
    refine comp_enc there DV.int (fun _ => true) (fun pl => DV.int ((rows.getD pl.toNat []).getD o 0)) trivial (by rw [sizeLine_eq]; omega) (fun pl hpl => ⟨_, rfl, fun Q' q => by walk_at "go"; exact q, fun _ Q' q => ?_⟩) ?_
    · have hx := fits_in ht hpl
      have hr := hw _ (getD_mem (l := rows) (i := pl.toNat) (d := []) (by omega))
      walk_at "go"
      refine v_ix rfl (atI_mapI (f := fun r : List Int => DV.lst (r.map DV.int)) [] hx.1 (by omega)) ?_
      walk_at "go"
      exact v_ix rfl (atI_mapN 0 (by omega)) q
    · rw [List.filter_eq_self.mpr (fun _ _ => rfl)]
      walk_at "go"
      rw [show (there.map fun pl => DV.int ((rows.getD pl.toNat []).getD o 0)) = (there.map fun pl => (rows.getD pl.toNat []).getD o 0).map DV.int by rw [List.map_map]; rfl]
      refine v_max ints_lst (fun k hk hb => ?_) (by rw [List.length_map]; omega)
      rw [maxI_spec hk hb]
      exact q
  rw [List.filter_eq_self.mpr (fun _ _ => rfl)]
  refine s_nlT fun q hq => ?_
  walk_at "go"
  rw [show ((List.range p).map fun o => DV.int (maxI (there.map fun pl => (rows.getD pl.toNat []).getD o 0))) = ((List.range p).map fun (pl : Nat) => if (pl : Int) ∈ there.take 0 then num else ((List.range p).map fun o => maxI (there.map fun pl => (rows.getD pl.toNat []).getD o 0)).getD pl 0).map DV.int by
    rw [List.map_map]
    refine List.map_congr_left fun o ho => ?_
    have ho := List.mem_range.mp ho
    simp [List.getD_eq_getElem?_getD, ho]]
  generalize hR : ((List.range p).map fun o => maxI (there.map fun pl => (rows.getD pl.toNat []).getD o 0)) = R
  have lR : R.length = p := by rw [← hR]; simp
  refine for_enc there DV.int (fun i s M => ∃ x, s = [some (.int p), some (.lst (L.map encL)), some (encR rows), some (.int e), some (.int num), some (encL there), some (.ref q), x, none] ∧ M = [(q, .lst (((List.range p).map fun (pl : Nat) => if (pl : Int) ∈ there.take i then num else R.getD pl 0).map DV.int))]) ⟨_, rfl, rfl⟩ ?_ ?_
  · rintro i x s M N hi ⟨y, rfl, rfl⟩ hN
    have hx := fits_in ht (List.mem_of_getElem? hi)
    refine ⟨trivial, ?_⟩
    walk_at "go"
    refine w_stL get_here (ix_at hx.1 (by rw [List.length_map, List.length_map, List.length_range]; exact hx.2)) put_here ?_
    refine hN _ _ ⟨_, rfl, ?_⟩
    rw [← put_places p 0 num R there lR hi hx.1 hx.2, List.map_set]
  · rintro s M ⟨y, rfl, rfl⟩
    rw [List.take_length]
    have eT : ((List.range p).map fun (pl : Nat) => if (pl : Int) ∈ there then num else R.getD pl 0) = toldR p there rows num := by
      unfold toldR
      refine List.map_congr_left fun o ho => ?_
      have ho := List.mem_range.mp ho
      rw [← hR]
      simp [List.getD_eq_getElem?_getD, ho]
    rw [eT]
    refine ⟨trivial, ?_⟩
    walk_at "go"
    rw [rng_map, Int.toNat_natCast]
    refine comp_enc (List.range p) (fun (k : Nat) => DV.int (k : Int)) (fun _ => true) (fun (pl : Nat) => DV.lst ((if (pl : Int) ∈ there then toldR p there rows num else rows.getD pl []).map DV.int)) trivial (by simp [sizeLine_eq]; omega) (fun pl hpl => ⟨_, rfl, fun Q' q => by walk_at "go"; exact q, fun _ Q' q => ?_⟩) ?_
    · have hpl := List.mem_range.mp hpl
      walk_at "go"
      refine way_dec (fun z => ?_) fun z => ?_
      · walk_at "go"
        rw [if_pos z] at q
        exact q
      · walk_at "go"
        rw [if_neg z] at q
        exact v_ix rfl (atI_mapN (f := fun r : List Int => DV.lst (r.map DV.int)) [] (by omega)) q
    · rw [List.filter_eq_self.mpr (fun _ _ => rfl)]
      walk_at "go"
      unfold toldS encR at h
      rw [List.map_map] at h
      exact h
def six : List (List Int) := [[0, 1], [1], [0], [1, 2], [0, 1, 2], [0, 1, 2, 3]]
instance {l : List Int} {n : Int} : Decidable (Fits l n) := by unfold Fits; infer_instance
theorem six_alph {n p : Nat} (h : (n = 4 ∧ p = 3) ∨ (n = 5 ∧ p = 3) ∨ (n = 6 ∧ p = 4)) : Alph p (six.take n) := by
  rcases h with ⟨rfl, rfl⟩ | ⟨rfl, rfl⟩ | ⟨rfl, rfl⟩ <;> exact ⟨by decide, by decide, by decide, by decide, by decide, by decide⟩
theorem r_law_left_behind (A : Ads) : ∀ ds Q, sp_law_left_behind A ds Q → c_law_left_behind A { nx := fun _ _ => Q .non, rt := fun d _ => Q d } (dstart ["more", "shape", "letters", "count"] ds) [] := by
  rintro _ Q ⟨a, b, rfl, ha0, ha3, hb0, hb2, h⟩
  show c_law_left_behind A _ [some _, some _, none, none] []
  unfold c_law_left_behind
  have key : ∀ (n p : Nat), ((n = 4 ∧ p = 3) ∨ (n = 5 ∧ p = 3) ∨ (n = 6 ∧ p = 4)) → ∀ (w : List Int), (w = [1] ∨ w = [3]) → Q (.tup [.int p, .lst ((six.take n).map encL), encL [0], encL w]) := fun n p hnp w hw => h p _ [0] w (six_alph hnp) rfl hw (by rcases hnp with ⟨rfl, _⟩ | ⟨rfl, _⟩ | ⟨rfl, _⟩ <;> decide)
  walk_at "go"
  have cut : ∀ n : Nat, cutD [DV.tup [.int 0, .int 1], .tup [.int 1], .tup [.int 0], .tup [.int 1, .int 2], .tup [.int 0, .int 1, .int 2], .tup [.int 0, .int 1, .int 2, .int 3]] none (some (n : Int)) = (six.take n).map encL := fun n => cut_pre (xs := six) (f := encL) n
  obtain ⟨n, p, hn, hp, hnp⟩ : ∃ n p : Nat, 4 + a = n ∧ (3 : Int) + (if decide (1 < a) = true then 1 else 0) = p ∧ ((n = 4 ∧ p = 3) ∨ (n = 5 ∧ p = 3) ∨ (n = 6 ∧ p = 4)) := by
    rcases (by omega : a = 0 ∨ a = 1 ∨ a = 2) with rfl | rfl | rfl
    · exact ⟨4, 3, rfl, rfl, .inl ⟨rfl, rfl⟩⟩
    · exact ⟨5, 3, rfl, rfl, .inr (.inl ⟨rfl, rfl⟩)⟩
    · exact ⟨6, 4, rfl, rfl, .inr (.inr ⟨rfl, rfl⟩)⟩
  rw [hn, cut n]
  walk_at "go"
  rw [hp]
  refine way_dec (fun e => ?_) fun e => ?_
  · walk_at "go"
    exact key n p hnp [1] (.inl rfl)
  · walk_at "go"
    exact key n p hnp [3] (.inr rfl)
/-! ### who knows which event: the plain law -/
structure Inv (p N : Nat) (P : Nat → Nat → Prop) (V : Nat → Nat → Nat) (T : Nat → Nat) : Prop where
  v0 : ∀ r, V 0 r = 0
  vle : ∀ e r, V e r ≤ e
  pp : ∀ e r, P e r → r < p
  vown : ∀ e r, 1 ≤ e → e ≤ N → P e r → V e r = e
  vpl : ∀ e r, e ≤ N → V e r ≠ 0 → P (V e r) r
  vtr : ∀ e r x, e ≤ N → P x r → 1 ≤ x → x ≤ V e r → ∀ s, V x s ≤ V e s
  vtop : ∀ e r m, e ≤ N → P m r → 1 ≤ m → m ≤ V e r → m ≠ e → ∃ s, P m s ∧ m < V e s
  tle : ∀ r, T r ≤ N
  tpl : ∀ r, T r ≠ 0 → P (T r) r
  tlast : ∀ e r, 1 ≤ e → e ≤ N → P e r → e ≤ T r
def In (P : Nat → Nat → Prop) (V : Nat → Nat → Nat) (x e : Nat) : Prop := ∃ r, P x r ∧ 1 ≤ x ∧ x ≤ V e r
section
variable {p N : Nat} {P : Nat → Nat → Prop} {V : Nat → Nat → Nat} {T : Nat → Nat} {x m e e1 e2 r s : Nat}
theorem In.le (I : Inv p N P V T) (h : In P V x e) : x ≤ e := by obtain ⟨r, _, _, h⟩ := h; exact Nat.le_trans h (I.vle e r)
theorem In.mono (I : Inv p N P V T) (he : e ≤ N) (h : In P V x e) (s : Nat) : V x s ≤ V e s := by obtain ⟨r, h1, h2, h3⟩ := h; exact I.vtr e r x he h1 h2 h3 s
theorem In.all (I : Inv p N P V T) (he : e ≤ N) (h : In P V x e) (hs : P x s) : x ≤ V e s := by
  have h1 := h.mono I he s
  have h2 := h.le I
  obtain ⟨r, _, h3, _⟩ := h
  rwa [I.vown x s h3 (by omega) hs] at h1
theorem In.trans (I : Inv p N P V T) (he : e ≤ N) (h : In P V x m) (h' : In P V m e) : In P V x e := by
  have h1 := h'.mono I he
  obtain ⟨r, a, b, c⟩ := h
  exact ⟨r, a, b, Nat.le_trans c (h1 r)⟩
theorem In.self (I : Inv p N P V T) (h1 : 1 ≤ x) (h2 : x ≤ N) (h3 : P x r) : In P V x x := ⟨r, h3, h1, by rw [I.vown x r h1 h2 h3]; exact Nat.le_refl _⟩
theorem In.v (I : Inv p N P V T) (he : e ≤ N) (h : V e r ≠ 0) : In P V (V e r) e := ⟨r, I.vpl e r he h, by omega, Nat.le_refl _⟩
theorem In.top (I : Inv p N P V T) (h1 : 1 ≤ x) (h2 : x ≤ N) (h : P x r) : In P V x (T r) := by
  have h3 := I.tlast x r h1 h2 h
  have h4 := I.vown (T r) r (by omega) (I.tle r) (I.tpl r (by omega))
  exact ⟨r, h, h1, by omega⟩
/-- the last event that both know, above one that both know -/
theorem last_common (I : Inv p N P V T) (h1 : e1 ≤ N) (h2 : e2 ≤ N) (a : In P V x e1) (b : In P V x e2) :
    ∃ m, In P V m e1 ∧ In P V m e2 ∧ In P V x m ∧ (m ≠ e2 → ∃ s, V e1 s = m) ∧ (m ≠ e1 → ∃ s, V e2 s = m) := by
  have main : ∀ (k m : Nat), N - m ≤ k → In P V m e1 → In P V m e2 → In P V x m → ∃ m, In P V m e1 ∧ In P V m e2 ∧ In P V x m ∧ (m ≠ e2 → ∃ s, V e1 s = m) ∧ (m ≠ e1 → ∃ s, V e2 s = m) := by
    intro k
    induction k with
    | zero =>
      intro m hk a b c
      have := a.le I
      have := b.le I
      refine ⟨m, a, b, c, fun hne => absurd ?_ hne, fun hne => absurd ?_ hne⟩ <;> omega
    | succ k ih =>
      intro m hk a b c
      -- a later one, if one place of m goes on in both
      have go : ∀ s, P m s → m < V e1 s → m < V e2 s → ∃ m, In P V m e1 ∧ In P V m e2 ∧ In P V x m ∧ (m ≠ e2 → ∃ s, V e1 s = m) ∧ (m ≠ e1 → ∃ s, V e2 s = m) := by
        intro s hs l1 l2
        have q1 := I.vpl e1 s h1 (by omega)
        have q2 := I.vpl e2 s h2 (by omega)
        have n1 := I.vle e1 s
        have n2 := I.vle e2 s
        have step : ∀ y, P y s → m < y → y ≤ V e1 s → y ≤ V e2 s → y ≤ N → ∃ m, In P V m e1 ∧ In P V m e2 ∧ In P V x m ∧ (m ≠ e2 → ∃ s, V e1 s = m) ∧ (m ≠ e1 → ∃ s, V e2 s = m) := fun y hy hm y1 y2 yN =>
          ih y (by omega) ⟨s, hy, by omega, y1⟩ ⟨s, hy, by omega, y2⟩ (c.trans I yN (by
            obtain ⟨r, z1, z2, z3⟩ := a
            exact ⟨s, hs, z2, by rw [I.vown y s (by omega) yN hy]; omega⟩))
        rcases Nat.le_total (V e1 s) (V e2 s) with z | z
        · exact step _ q1 l1 (Nat.le_refl _) z (by omega)
        · exact step _ q2 l2 z (Nat.le_refl _) (by omega)
      by_cases c1 : m ≠ e2 → ∃ s, V e1 s = m
      · by_cases c2 : m ≠ e1 → ∃ s, V e2 s = m
        · exact ⟨m, a, b, c, c1, c2⟩
        · have hne : m ≠ e1 := fun z => c2 fun w => absurd z w
          have hno : ∀ s, V e2 s ≠ m := fun s z => c2 fun _ => ⟨s, z⟩
          obtain ⟨r, z1, z2, z3⟩ := id a
          obtain ⟨s, hs, ls⟩ := I.vtop e1 r m h1 z1 z2 z3 hne
          have := b.all I h2 hs
          have := hno s
          exact go s hs ls (by omega)
      · have hne : m ≠ e2 := fun z => c1 fun w => absurd z w
        have hno : ∀ s, V e1 s ≠ m := fun s z => c1 fun _ => ⟨s, z⟩
        obtain ⟨r, z1, z2, z3⟩ := id b
        obtain ⟨s, hs, ls⟩ := I.vtop e2 r m h2 z1 z2 z3 hne
        have := a.all I h1 hs
        have := hno s
        exact go s hs (by omega) ls
  obtain ⟨r, z1, z2, z3⟩ := id a
  have := a.le I
  exact main (N - x) x (by omega) a b (.self I z2 (by omega) z1)
/-- the same for two places: it is among the newest that each knows -/
theorem last_both (I : Inv p N P V T) {a b : Nat} (h : In P V x (T a)) (h' : In P V x (T b)) : ∃ m, In P V m (T a) ∧ In P V m (T b) ∧ In P V x m ∧ (∃ s, V (T a) s = m) ∧ ∃ s, V (T b) s = m := by
  obtain ⟨m, m1, m2, m3, c1, c2⟩ := last_common I (I.tle a) (I.tle b) h h'
  have key : ∀ a b, In P V (T b) (T a) → V (T a) b = T b := fun a b hh => by
    obtain ⟨r, z1, z2, z3⟩ := id hh
    have h1 := hh.all I (I.tle a) (I.tpl b (by omega))
    have h2 := I.vpl (T a) b (I.tle a) (by omega)
    have h3 := I.vle (T a) b
    have h4 := I.tlast _ b (by omega) (Nat.le_trans h3 (I.tle a)) h2
    omega
  refine ⟨m, m1, m2, m3, ?_, ?_⟩
  · by_cases z : m = T b
    · subst z; exact ⟨b, key a b m1⟩
    · exact c1 z
  · by_cases z : m = T a
    · subst z; exact ⟨a, key b a m2⟩
    · exact c2 z
end
/-- one event more -/
theorem Inv.step {p N : Nat} {P : Nat → Nat → Prop} {V : Nat → Nat → Nat} {T : Nat → Nat} (I : Inv p N P V T) (D : Nat → Prop) [DecidablePred D] (mx : Nat → Nat) (hp : ∀ r, D r → r < p) (hm : ∀ r, ∃ q, D q ∧ mx r = V (T q) r) (hge : ∀ r q, D q → V (T q) r ≤ mx r) :
    Inv p (N + 1) (fun e r => if e = N + 1 then D r else P e r) (fun e r => if e = N + 1 then (if D r then N + 1 else mx r) else V e r) (fun r => if D r then N + 1 else T r) := by
  have mle : ∀ r, mx r ≤ N := fun r => by
    obtain ⟨q, _, e⟩ := hm r
    rw [e]
    exact Nat.le_trans (I.vle _ _) (I.tle q)
  have tv : ∀ x r, P x r → 1 ≤ x → x ≤ N → x ≤ V (T r) r := fun x r h1 h2 h3 => by
    have h4 := I.tlast x r h2 h3 h1
    have := I.vown (T r) r (by omega) (I.tle r) (I.tpl r (by omega))
    omega
  refine ⟨fun r => ?_, fun e r => ?_, fun e r h => ?_, fun e r h1 h2 h3 => ?_, fun e r h1 h2 => ?_, fun e r x h1 h2 h3 h4 s => ?_, fun e r m h1 h2 h3 h4 h5 => ?_, fun r => ?_, fun r h => ?_, fun e r h1 h2 h3 => ?_⟩
  · rw [if_neg (by omega)]; exact I.v0 r
  · have := mle r
    have := I.vle e r
    split
    · split <;> omega
    · omega
  · split at h
    · exact hp r h
    · exact I.pp e r h
  · by_cases z : e = N + 1
    · rw [if_pos z] at h3 ⊢; rw [if_pos h3]; exact z.symm
    · rw [if_neg z] at h3 ⊢; exact I.vown e r h1 (by omega) h3
  · by_cases z : e = N + 1
    · rw [if_pos z] at h2 ⊢
      by_cases d : D r
      · rw [if_pos d, if_pos rfl]; exact d
      · rw [if_neg d] at h2 ⊢
        have := mle r
        rw [if_neg (by omega)]
        obtain ⟨q, hq, eq⟩ := hm r
        rw [eq] at h2 ⊢
        exact I.vpl _ r (I.tle q) h2
    · rw [if_neg z] at h2 ⊢
      have := I.vle e r
      rw [if_neg (by omega)]
      exact I.vpl e r (by omega) h2
  · by_cases z : e = N + 1
    · rw [if_pos z] at h4 ⊢
      by_cases w : x = N + 1
      · rw [if_pos w]; exact Nat.le_refl _
      rw [if_neg w] at h2 ⊢
      have xN : x ≤ N := by have := mle r; split at h4 <;> omega
      have fin : ∀ q, D q → x ≤ V (T q) r → V x s ≤ if D s then N + 1 else mx s := fun q hq hx => by
        have h6 := I.vtr (T q) r x (I.tle q) h2 h3 hx s
        have h7 := hge s q hq
        have h8 := I.vle (T q) s
        have h9 := I.tle q
        split <;> omega
      by_cases d : D r
      · exact fin r d (tv x r h2 h3 xN)
      · rw [if_neg d] at h4
        obtain ⟨q, hq, eq⟩ := hm r
        exact fin q hq (by omega)
    · rw [if_neg z] at h4 ⊢
      have := I.vle e r
      rw [if_neg (by omega)] at h2 ⊢
      exact I.vtr e r x (by omega) h2 h3 h4 s
  · by_cases z : e = N + 1
    · rw [if_pos z] at h4
      have mN : m ≤ N := by have := mle r; split at h4 <;> omega
      rw [if_neg (by omega)] at h2
      by_cases d : D r
      · exact ⟨r, by rw [if_neg (by omega)]; exact h2, by rw [if_pos z, if_pos d]; omega⟩
      · rw [if_neg d] at h4
        obtain ⟨q, hq, eq⟩ := hm r
        rw [eq] at h4
        by_cases w : m = T q
        · exact ⟨q, by rw [if_neg (by omega), w]; exact I.tpl q (by omega), by rw [if_pos z, if_pos hq]; omega⟩
        · obtain ⟨s, hs, ls⟩ := I.vtop (T q) r m (I.tle q) h2 h3 h4 w
          have h7 := hge s q hq
          refine ⟨s, by rw [if_neg (by omega)]; exact hs, ?_⟩
          rw [if_pos z]
          split <;> omega
    · rw [if_neg z] at h4
      have := I.vle e r
      rw [if_neg (by omega)] at h2
      obtain ⟨s, hs, ls⟩ := I.vtop e r m (by omega) h2 h3 h4 h5
      exact ⟨s, by rw [if_neg (by omega)]; exact hs, by rw [if_neg z]; exact ls⟩
  · have := I.tle r
    split <;> omega
  · by_cases d : D r
    · rw [if_pos d, if_pos rfl]; exact d
    · rw [if_neg d] at h ⊢
      have := I.tle r
      rw [if_neg (by omega)]
      exact I.tpl r h
  · by_cases z : e = N + 1
    · rw [if_pos z] at h3
      rw [if_pos h3]; omega
    · rw [if_neg z] at h3
      have := I.tlast e r h1 (by omega) h3
      split <;> omega
/-! ### labels and states -/
def Sd (lam : Nat → Int) (V : Nat → Nat → Nat) (p e : Nat) : KD := ⟨(List.range p).map fun s => lam (V e s), (List.range p).map fun s => (List.range p).map fun r => lam (V (V e s) r), (List.range p).map fun s => (List.range p).map fun r => (List.range p).map fun u => lam (V (V (V e s) r) u)⟩
def Seen (V : Nat → Nat → Nat) (T : Nat → Nat) (x : Nat) : Prop := (∃ q s, x = V (T q) s) ∨ ∃ q s r, x = V (V (T q) s) r
structure G0 (p : Nat) (L : List (List Int)) (N : Nat) (P : Nat → Nat → Prop) (V : Nat → Nat → Nat) (T : Nat → Nat) (lam : Nat → Int) : Prop where
  I : Inv p N P V T
  l0 : lam 0 = 0
  lr : ∀ e, 1 ≤ e → e ≤ N → 1 ≤ lam e ∧ lam e ≤ 9999
  cls : ∀ e, 1 ≤ e → e ≤ N → ∃ k, k < L.length ∧ (lam e - 1) % (L.length : Int) = k ∧ ∀ r : Nat, P e r ↔ (r : Int) ∈ L.getD k []
  inj : ∀ x y, Seen V T x → Seen V T y → lam x = lam y → x = y
def Good (p : Nat) (L : List (List Int)) (N : Nat) (st : List KD) (rows : List (List Int)) : Prop := ∃ P V T lam, G0 p L N P V T lam ∧ st = ((List.range p).map fun q => Sd lam V p (T q)) ∧ rows = (List.range p).map fun q => (List.range p).map fun s => (V (T q) s : Int)
theorem gr {α : Type} {p i : Nat} {d : α} {f : Nat → α} (h : i < p) : ((List.range p).map f).getD i d = f i := by
  simp [List.getD_eq_getElem?_getD, h]
section
variable {p N : Nat} {L : List (List Int)} {P : Nat → Nat → Prop} {V : Nat → Nat → Nat} {T : Nat → Nat} {lam : Nat → Int}
theorem lam_zero (G : G0 p L N P V T lam) {x : Nat} (h : x ≤ N) : lam x = 0 ↔ x = 0 := by
  refine ⟨fun e => ?_, fun e => by rw [e]; exact G.l0⟩
  by_cases z : x = 0
  · exact z
  · have := (G.lr x (by omega) h).1; omega
theorem vN (G : G0 p L N P V T lam) (q s : Nat) : V (T q) s ≤ N := Nat.le_trans (G.I.vle _ _) (G.I.tle q)
theorem vvN (G : G0 p L N P V T lam) (q s r : Nat) : V (V (T q) s) r ≤ N := Nat.le_trans (G.I.vle _ _) (vN G q s)
theorem older_iff (G : G0 p L N P V T lam) {a b pl : Nat} (hp : pl < p) : older (Sd lam V p (T a)) (Sd lam V p (T b)) pl = true ↔ V (T a) pl < V (T b) pl := by
  have I := G.I
  have fa : (Sd lam V p (T a)).f.getD pl 0 = lam (V (T a) pl) := gr hp
  have fb : (Sd lam V p (T b)).f.getD pl 0 = lam (V (T b) pl) := gr hp
  unfold older
  rw [fa, fb]
  by_cases e : lam (V (T a) pl) = lam (V (T b) pl)
  · rw [if_pos e]
    have := G.inj _ _ (.inl ⟨a, pl, rfl⟩) (.inl ⟨b, pl, rfl⟩) e
    simp [this]
  rw [if_neg e]
  have hne : V (T a) pl ≠ V (T b) pl := fun z => e (by rw [z])
  have za := lam_zero G (vN G a pl)
  have zb := lam_zero G (vN G b pl)
  by_cases z : lam (V (T a) pl) = 0 ∨ lam (V (T b) pl) = 0
  · rw [if_pos z, decide_eq_true_iff, za]
    rw [za, zb] at z
    omega
  rw [if_neg z, List.any_eq_true]
  rw [za, zb] at z
  constructor
  · rintro ⟨o, ho, h⟩
    have ho : o < p := by have := List.mem_range.mp ho; simpa [Sd] using this
    obtain ⟨h1, h2, h3⟩ := of_decide_eq_true h
    have fo : (Sd lam V p (T a)).f.getD o 0 = lam (V (T a) o) := gr ho
    have so : ((Sd lam V p (T a)).s.getD o []).getD pl 0 = lam (V (V (T a) o) pl) := by
      show (((List.range p).map fun s => (List.range p).map fun r => lam (V (V (T a) s) r)).getD o []).getD pl 0 = _
      rw [gr ho, gr hp]
    rw [fo] at h1 h2
    rw [so] at h3
    obtain ⟨t, ht, et⟩ := List.mem_map.mp h2
    have e1 := G.inj _ _ (.inl ⟨b, t, rfl⟩) (.inl ⟨a, o, rfl⟩) et
    have e2 := G.inj _ _ (.inr ⟨a, o, pl, rfl⟩) (.inl ⟨a, pl, rfl⟩) h3
    have nz : V (T a) o ≠ 0 := fun w => h1 (by rw [w]; exact G.l0)
    have := (In.v I (I.tle b) (r := t) (by rw [e1]; exact nz)).mono I (I.tle b) pl
    rw [e1, e2] at this
    omega
  · intro lt
    have Pa := I.vpl (T a) pl (I.tle a) (by omega)
    obtain ⟨m, m1, m2, m3, ⟨s, es⟩, ⟨t, et⟩⟩ := last_both I (x := V (T a) pl) (a := a) (b := b) ⟨pl, Pa, by omega, Nat.le_refl _⟩ ⟨pl, Pa, by omega, by omega⟩
    have mN : m ≤ N := Nat.le_trans (m1.le I) (I.tle a)
    have m0 : m ≠ 0 := by obtain ⟨_, _, h, _⟩ := m1; omega
    have sp : s < p := I.pp m s (by rw [← es]; exact I.vpl (T a) s (I.tle a) (by omega))
    have tp : t < p := I.pp m t (by rw [← et]; exact I.vpl (T b) t (I.tle b) (by omega))
    have v1 := m1.mono I (I.tle a) pl
    have v2 := m3.all I mN Pa
    have fo : (Sd lam V p (T a)).f.getD s 0 = lam m := by rw [← es]; exact gr sp
    have so : ((Sd lam V p (T a)).s.getD s []).getD pl 0 = lam (V m pl) := by
      show (((List.range p).map fun s => (List.range p).map fun r => lam (V (V (T a) s) r)).getD s []).getD pl 0 = _
      rw [gr sp, gr hp, es]
    refine ⟨s, List.mem_range.mpr (by simpa [Sd] using sp), decide_eq_true ⟨?_, ?_, ?_⟩⟩
    · rw [fo, ne_eq, lam_zero G mN]; exact m0
    · rw [fo]; exact List.mem_map.mpr ⟨t, List.mem_range.mpr tp, by rw [et]⟩
    · rw [so, show V m pl = V (T a) pl by omega]
theorem hold_max (G : G0 p L N P V T lam) {pl : Nat} (hp : pl < p) (ts : List Nat) : ∀ i, i < ts.length → hold (ts.map fun q => Sd lam V p (T q)) pl i ≤ i ∧ ∀ j, j ≤ i → V (T (ts.getD j 0)) pl ≤ V (T (ts.getD (hold (ts.map fun q => Sd lam V p (T q)) pl i) 0)) pl
  | 0, _ => ⟨Nat.le_refl _, fun j hj => by rw [show j = 0 by omega]; exact Nat.le_refl _⟩
  | i + 1, hi => by
    obtain ⟨h1, h2⟩ := hold_max G hp ts i (by omega)
    have gt : ∀ k, k < ts.length → (ts.map fun q => Sd lam V p (T q)).getD k default = Sd lam V p (T (ts.getD k 0)) := fun k hk => by
      simp [List.getD_eq_getElem?_getD, hk]
    have o := older_iff G (a := ts.getD (hold (ts.map fun q => Sd lam V p (T q)) pl i) 0) (b := ts.getD (i + 1) 0) hp
    have e : hold (ts.map fun q => Sd lam V p (T q)) pl (i + 1) = if older (Sd lam V p (T (ts.getD (hold (ts.map fun q => Sd lam V p (T q)) pl i) 0))) (Sd lam V p (T (ts.getD (i + 1) 0))) pl then i + 1 else hold (ts.map fun q => Sd lam V p (T q)) pl i := by
      rw [← gt (i + 1) hi, ← gt _ (by omega)]
      rfl
    rw [e]
    by_cases c : older (Sd lam V p (T (ts.getD (hold (ts.map fun q => Sd lam V p (T q)) pl i) 0))) (Sd lam V p (T (ts.getD (i + 1) 0))) pl = true
    · rw [if_pos c]
      have := o.mp c
      refine ⟨Nat.le_refl _, fun j hj => ?_⟩
      by_cases z : j = i + 1
      · rw [z]; exact Nat.le_refl _
      · have := h2 j (by omega); omega
    · rw [if_neg c]
      have := mt o.mpr c
      refine ⟨by omega, fun j hj => ?_⟩
      by_cases z : j = i + 1
      · rw [z]; omega
      · exact h2 j (by omega)
theorem holder_max (G : G0 p L N P V T lam) {pl : Nat} (hp : pl < p) (ts : List Nat) (h1 : 1 ≤ ts.length) : ∃ q, q ∈ ts ∧ holder (ts.map fun q => Sd lam V p (T q)) pl = Sd lam V p (T q) ∧ ∀ q', q' ∈ ts → V (T q') pl ≤ V (T q) pl := by
  obtain ⟨a, b⟩ := hold_max G hp ts (ts.length - 1) (by omega)
  have e : holder (ts.map fun q => Sd lam V p (T q)) pl = (ts.map fun q => Sd lam V p (T q)).getD (hold (ts.map fun q => Sd lam V p (T q)) pl (ts.length - 1)) default := by
    unfold holder; rw [List.length_map]
  have ah : hold (ts.map fun q => Sd lam V p (T q)) pl (ts.length - 1) < ts.length := by omega
  refine ⟨ts.getD (hold (ts.map fun q => Sd lam V p (T q)) pl (ts.length - 1)) 0, getD_mem ah, ?_, fun q' hq' => ?_⟩
  · rw [e]
    simp [List.getD_eq_getElem?_getD, show hold (ts.map fun q => Sd lam V p (T q)) pl (ts.length - 1) < ts.length by omega]
  · obtain ⟨j, hj, rfl⟩ := List.getElem_of_mem hq'
    have := b j (by omega)
    rwa [show ts.getD j 0 = ts[j] by simp [List.getD_eq_getElem?_getD, hj]] at this
/-- a label that none of the meeting places has is no label of the same letter that anyone holds -/
theorem fresh_seen (G : G0 p L N P V T lam) {k : Nat} {lab : Int} (hk : k < L.length) (hl : (lab - 1) % (L.length : Int) = k) (h1 : 1 ≤ lab) {r0 : Nat} (hr : (r0 : Int) ∈ L.getD k []) (hnew : lab ∉ flat (Sd lam V p (T r0))) {y : Nat} (hy : Seen V T y) : lam y ≠ lab := by
  intro el
  have I := G.I
  have yN : y ≤ N := by
    rcases hy with ⟨q, s, rfl⟩ | ⟨q, s, r, rfl⟩
    · exact vN G q s
    · exact vvN G q s r
  have y1 : 1 ≤ y := by
    by_cases z : y = 0
    · rw [z, G.l0] at el; omega
    · omega
  obtain ⟨k', hk', hc, hP⟩ := G.cls y y1 yN
  rw [el, hl] at hc
  have ek : k' = k := by omega
  subst ek
  have Pr : P y r0 := (hP r0).mpr hr
  have top := In.top I y1 yN Pr
  have lt : ∀ s, V (T r0) s ≠ 0 → s < p := fun s h => I.pp _ s (I.vpl _ s (I.tle r0) h)
  have inS : ∀ t s, t < p → s < p → lam (V (V (T r0) t) s) ∈ flat (Sd lam V p (T r0)) := fun t s ht hs => by
    unfold flat Sd
    refine List.mem_append_left _ (List.mem_append_right _ (List.mem_flatten.mpr ⟨_, List.mem_map.mpr ⟨t, List.mem_range.mpr ht, rfl⟩, List.mem_map.mpr ⟨s, List.mem_range.mpr hs, rfl⟩⟩))
  have inT : ∀ t s u, t < p → s < p → u < p → lam (V (V (V (T r0) t) s) u) ∈ flat (Sd lam V p (T r0)) := fun t s u ht hs hu => by
    unfold flat Sd
    refine List.mem_append_right _ (List.mem_flatten.mpr ⟨_, List.mem_map.mpr ⟨_, List.mem_map.mpr ⟨t, List.mem_range.mpr ht, rfl⟩, rfl⟩, List.mem_flatten.mpr ⟨_, List.mem_map.mpr ⟨s, List.mem_range.mpr hs, rfl⟩, List.mem_map.mpr ⟨u, List.mem_range.mpr hu, rfl⟩⟩⟩)
  rcases hy with ⟨q, s, ey⟩ | ⟨q, s, r, ey⟩
  · have Ps : P y s := by rw [ey]; exact I.vpl (T q) s (I.tle q) (by omega)
    obtain ⟨m, m1, m2, m3, ⟨t, et⟩, _⟩ := last_both I (x := y) (a := r0) (b := q) top ⟨s, Ps, y1, by omega⟩
    have mN : m ≤ N := Nat.le_trans (m1.le I) (I.tle r0)
    have m0 : m ≠ 0 := by obtain ⟨_, _, h, _⟩ := m1; omega
    have v1 := m2.mono I (I.tle q) s
    have v2 := m3.all I mN Ps
    have := inS t s (lt t (by omega)) (I.pp y s Ps)
    rw [et, show V m s = y by omega, el] at this
    exact hnew this
  · have m'N := vN G q s
    have m'0 : V (T q) s ≠ 0 := fun z => by rw [z, I.v0] at ey; omega
    have Ps := I.vpl (T q) s (I.tle q) m'0
    have Pr' : P y r := by rw [ey]; exact I.vpl _ r m'N (by omega)
    by_cases c : In P V (V (T q) s) (T r0)
    · obtain ⟨m, m1, m2, m3, ⟨t, et⟩, _⟩ := last_both I (x := V (T q) s) (a := r0) (b := q) c (In.v I (I.tle q) m'0)
      have mN : m ≤ N := Nat.le_trans (m1.le I) (I.tle r0)
      have m0 : m ≠ 0 := by obtain ⟨_, _, h, _⟩ := m1; omega
      have v1 := m2.mono I (I.tle q) s
      have v2 := m3.all I mN Ps
      have := inT t s r (lt t (by omega)) (I.pp _ s Ps) (I.pp y r Pr')
      rw [et, show V m s = V (T q) s by omega, ← ey, el] at this
      exact hnew this
    · obtain ⟨m, m1, m2, m3, c1, _⟩ := last_common I (x := y) (I.tle r0) m'N top ⟨r, Pr', y1, by omega⟩
      obtain ⟨t, et⟩ := c1 fun z => c (z ▸ m1)
      have mN : m ≤ N := Nat.le_trans (m1.le I) (I.tle r0)
      have m0 : m ≠ 0 := by obtain ⟨_, _, h, _⟩ := m1; omega
      have v1 := m2.mono I m'N r
      have v2 := m3.all I mN Pr'
      have := inS t r (lt t (by omega)) (I.pp y r Pr')
      rw [et, show V m r = y by omega, el] at this
      exact hnew this
end
/-! ### a step, all told -/
def Vn (N : Nat) (D : Nat → Prop) [DecidablePred D] (mx : Nat → Nat) (V : Nat → Nat → Nat) : Nat → Nat → Nat := fun e r => if e = N + 1 then (if D r then N + 1 else mx r) else V e r
theorem good_step {p N : Nat} {L : List (List Int)} {st : List KD} {rows : List (List Int)} {e : Nat} {lab : Int} (hA : Alph p L) (he : e < L.length) (g : Good p L N st rows) (hl : NewLab (part (L.getD e []) st) e L.length lab) :
    Good p L (N + 1) (meetS p (L.getD e []) lab st) (toldS p (L.getD e []) rows ((N + 1 : Nat) : Int)) := by
  obtain ⟨P, V, T, lam, G, hst, hrows⟩ := g
  have I := G.I
  have hfit := hA.fit _ (getD_mem (d := []) he)
  have hlen := fits_len hfit
  generalize hth : L.getD e [] = there at hfit hlen hl
  have tin : ∀ x, x ∈ there → 0 ≤ x ∧ x < p := fun x hx => fits_in hfit hx
  have ets : part there st = (there.map Int.toNat).map fun q => Sd lam V p (T q) := by
    unfold part
    rw [List.map_map]
    refine List.map_congr_left fun x hx => ?_
    have := tin x hx
    rw [hst]
    exact gr (by omega)
  have tl : (there.map Int.toNat).length = there.length := by simp
  have tm : ∀ q, q ∈ there.map Int.toNat ↔ (q : Int) ∈ there := fun q => by
    rw [List.mem_map]
    constructor
    · rintro ⟨x, hx, rfl⟩
      rw [Int.toNat_of_nonneg (tin x hx).1]; exact hx
    · intro h
      exact ⟨_, h, by simp⟩
  -- the newest among those who meet
  have hmx : ∀ r, ∃ q : Nat, (q : Int) ∈ there ∧ (r < p → holder (part there st) r = Sd lam V p (T q)) ∧ ∀ q' : Nat, (q' : Int) ∈ there → V (T q') r ≤ V (T q) r := fun r => by
    by_cases hr : r < p
    · obtain ⟨q, h1, h2, h3⟩ := holder_max G hr (there.map Int.toNat) (by omega)
      rw [← ets] at h2
      exact ⟨q, (tm q).mp h1, fun _ => h2, fun q' hq' => h3 q' ((tm q').mpr hq')⟩
    · have z : ∀ q, V (T q) r = 0 := fun q => by
        by_cases w : V (T q) r = 0
        · exact w
        · exact absurd (I.pp _ r (I.vpl _ r (I.tle q) w)) hr
      obtain ⟨x, hx⟩ := List.exists_mem_of_length_pos (l := there) (by omega)
      refine ⟨x.toNat, by rw [Int.toNat_of_nonneg (tin x hx).1]; exact hx, fun h => absurd h hr, fun q' _ => by rw [z, z]; exact Nat.le_refl _⟩
  let qm : Nat → Nat := fun r => Classical.choose (hmx r)
  have qs : ∀ r, (qm r : Int) ∈ there ∧ (r < p → holder (part there st) r = Sd lam V p (T (qm r))) ∧ ∀ q' : Nat, (q' : Int) ∈ there → V (T q') r ≤ V (T (qm r)) r := fun r => Classical.choose_spec (hmx r)
  have I2 := I.step (fun r => (r : Int) ∈ there) (fun r => V (T (qm r)) r) (fun r hr => by have := tin r hr; omega) (fun r => ⟨qm r, (qs r).1, rfl⟩) (fun r q hq => (qs r).2.2 q hq)
  generalize hV : (fun e r => if e = N + 1 then (if (r : Int) ∈ there then N + 1 else V (T (qm r)) r) else V e r : Nat → Nat → Nat) = V2 at I2
  generalize hT : (fun r => if (r : Int) ∈ there then N + 1 else T r : Nat → Nat) = T2 at I2
  generalize hP : (fun e r => if e = N + 1 then (r : Int) ∈ there else P e r : Nat → Nat → Prop) = P2 at I2
  have vo : ∀ e r, e ≤ N → V2 e r = V e r := fun e r h => by rw [← hV]; exact if_neg (by omega)
  have vi : ∀ r : Nat, (r : Int) ∈ there → V2 (N + 1) r = N + 1 := fun r h => by rw [← hV]; simp only [if_true]; rw [if_pos h]
  have vx : ∀ r : Nat, ¬ (r : Int) ∈ there → V2 (N + 1) r = V (T (qm r)) r := fun r h => by rw [← hV]; simp only [if_true]; rw [if_neg h]
  have ti : ∀ r : Nat, (r : Int) ∈ there → T2 r = N + 1 := fun r h => by rw [← hT]; exact if_pos h
  have tx : ∀ r : Nat, ¬ (r : Int) ∈ there → T2 r = T r := fun r h => by rw [← hT]; exact if_neg h
  let lam2 : Nat → Int := fun e => if e = N + 1 then lab else lam e
  have lo : ∀ x, x ≤ N → lam2 x = lam x := fun x h => if_neg (by omega)
  have ln : lam2 (N + 1) = lab := if_pos rfl
  have vv : ∀ q s, V (T q) s ≤ N := vN G
  have so : ∀ q, Sd lam2 V2 p (T q) = Sd lam V p (T q) := fun q => by
    have h0 := I.tle q
    have h1 : ∀ s, V2 (T q) s = V (T q) s := fun s => vo _ s h0
    have h2 : ∀ s r, V2 (V (T q) s) r = V (V (T q) s) r := fun s r => vo _ r (vv q s)
    have h3 : ∀ s r u, V2 (V (V (T q) s) r) u = V (V (V (T q) s) r) u := fun s r u => vo _ u (vvN G q s r)
    unfold Sd
    simp only [h1, h2, h3]
    have g1 : ∀ s, lam2 (V (T q) s) = lam (V (T q) s) := fun s => lo _ (vv q s)
    have g2 : ∀ s r, lam2 (V (V (T q) s) r) = lam (V (V (T q) s) r) := fun s r => lo _ (vvN G q s r)
    have g3 : ∀ s r u, lam2 (V (V (V (T q) s) r) u) = lam (V (V (V (T q) s) r) u) := fun s r u => lo _ (Nat.le_trans (I.vle _ _) (vvN G q s r))
    simp only [g1, g2, g3]
  -- what the new event's places hold
  have hF : metF p there lab (part there st) = (List.range p).map fun s => lam2 (V2 (N + 1) s) := List.map_congr_left fun s hs => by
    have hs := List.mem_range.mp hs
    by_cases c : (s : Int) ∈ there
    · rw [if_pos c, vi s c, ln]
    · rw [if_neg c, vx s c, lo _ (vv _ _), (qs s).2.1 hs]
      exact gr hs
  have hS : metS p there lab (part there st) = (List.range p).map fun s => (List.range p).map fun r => lam2 (V2 (V2 (N + 1) s) r) := List.map_congr_left fun s hs => by
    have hs := List.mem_range.mp hs
    by_cases c : (s : Int) ∈ there
    · rw [if_pos c, vi s c, hF]
    · rw [if_neg c, vx s c, (qs s).2.1 hs, ← so]
      show ((List.range p).map fun s' => (List.range p).map fun r => lam2 (V2 (V2 (T (qm s)) s') r)).getD s [] = _
      rw [gr hs]
      simp only [vo _ _ (I.tle (qm s))]
  have hTt : metT p there lab (part there st) = (List.range p).map fun s => (List.range p).map fun r => (List.range p).map fun u => lam2 (V2 (V2 (V2 (N + 1) s) r) u) := List.map_congr_left fun s hs => by
    have hs := List.mem_range.mp hs
    by_cases c : (s : Int) ∈ there
    · rw [if_pos c, vi s c, hS]
    · rw [if_neg c, vx s c, (qs s).2.1 hs, ← so]
      show ((List.range p).map fun s' => (List.range p).map fun r => (List.range p).map fun u => lam2 (V2 (V2 (V2 (T (qm s)) s') r) u)).getD s [] = _
      rw [gr hs]
      simp only [vo _ _ (I.tle (qm s))]
  have hK : metK p there lab (part there st) = Sd lam2 V2 p (N + 1) := by unfold metK Sd; rw [hF, hS, hTt]
  have seen : ∀ x, Seen V2 T2 x → x = N + 1 ∨ Seen V T x := by
    have one : ∀ q s, V2 (T2 q) s = N + 1 ∨ ∃ q', V2 (T2 q) s = V (T q') s := fun q s => by
      by_cases c : (q : Int) ∈ there
      · rw [ti q c]
        by_cases d : (s : Int) ∈ there
        · exact .inl (vi s d)
        · exact .inr ⟨_, vx s d⟩
      · rw [tx q c, vo _ _ (I.tle q)]
        exact .inr ⟨q, rfl⟩
    rintro x (⟨q, s, rfl⟩ | ⟨q, s, r, rfl⟩)
    · rcases one q s with h | ⟨q', h⟩
      · exact .inl h
      · exact .inr (.inl ⟨q', s, h⟩)
    · rcases one q s with h | ⟨q', h⟩
      · rw [h]
        by_cases d : (r : Int) ∈ there
        · exact .inl (vi r d)
        · exact .inr (.inl ⟨_, r, vx r d⟩)
      · rw [h, vo _ _ (vv q' s)]
        exact .inr (.inr ⟨q', s, r, rfl⟩)
  have seenN : ∀ x, Seen V T x → x ≤ N := by
    rintro x (⟨q, s, rfl⟩ | ⟨q, s, r, rfl⟩)
    · exact vv q s
    · exact vvN G q s r
  obtain ⟨x0, hx0⟩ := List.exists_mem_of_length_pos (l := there) (by omega)
  have x0r := tin x0 hx0
  have hx0' : ((x0.toNat : Nat) : Int) ∈ there := by rw [Int.toNat_of_nonneg x0r.1]; exact hx0
  have fresh : ∀ y, Seen V T y → lam y ≠ lab := fun y hy => fresh_seen G he hl.cls hl.pos (r0 := x0.toNat) (by rw [hth]; exact hx0') (hl.new _ (by rw [ets]; exact List.mem_map.mpr ⟨x0.toNat, (tm _).mpr hx0', rfl⟩)) hy
  refine ⟨P2, V2, T2, lam2, ⟨I2, by rw [lo 0 (by omega)]; exact G.l0, fun x h1 h2 => ?_, fun x h1 h2 => ?_, fun x y hx hy exy => ?_⟩, ?_, ?_⟩
  · by_cases z : x = N + 1
    · rw [z, ln]; exact ⟨hl.pos, hl.top⟩
    · rw [lo x (by omega)]; exact G.lr x h1 (by omega)
  · by_cases z : x = N + 1
    · refine ⟨e, he, by rw [z, ln]; exact hl.cls, fun r => ?_⟩
      rw [← hP, hth]
      simp only [z, if_true]
    · obtain ⟨k, a, b, c⟩ := G.cls x h1 (by omega)
      refine ⟨k, a, by rw [lo x (by omega)]; exact b, fun r => ?_⟩
      rw [← hP]
      simp only [z, if_false]
      exact c r
  · rcases seen x hx with rfl | hx <;> rcases seen y hy with rfl | hy
    · rfl
    · rw [ln, lo y (seenN y hy)] at exy; exact absurd exy.symm (fresh y hy)
    · rw [ln, lo x (seenN x hx)] at exy; exact absurd exy (fresh x hx)
    · rw [lo x (seenN x hx), lo y (seenN y hy)] at exy; exact G.inj x y hx hy exy
  · unfold meetS
    refine List.map_congr_left fun q hq => ?_
    have hq := List.mem_range.mp hq
    by_cases c : (q : Int) ∈ there
    · rw [if_pos c, ti q c, hK]
    · rw [if_neg c, tx q c, so, hst]
      exact gr hq
  · have hR : toldR p there rows ((N + 1 : Nat) : Int) = (List.range p).map fun s => (V2 (N + 1) s : Int) := by
      unfold toldR
      refine List.map_congr_left fun s hs => ?_
      have hs := List.mem_range.mp hs
      by_cases c : (s : Int) ∈ there
      · rw [if_pos c, vi s c]
      · rw [if_neg c, vx s c]
        have er : ∀ x, x ∈ there → (rows.getD x.toNat []).getD s 0 = (V (T x.toNat) s : Int) := fun x hx => by
          have := tin x hx
          rw [hrows, gr (by omega), gr hs]
        symm
        refine maxI_spec (List.mem_map.mpr ⟨(qm s : Nat), (qs s).1, ?_⟩) fun y hy => ?_
        · rw [er _ (qs s).1, Int.toNat_natCast]
        · obtain ⟨x, hx, rfl⟩ := List.mem_map.mp hy
          rw [er x hx]
          have := (qs s).2.2 x.toNat (by rw [Int.toNat_of_nonneg (tin x hx).1]; exact hx)
          exact_mod_cast this
    unfold toldS
    refine List.map_congr_left fun q hq => ?_
    have hq := List.mem_range.mp hq
    by_cases c : (q : Int) ∈ there
    · rw [if_pos c, ti q c, hR]
    · rw [if_neg c, tx q c, hrows, gr hq]
      simp only [vo _ _ (I.tle q)]
theorem good_start (p : Nat) (L : List (List Int)) : Good p L 0 (List.replicate p (zeroK p)) (List.replicate p (List.replicate p 0)) := by
  refine ⟨fun _ _ => False, fun _ _ => 0, fun _ => 0, fun _ => 0, ⟨⟨fun _ => rfl, fun _ _ => Nat.zero_le _, fun _ _ h => h.elim, fun _ _ _ _ h => h.elim, fun _ _ _ h => absurd rfl h, fun _ _ _ _ h => h.elim, fun _ _ _ _ h => h.elim, fun _ => Nat.le_refl _, fun _ h => absurd rfl h, fun _ _ _ _ h => h.elim⟩, rfl, fun e h1 h2 => by omega, fun e h1 h2 => by omega, ?_⟩, ?_, ?_⟩
  · rintro x y (⟨_, _, rfl⟩ | ⟨_, _, _, rfl⟩) (⟨_, _, rfl⟩ | ⟨_, _, _, rfl⟩) _ <;> rfl
  · have c : ∀ {α : Type} (x : α), (List.range p).map (fun _ => x) = List.replicate p x := fun x => by rw [List.map_const', List.length_range]
    rw [c]
    unfold Sd zeroK
    simp only [c]
  · have c : ∀ {α : Type} (x : α), (List.range p).map (fun _ => x) = List.replicate p x := fun x => by rw [List.map_const', List.length_range]
    simp only [Int.natCast_zero, c]
theorem good_wf {p N : Nat} {L : List (List Int)} {st : List KD} {rows : List (List Int)} (g : Good p L N st rows) : st.length = p ∧ (∀ k, k ∈ st → WfK p k) ∧ rows.length = p ∧ (∀ r, r ∈ rows → r.length = p) ∧ ∀ k, k ∈ st → ∀ x, x ∈ flat k → 0 ≤ x ∧ x ≤ 9999 := by
  obtain ⟨P, V, T, lam, G, rfl, rfl⟩ := g
  have lr : ∀ x, x ≤ N → 0 ≤ lam x ∧ lam x ≤ 9999 := fun x hx => by
    by_cases z : x = 0
    · rw [z, G.l0]; omega
    · have := G.lr x (by omega) hx; omega
  refine ⟨by simp, fun k hk => ?_, by simp, fun r hr => ?_, fun k hk x hx => ?_⟩
  · obtain ⟨q, hq, rfl⟩ := List.mem_map.mp hk
    refine ⟨by simp [Sd], by simp [Sd], fun r hr => ?_, by simp [Sd], fun b hb => ?_⟩
    · obtain ⟨s, _, rfl⟩ := List.mem_map.mp hr; simp
    · obtain ⟨s, _, rfl⟩ := List.mem_map.mp hb
      refine ⟨by simp, fun r hr => ?_⟩
      obtain ⟨s, _, rfl⟩ := List.mem_map.mp hr; simp
  · obtain ⟨q, hq, rfl⟩ := List.mem_map.mp hr; simp
  · obtain ⟨q, hq, rfl⟩ := List.mem_map.mp hk
    unfold flat Sd at hx
    rcases List.mem_append.mp hx with hx | hx
    · rcases List.mem_append.mp hx with hx | hx
      · obtain ⟨s, _, rfl⟩ := List.mem_map.mp hx
        exact lr _ (vN G q s)
      · obtain ⟨l, hl, hx⟩ := List.mem_flatten.mp hx
        obtain ⟨s, _, rfl⟩ := List.mem_map.mp hl
        obtain ⟨r, _, rfl⟩ := List.mem_map.mp hx
        exact lr _ (vvN G q s r)
    · obtain ⟨l, hl, hx⟩ := List.mem_flatten.mp hx
      obtain ⟨b, hb, rfl⟩ := List.mem_map.mp hl
      obtain ⟨s, _, rfl⟩ := List.mem_map.mp hb
      obtain ⟨l, hl, hx⟩ := List.mem_flatten.mp hx
      obtain ⟨r, _, rfl⟩ := List.mem_map.mp hl
      obtain ⟨u, _, rfl⟩ := List.mem_map.mp hx
      exact lr _ (Nat.le_trans (G.I.vle _ _) (vvN G q s r))
theorem good_cmp {p N : Nat} {L : List (List Int)} {st : List KD} {rows : List (List Int)} (g : Good p L N st rows) {a b pl : Nat} (ha : a < p) (hb : b < p) (hp : pl < p) :
    cmpK (st.getD a default) (st.getD b default) pl = (if (rows.getD b []).getD pl 0 < (rows.getD a []).getD pl 0 then 1 else 0) - (if (rows.getD a []).getD pl 0 < (rows.getD b []).getD pl 0 then 1 else 0) := by
  obtain ⟨P, V, T, lam, G, rfl, rfl⟩ := g
  rw [gr ha, gr hb, gr ha, gr hb, gr hp, gr hp]
  have fa : (Sd lam V p (T a)).f.getD pl 0 = lam (V (T a) pl) := gr hp
  have fb : (Sd lam V p (T b)).f.getD pl 0 = lam (V (T b) pl) := gr hp
  have o := older_iff G (a := a) (b := b) hp
  unfold cmpK
  rw [fa, fb]
  by_cases e : lam (V (T a) pl) = lam (V (T b) pl)
  · rw [if_pos e, G.inj _ _ (.inl ⟨a, pl, rfl⟩) (.inl ⟨b, pl, rfl⟩) e]
    simp
  · have hne : V (T a) pl ≠ V (T b) pl := fun z => e (by rw [z])
    rw [if_neg e]
    by_cases c : older (Sd lam V p (T a)) (Sd lam V p (T b)) pl = true
    · have := o.mp c
      rw [if_pos c, if_neg (by omega), if_pos (by omega)]
      rfl
    · have := mt o.mpr c
      rw [if_neg c, if_pos (by omega), if_neg (by omega)]
      rfl
def lawTail (A : Ads) : DTS := (dSeq (dSet 9 (dOp (dAdd false) (dOp (dAdd false) (dVar 8) (dSl false (dOp (dMul false) (dVar 6) (dVar 7)) dNoPart (dPart (dVar 7)))) (dCall1 (sp_law_word A) (dCons (dVar 1) (dCons (dCB dLen (dCons (dVar 3) dNil)) (dCons (dC (.int 6)) dNil))))))
    (dSeq (dSet 10 (dLc false (dRng1 (dCons (dVar 2) dNil)) (bdName 14) dYes (dOp (dMul false) (dLst false (dCons (dC (.int 0)) dNil)) (dVar 2)) [14]))
    (dSeq (dFor (dRng1 (dCons (dCB dLen (dCons (dVar 9) dNil)) dNil)) (dgName 11) (dSeq (dSet 5 (dCall (sp_law_meet A) (dCons (dVar 4) (dCons (dVar 3) (dCons (dVar 5) (dCons (dOp dIx (dVar 9) (dVar 11)) dNil))))))
    (dSeq (dIfS (dB (dOp (dIsB false) (dVar 5) (dC .non))) (dRet (dC (.bl false))) dNext)
    (dSet 10 (dCall (sp_law_told A) (dCons (dVar 2) (dCons (dVar 3) (dCons (dVar 10) (dCons (dOp dIx (dVar 9) (dVar 11)) (dCons (dOp (dAdd false) (dVar 11) (dC (.int 1))) dNil))))))))))
    (dSeq (dFor (dRng1 (dCons (dVar 2) dNil)) (dgName 12) (dSeq (dIfS (dtNot (dB (dCall (sp_law_small_state A) (dCons (dOp dIx (dVar 5) (dVar 12)) (dCons (dC (.int 300)) dNil))))) (dRet (dC (.bl false))) dNext)
    (dFor (dRng1 (dCons (dVar 2) dNil)) (dgName 13) (dFor (dRng1 (dCons (dVar 2) dNil)) (dgName 14) (dSeq (dSet 15 (dOp dSub (dCB dInt (dCons (dOp dGt (dOp dIx (dOp dIx (dVar 10) (dVar 12)) (dVar 14)) (dOp dIx (dOp dIx (dVar 10) (dVar 13)) (dVar 14))) dNil)) (dCB dInt (dCons (dOp dLt (dOp dIx (dOp dIx (dVar 10) (dVar 12)) (dVar 14)) (dOp dIx (dOp dIx (dVar 10) (dVar 13)) (dVar 14))) dNil))))
    (dIfS (dB (dOp (dEqB true) (dMeth A.News nsNews (sp_News_compare A) (dVar 4) (dCons (dOp dIx (dVar 5) (dVar 12)) (dCons (dOp dIx (dVar 5) (dVar 13)) (dCons (dVar 14) dNil)))) (dVar 15))) (dRet (dC (.bl false))) dNext))))))
    (dRet (dC (.bl true)))))))
def lawMid (A : Ads) : DTS := (dSeq (dSet 8 (dCall1 (sp_law_word A) (dCons (dVar 1) (dCons (dCB dLen (dCons (dVar 3) dNil)) (dCons (dC (.int 6)) dNil)))))
    (dSeq (dIfS (dB (dOp (dEqB false) (dCall1 (sp_law_take A) (dCons (dVar 1) (dCons (dC (.int 24)) dNil))) (dC (.int 0)))) (dSeq (dAsg (dCall (sp_law_left_behind A) (dCons (dCall1 (sp_law_take A) (dCons (dVar 1) (dCons (dC (.int 3)) dNil))) (dCons (dCall1 (sp_law_take A) (dCons (dVar 1) (dCons (dC (.int 2)) dNil))) dNil))) (dgTup 4 (dgCons (dgName 2) (dgCons (dgName 3) (dgCons (dgName 8) (dgCons (dgName 6) dgNil))))))
    (dSeq (dSet 4 (dMake A.News (sp_News__init_ A) (dCons (dMake A.Alphabet (sp_Alphabet__init_ A) (dCons (dVar 2) (dCons (dCB (dList false) (dCons (dVar 3) dNil)) dNil))) dNil)))
    (dSeq (dSet 5 (dCB (dList false) (dCons (dMeth A.News nsNews (sp_News_start A) (dVar 4) dNil) dNil)))
    (dSet 7 (dOp dIx (dLst false (dCons (dC (.int 4990)) (dCons (dC (.int 5010)) (dCons (dC (.int 10050)) dNil)))) (dCall1 (sp_law_take A) (dCons (dVar 1) (dCons (dC (.int 3)) dNil)))))))) dNext)
    (dSeq (dSet 9 (dOp (dAdd false) (dOp (dAdd false) (dVar 8) (dSl false (dOp (dMul false) (dVar 6) (dVar 7)) dNoPart (dPart (dVar 7)))) (dCall1 (sp_law_word A) (dCons (dVar 1) (dCons (dCB dLen (dCons (dVar 3) dNil)) (dCons (dC (.int 6)) dNil))))))
    (dSeq (dSet 10 (dLc false (dRng1 (dCons (dVar 2) dNil)) (bdName 14) dYes (dOp (dMul false) (dLst false (dCons (dC (.int 0)) dNil)) (dVar 2)) [14]))
    (dSeq (dFor (dRng1 (dCons (dCB dLen (dCons (dVar 9) dNil)) dNil)) (dgName 11) (dSeq (dSet 5 (dCall (sp_law_meet A) (dCons (dVar 4) (dCons (dVar 3) (dCons (dVar 5) (dCons (dOp dIx (dVar 9) (dVar 11)) dNil))))))
    (dSeq (dIfS (dB (dOp (dIsB false) (dVar 5) (dC .non))) (dRet (dC (.bl false))) dNext)
    (dSet 10 (dCall (sp_law_told A) (dCons (dVar 2) (dCons (dVar 3) (dCons (dVar 10) (dCons (dOp dIx (dVar 9) (dVar 11)) (dCons (dOp (dAdd false) (dVar 11) (dC (.int 1))) dNil))))))))))
    (dSeq (dFor (dRng1 (dCons (dVar 2) dNil)) (dgName 12) (dSeq (dIfS (dtNot (dB (dCall (sp_law_small_state A) (dCons (dOp dIx (dVar 5) (dVar 12)) (dCons (dC (.int 300)) dNil))))) (dRet (dC (.bl false))) dNext)
    (dFor (dRng1 (dCons (dVar 2) dNil)) (dgName 13) (dFor (dRng1 (dCons (dVar 2) dNil)) (dgName 14) (dSeq (dSet 15 (dOp dSub (dCB dInt (dCons (dOp dGt (dOp dIx (dOp dIx (dVar 10) (dVar 12)) (dVar 14)) (dOp dIx (dOp dIx (dVar 10) (dVar 13)) (dVar 14))) dNil)) (dCB dInt (dCons (dOp dLt (dOp dIx (dOp dIx (dVar 10) (dVar 12)) (dVar 14)) (dOp dIx (dOp dIx (dVar 10) (dVar 13)) (dVar 14))) dNil))))
    (dIfS (dB (dOp (dEqB true) (dMeth A.News nsNews (sp_News_compare A) (dVar 4) (dCons (dOp dIx (dVar 5) (dVar 12)) (dCons (dOp dIx (dVar 5) (dVar 13)) (dCons (dVar 14) dNil)))) (dVar 15))) (dRet (dC (.bl false))) dNext))))))
    (dRet (dC (.bl true)))))))))
/-- what stands ahead of the long word -/
def lawSt (A : Ads) (sc : List Int) (p : Addr) (n : Nat) (L : List (List Int)) (turn : List Int) (many : Nat) (head : Option DV) : DSt := [some (.scr sc), some (.ref p), some (.int n), some (.lst (L.map encL)), some (news A n L), some (.lst ((List.replicate n (zeroK n)).map encS)), some (encL turn), some (.int many), head, none, none, none, none, none, none, none]
theorem r_law_tail (A : Ads) {Q : DV → Prop} (h : Q (.bl true)) {sc : List Int} {p : Addr} {n : Nat} {L : List (List Int)} {turn head ns : List Int} {many : Nat} (hA : Alph n L) (hD : Dr ns) (t1 : 1 ≤ turn.length) (t6 : turn.length ≤ 6) (tr : ∀ x, x ∈ turn → 0 ≤ x ∧ x < L.length)
    (h6 : head.length ≤ 6) (hr : ∀ x, x ∈ head → 0 ≤ x ∧ x < L.length) (hm : many ≤ 10050) : lawTail A { nx := fun _ _ => Q .non, rt := fun d _ => Q d } (lawSt A sc p n L turn many (some (encL head))) [(p, .lst (ns.map .int))] := by
  have hp1 := hA.n1
  have hp4 := hA.n4
  have hl1 := hA.l1
  have hl6 := hA.l6
  unfold lawTail lawSt
  walk_at "go"
  have room : turn.length * many ≤ 6 * 10050 := Nat.mul_le_mul t6 hm
  refine v_mulT (by intro e; rw [List.map_eq_nil_iff] at e; rw [e] at t1; simp at t1) (by omega) (by omega) (by rw [sizeLine_eq, Int.toNat_natCast, List.length_map]; omega) ?_
  rw [Int.toNat_natCast, rep_map]
  walk_at "go"
  rw [cut_pre]
  walk_at "go"
  rw [List.length_map]
  refine u_word hD (by omega) (by omega) (by omega) (fun _ => put_here) fun w3 ns3 w6 wr hD3 => ?_
  walk_at "go"
  rw [← List.map_append, ← List.map_append]
  have wlen : (head ++ ((List.replicate many turn).flatten).take many ++ w3).length ≤ 10062 := by
    rw [List.length_append, List.length_append, List.length_take]; omega
  have wrng : ∀ x, x ∈ head ++ ((List.replicate many turn).flatten).take many ++ w3 → 0 ≤ x ∧ x < L.length := fun x hx => by
    rcases List.mem_append.mp hx with hx | hx
    · rcases List.mem_append.mp hx with hx | hx
      · exact hr x hx
      · obtain ⟨l, hl, hx⟩ := List.mem_flatten.mp (List.mem_of_mem_take hx)
        rw [(List.mem_replicate.mp hl).2] at hx
        exact tr x hx
    · exact wr x hx
  generalize head ++ ((List.replicate many turn).flatten).take many ++ w3 = W at wlen wrng
  walk_at "go"
  rw [rng_map, Int.toNat_natCast]
  refine comp_enc (List.range n) (fun (k : Nat) => DV.int (k : Int)) (fun _ => true) (fun (_ : Nat) => DV.lst ((List.replicate n (0 : Int)).map DV.int)) trivial (by simp [sizeLine_eq]; omega) (fun pl hpl => ⟨_, rfl, fun Q' q => by walk_at "go"; exact q, fun _ Q' q => ?_⟩) ?_
  · walk_at "go"
    refine v_mulL (by omega) (by omega) (by rw [sizeLine_eq, Int.toNat_natCast]; simp; omega) ?_
    rw [Int.toNat_natCast, rep_one, ← List.map_replicate (f := DV.int)]
    walk_at "go"
    exact q
  rw [List.filter_eq_self.mpr (fun _ _ => rfl)]
  rw [show ((List.range n).map fun (_ : Nat) => DV.lst ((List.replicate n (0 : Int)).map DV.int)) = (List.replicate n (List.replicate n (0 : Int))).map (fun r => DV.lst (r.map DV.int)) by rw [List.map_const', List.length_range]; simp only [List.map_replicate]]
  walk_at "go"
  rw [List.length_map]
  walk_at "go"
  refine for_rng0 (fun i s M => ∃ (st : List KD) (rows : List (List Int)) (x : Option DV), Good n L i st rows ∧ s = [some (.scr sc), some (.ref p), some (.int n), some (.lst (L.map encL)), some (news A n L), some (.lst (st.map encS)), some (encL turn), some (.int many), some (encL head), some (encL W), some (encR rows), x, none, none, none, none] ∧ M = [(p, .lst (ns3.map .int))]) ⟨_, _, _, good_start n L, rfl, rfl⟩ ?_ ?_
  · rintro i s M N hi ⟨st, rows, x, g, rfl, rfl⟩ hN
    rw [Int.toNat_natCast] at hi
    obtain ⟨g1, g2, g3, g4, g5⟩ := good_wf g
    have we := wrng _ (getD_mem (d := 0) hi)
    have ee : W.getD i 0 = (((W.getD i 0).toNat : Nat) : Int) := by omega
    generalize (W.getD i 0).toNat = e at ee
    have he : e < L.length := by omega
    have xw : atI (W.map DV.int) (i : Int) = some (.int (e : Int)) := by rw [← ee]; exact atI_mapN 0 hi
    refine ⟨trivial, ?_⟩
    walk_at "go"
    refine v_ix rfl xw ?_
    walk_at "go"
    refine ⟨n, L, st, e, rfl, hA, g1, g2, he, fun lab hlab => ?_⟩
    walk_at "go"
    refine way_is (b' := false) rfl ?_
    walk_at "go"
    refine v_ix rfl xw ?_
    walk_at "go"
    refine ⟨n, L, rows, e, _, rfl, hA, g3, g4, he, ?_⟩
    refine hN _ _ ⟨_, _, some (.int (i : Int)), good_step hA he g hlab, ?_, rfl⟩
    rw [show ((i + 1 : Nat) : Int) = (i : Int) + 1 by omega]
    rfl
  · rintro s M ⟨st, rows, x, g, rfl, rfl⟩
    rw [Int.toNat_natCast] at g
    obtain ⟨g1, g2, g3, g4, g5⟩ := good_wf g
    have smem : ∀ i, i < n → st.getD i default ∈ st := fun i hi => getD_mem (by omega)
    have rmem : ∀ i, i < n → (rows.getD i []).length = n := fun i hi => g4 _ (getD_mem (by omega))
    have xs : ∀ i : Nat, i < n → atI (st.map encS) (i : Int) = some (encS (st.getD i default)) := fun i hi => atI_mapN default (by omega)
    have xr : ∀ i : Nat, i < n → atI (rows.map fun r => DV.lst (r.map DV.int)) (i : Int) = some (.lst ((rows.getD i []).map DV.int)) := fun i hi => atI_mapN (f := fun r : List Int => DV.lst (r.map DV.int)) [] (by omega)
    have xi : ∀ i j : Nat, i < n → j < n → atI ((rows.getD i []).map DV.int) (j : Int) = some (.int ((rows.getD i []).getD j 0)) := fun i j hi hj => atI_mapN 0 (by have := rmem i hi; omega)
    refine ⟨trivial, ?_⟩
    walk_at "go"
    refine for_rng0 (fun i s M => ∃ (a b c d : Option DV), s = [some (.scr sc), some (.ref p), some (.int n), some (.lst (L.map encL)), some (news A n L), some (.lst (st.map encS)), some (encL turn), some (.int many), some (encL head), some (encL W), some (encR rows), x, a, b, c, d] ∧ M = [(p, .lst (ns3.map .int))]) ⟨_, _, _, _, rfl, rfl⟩ ?_ ?_
    · rintro i s M N hi ⟨a, b, c, d, rfl, rfl⟩ hN
      rw [Int.toNat_natCast] at hi
      refine ⟨trivial, ?_⟩
      walk_at "go"
      refine v_ix rfl (xs i hi) ?_
      walk_at "go"
      refine ⟨flat (st.getD i default), rfl, by have := flat_small (g2 _ (smem i hi)) hp4; omega, g5 _ (smem i hi), ?_⟩
      walk_at "go"
      refine for_rng0 (fun j s M => ∃ (b c d : Option DV), s = [some (.scr sc), some (.ref p), some (.int n), some (.lst (L.map encL)), some (news A n L), some (.lst (st.map encS)), some (encL turn), some (.int many), some (encL head), some (encL W), some (encR rows), x, some (.int i), b, c, d] ∧ M = [(p, .lst (ns3.map .int))]) ⟨_, _, _, rfl, rfl⟩ ?_ ?_
      · rintro j s M N2 hj ⟨b, c, d, rfl, rfl⟩ hN2
        rw [Int.toNat_natCast] at hj
        refine ⟨trivial, ?_⟩
        walk_at "go"
        refine for_rng0 (fun l s M => ∃ (c d : Option DV), s = [some (.scr sc), some (.ref p), some (.int n), some (.lst (L.map encL)), some (news A n L), some (.lst (st.map encS)), some (encL turn), some (.int many), some (encL head), some (encL W), some (encR rows), x, some (.int i), some (.int j), c, d] ∧ M = [(p, .lst (ns3.map .int))]) ⟨_, _, rfl, rfl⟩ ?_ ?_
        · rintro l s M N3 hl ⟨c, d, rfl, rfl⟩ hN3
          rw [Int.toNat_natCast] at hl
          have cmp := good_cmp g hi hj hl
          refine ⟨trivial, ?_⟩
          walk_at "go"
          refine v_ix rfl (xr i hi) ?_
          walk_at "go"
          refine v_ix rfl (xi i l hi hl) ?_
          walk_at "go"
          refine v_ix rfl (xr j hj) ?_
          walk_at "go"
          refine v_ix rfl (xi j l hj hl) ?_
          walk_at "go"
          refine v_ix rfl (xr i hi) ?_
          walk_at "go"
          refine v_ix rfl (xi i l hi hl) ?_
          walk_at "go"
          refine v_ix rfl (xr j hj) ?_
          walk_at "go"
          refine v_ix rfl (xi j l hj hl) ?_
          walk_at "go"
          refine v_ix rfl (xs i hi) ?_
          walk_at "go"
          refine v_ix rfl (xs j hj) ?_
          walk_at "go"
          refine ⟨n, L, _, _, l, rfl, hA, g2 _ (smem i hi), g2 _ (smem j hj), hl, ?_⟩
          walk_at "go"
          rw [cmp]
          refine way_dec (fun e => ?_) fun e => absurd ?_ e
          · walk_at "go"
            exact hN3 _ _ ⟨_, _, rfl, rfl⟩
          · simp only [decide_eq_true_eq]
        · rintro s M ⟨c, d, rfl, rfl⟩
          exact ⟨trivial, hN2 _ _ ⟨_, _, _, rfl, rfl⟩⟩
      · rintro s M ⟨b, c, d, rfl, rfl⟩
        exact ⟨trivial, hN _ _ ⟨_, _, _, _, rfl, rfl⟩⟩
    · rintro s M ⟨a, b, c, d, rfl, rfl⟩
      refine ⟨trivial, ?_⟩
      walk_at "go"
      exact h
theorem r_law_mid (A : Ads) {Q : DV → Prop} (h : Q (.bl true)) {sc : List Int} {p : Addr} {n : Nat} {L : List (List Int)} {turn ns : List Int} {many : Nat} (hA : Alph n L) (hD : Dr ns) (t1 : 1 ≤ turn.length) (t6 : turn.length ≤ 6) (tr : ∀ x, x ∈ turn → 0 ≤ x ∧ x < L.length)
    (hm : many ≤ 10050) : lawMid A { nx := fun _ _ => Q .non, rt := fun d _ => Q d } (lawSt A sc p n L turn many none) [(p, .lst (ns.map .int))] := by
  have hp1 := hA.n1
  have hp4 := hA.n4
  have hl1 := hA.l1
  have hl6 := hA.l6
  unfold lawMid lawSt
  walk_at "go"
  rw [List.length_map]
  refine u_word hD (by omega) (by omega) (by omega) (fun _ => put_here) fun hd ns1 hd6 hdr hD1 => ?_
  walk_at "go"
  refine u_take hD1 (by omega) (fun _ => put_here) fun z ns2 hz0 hz1 hD2 => ?_
  walk_at "go"
  refine way_dec (fun e => ?_) fun e => ?_
  · walk_at "go"
    refine u_take hD2 (by omega) (fun _ => put_here) fun a ns3 ha0 ha1 hD3 => ?_
    walk_at "go"
    refine u_take hD3 (by omega) (fun _ => put_here) fun b ns4 hb0 hb1 hD4 => ?_
    walk_at "go"
    refine ⟨a, b, rfl, ha0, ha1, hb0, hb1, fun n2 L2 w w' hA2 ew ew' hl4 => ?_⟩
    have hp12 := hA2.n1
    have hp42 := hA2.n4
    walk_at "go"
    intro x
    refine ⟨x, n2, L2, rfl, rfl, hA2, rfl, _, _, get_here, ?_⟩
    walk_at "go"
    intro y
    refine ⟨y, _, rfl, rfl, rfl, _, _, get_here, ?_⟩
    walk_at "go"
    refine ⟨n2, L2, rfl, hA2, ?_⟩
    walk_at "go"
    refine u_take hD4 (by omega) (fun _ => put_here) fun c ns5 hc0 hc1 hD5 => ?_
    obtain ⟨mn, em, hmn⟩ : ∃ mn : Nat, atI [DV.int 4990, DV.int 5010, DV.int 10050] c = some (.int (mn : Int)) ∧ mn ≤ 10050 := by
      rcases (by omega : c = 0 ∨ c = 1 ∨ c = 2) with rfl | rfl | rfl
      · exact ⟨4990, rfl, by omega⟩
      · exact ⟨5010, rfl, by omega⟩
      · exact ⟨10050, rfl, by omega⟩
    refine v_ix rfl em ?_
    walk_at "go1"
    subst ew
    refine r_law_tail A h hA2 hD5 (turn := w') (head := [0]) (many := mn) ?_ ?_ ?_ (by decide) ?_ hmn
    · rcases ew' with rfl | rfl <;> decide
    · rcases ew' with rfl | rfl <;> decide
    · intro x hx
      rcases ew' with rfl | rfl <;> (rw [List.mem_singleton] at hx; subst hx; omega)
    · intro x hx
      rw [List.mem_singleton] at hx; subst hx; omega
  · walk_at "go1"
    exact r_law_tail A h hA hD2 t1 t6 tr (by omega) hdr hm
theorem r_law (A : Ads) : ∀ ds Q, spS ds Q → c_law A { nx := fun _ _ => Q .non, rt := fun d _ => Q d } (dstart ["script", "draws", "count", "letters", "news", "states", "turn", "many", "head", "word", "known", "number", "one", "two", "place", "due"] ds) [] := by
  rintro _ Q ⟨sc, rfl, hsc, h⟩
  show c_law A _ [some _, none, none, none, none, none, none, none, none, none, none, none, none, none, none, none] []
  unfold c_law
  walk_at "go"
  refine u_draws hsc (by omega) (by omega) fun p ns hD => ?_
  walk_at "go"
  refine u_alphabet hD (by omega) (by omega) (by omega) (by omega) (fun _ => put_here) fun n L ns1 hA hn4 hL6 hD1 => ?_
  have hp1 := hA.n1
  have hp4 := hA.n4
  have hl1 := hA.l1
  have hl6 := hA.l6
  walk_at "go"
  intro x
  refine ⟨x, n, L, rfl, rfl, hA, rfl, _, _, get_here, ?_⟩
  walk_at "go"
  intro y
  refine ⟨y, _, rfl, rfl, rfl, _, _, get_here, ?_⟩
  walk_at "go"
  refine ⟨n, L, rfl, hA, ?_⟩
  walk_at "go"
  rw [List.length_map]
  refine u_word hD1 (by omega) (by omega) (by omega) (fun _ => put_here) fun w ns2 w5 wr hD2 => ?_
  walk_at "go"
  rw [List.length_map]
  refine u_take hD2 (by omega) (fun _ => put_here) fun z ns3 hz0 hz1 hD3 => ?_
  walk_at "go"
  refine u_take hD3 (by omega) (fun _ => put_here) fun c ns4 hc0 hc1 hD4 => ?_
  obtain ⟨mn, em, hmn⟩ : ∃ mn : Nat, atI [DV.int 20, DV.int 340] c = some (.int (mn : Int)) ∧ mn ≤ 10050 := by
    rcases (by omega : c = 0 ∨ c = 1) with rfl | rfl
    · exact ⟨20, rfl, by omega⟩
    · exact ⟨340, rfl, by omega⟩
  refine v_ix rfl em ?_
  have et : w.map DV.int ++ [DV.int z] = (w ++ [z]).map DV.int := by rw [List.map_append]; rfl
  have t1 : 1 ≤ (w ++ [z]).length := by simp
  have t6 : (w ++ [z]).length ≤ 6 := by simp; omega
  have tr : ∀ x, x ∈ w ++ [z] → 0 ≤ x ∧ x < (L.length : Int) := fun x hx => by
    rcases List.mem_append.mp hx with hx | hx
    · exact wr x hx
    · rw [List.mem_singleton] at hx; subst hx; exact ⟨hz0, hz1⟩
  rw [et]
  walk_at "go"
  refine way_dec (fun e => ?_) fun e => ?_
  · walk_at "go"
    refine u_take hD4 (by omega) (fun _ => put_here) fun y ns5 hy0 hy1 hD5 => ?_
    walk_at "go"
    refine way_dec (fun e => ?_) fun e => ?_
    · refine s_set (s_c ?_)
      exact r_law_mid A h hA hD5 t1 t6 tr (many := 10050) (by omega)
    · refine s_next ?_
      exact r_law_mid A h hA hD5 t1 t6 tr hmn
  · refine s_next ?_
    exact r_law_mid A h hA hD4 t1 t6 tr hmn
theorem sc_Known__init_ : FnScope ["self", "first", "second", "third"] ["self", "first", "second", "third"] (defScope s_Known__init_) := ⟨rfl, rfl, rfl, by decide +kernel, rfl, by decide +kernel, by decide +kernel⟩
theorem sc_Known_flat : FnScope ["self", "found", "row", "table"] ["self"] (defScope s_Known_flat) := ⟨rfl, rfl, rfl, by decide +kernel, rfl, by decide +kernel, by decide +kernel⟩
theorem sc_size_of : FnScope ["places"] ["places"] (defScope s_size_of) := ⟨rfl, rfl, rfl, by decide +kernel, rfl, by decide +kernel, by decide +kernel⟩
theorem sc_rows_of : FnScope ["numbers", "places", "k"] ["numbers", "places"] (defScope s_rows_of) := ⟨rfl, rfl, rfl, by decide +kernel, rfl, by decide +kernel, by decide +kernel⟩
theorem sc_known_of : FnScope ["state", "places", "square", "first", "second", "third", "k", "begin"] ["state", "places"] (defScope s_known_of) := ⟨rfl, rfl, rfl, by decide +kernel, rfl, by decide +kernel, by decide +kernel⟩
theorem sc_first_known : FnScope ["places"] ["places"] (defScope s_first_known) := ⟨rfl, rfl, rfl, by decide +kernel, rfl, by decide +kernel, by decide +kernel⟩
theorem sc_is_older : FnScope ["one", "two", "place", "label", "other"] ["one", "two", "place"] (defScope s_is_older) := ⟨rfl, rfl, rfl, by decide +kernel, rfl, by decide +kernel, by decide +kernel⟩
theorem sc_holder : FnScope ["known", "place", "best", "k"] ["known", "place"] (defScope s_holder) := ⟨rfl, rfl, rfl, by decide +kernel, rfl, by decide +kernel, by decide +kernel⟩
theorem sc_fresh_label : FnScope ["known", "letter", "letters", "used", "one", "label"] ["known", "letter", "letters"] (defScope s_fresh_label) := ⟨rfl, rfl, rfl, by decide +kernel, rfl, by decide +kernel, by decide +kernel⟩
theorem sc_met : FnScope ["known", "letter", "alphabet", "there", "label", "holders", "first", "place", "second", "third"] ["known", "letter", "alphabet"] (defScope s_met) := ⟨rfl, rfl, rfl, by decide +kernel, rfl, by decide +kernel, by decide +kernel⟩
theorem sc_News__init_ : FnScope ["self", "alphabet"] ["self", "alphabet"] (defScope s_News__init_) := ⟨rfl, rfl, rfl, by decide +kernel, rfl, by decide +kernel, by decide +kernel⟩
theorem sc_News_start : FnScope ["self"] ["self"] (defScope s_News_start) := ⟨rfl, rfl, rfl, by decide +kernel, rfl, by decide +kernel, by decide +kernel⟩
theorem sc_News_meet : FnScope ["self", "letter", "states", "known", "state"] ["self", "letter", "states"] (defScope s_News_meet) := ⟨rfl, rfl, rfl, by decide +kernel, rfl, by decide +kernel, by decide +kernel⟩
theorem sc_News_compare : FnScope ["self", "first", "second", "place", "one", "two"] ["self", "first", "second", "place"] (defScope s_News_compare) := ⟨rfl, rfl, rfl, by decide +kernel, rfl, by decide +kernel, by decide +kernel⟩
theorem sc_fits : FnScope ["letter", "places", "k"] ["letter", "places"] (defScope s_fits) := ⟨rfl, rfl, rfl, by decide +kernel, rfl, by decide +kernel, by decide +kernel⟩
theorem sc_Alphabet__init_ : FnScope ["self", "places", "letters", "valid", "letter"] ["self", "places", "letters"] (defScope s_Alphabet__init_) := ⟨rfl, rfl, rfl, by decide +kernel, rfl, by decide +kernel, by decide +kernel⟩
theorem sc_law_draws : FnScope ["script", "count", "cells", "found", "mixed", "k", "j", "cell", "again"] ["script", "count"] (defScope s_law_draws) := ⟨rfl, rfl, rfl, by decide +kernel, rfl, by decide +kernel, by decide +kernel⟩
theorem sc_law_take : FnScope ["draws", "limit"] ["draws", "limit"] (defScope s_law_take) := ⟨rfl, rfl, rfl, by decide +kernel, rfl, by decide +kernel, by decide +kernel⟩
theorem sc_law_is_integer : FnScope ["actual"] ["actual"] (defScope s_law_is_integer) := ⟨rfl, rfl, rfl, by decide +kernel, rfl, by decide +kernel, by decide +kernel⟩
theorem sc_law_alphabet : FnScope ["draws", "places", "most", "count", "letters", "k", "size", "there", "j"] ["draws", "places", "most"] (defScope s_law_alphabet) := ⟨rfl, rfl, rfl, by decide +kernel, rfl, by decide +kernel, by decide +kernel⟩
theorem sc_law_word : FnScope ["draws", "letters", "most", "k"] ["draws", "letters", "most"] (defScope s_law_word) := ⟨rfl, rfl, rfl, by decide +kernel, rfl, by decide +kernel, by decide +kernel⟩
theorem sc_law_small_state : FnScope ["actual", "most", "number"] ["actual", "most"] (defScope s_law_small_state) := ⟨rfl, rfl, rfl, by decide +kernel, rfl, by decide +kernel, by decide +kernel⟩
theorem sc_law_meet : FnScope ["machines", "letters", "states", "letter", "there", "after", "found", "k", "place"] ["machines", "letters", "states", "letter"] (defScope s_law_meet) := ⟨rfl, rfl, rfl, by decide +kernel, rfl, by decide +kernel, by decide +kernel⟩
theorem sc_law_told : FnScope ["count", "letters", "known", "letter", "number", "there", "row", "place", "other"] ["count", "letters", "known", "letter", "number"] (defScope s_law_told) := ⟨rfl, rfl, rfl, by decide +kernel, rfl, by decide +kernel, by decide +kernel⟩
theorem sc_law_left_behind : FnScope ["more", "shape", "letters", "count"] ["more", "shape"] (defScope s_law_left_behind) := ⟨rfl, rfl, rfl, by decide +kernel, rfl, by decide +kernel, by decide +kernel⟩
theorem sc_law : FnScope ["script", "draws", "count", "letters", "news", "states", "turn", "many", "head", "word", "known", "number", "one", "two", "place", "due"] ["script"] (defScope s_law) := ⟨rfl, rfl, rfl, by decide +kernel, rfl, by decide +kernel, by decide +kernel⟩
/-- what the top has left -/
structure Txt (K : PySem.W.Frag) (mg : Str → Option Value) (A : Ads) : Prop where
  F_Known__init_ : Def K "__init__" "Known.__init__" s_Known__init_ A.f_Known__init_ ["self", "first", "second", "third"]
  F_Known_flat : Def K "flat" "Known.flat" s_Known_flat A.f_Known_flat ["self"]
  F_size_of : Def K "size_of" "size_of" s_size_of A.f_size_of ["places"]
  mg_size_of : mg "size_of" = some (.ref A.f_size_of)
  kp_size_of : PySem.W.keepIn K (.ref A.f_size_of) = true
  F_rows_of : Def K "rows_of" "rows_of" s_rows_of A.f_rows_of ["numbers", "places"]
  mg_rows_of : mg "rows_of" = some (.ref A.f_rows_of)
  kp_rows_of : PySem.W.keepIn K (.ref A.f_rows_of) = true
  F_known_of : Def K "known_of" "known_of" s_known_of A.f_known_of ["state", "places"]
  mg_known_of : mg "known_of" = some (.ref A.f_known_of)
  kp_known_of : PySem.W.keepIn K (.ref A.f_known_of) = true
  F_first_known : Def K "first_known" "first_known" s_first_known A.f_first_known ["places"]
  mg_first_known : mg "first_known" = some (.ref A.f_first_known)
  kp_first_known : PySem.W.keepIn K (.ref A.f_first_known) = true
  F_is_older : Def K "is_older" "is_older" s_is_older A.f_is_older ["one", "two", "place"]
  mg_is_older : mg "is_older" = some (.ref A.f_is_older)
  kp_is_older : PySem.W.keepIn K (.ref A.f_is_older) = true
  F_holder : Def K "holder" "holder" s_holder A.f_holder ["known", "place"]
  mg_holder : mg "holder" = some (.ref A.f_holder)
  kp_holder : PySem.W.keepIn K (.ref A.f_holder) = true
  F_fresh_label : Def K "fresh_label" "fresh_label" s_fresh_label A.f_fresh_label ["known", "letter", "letters"]
  mg_fresh_label : mg "fresh_label" = some (.ref A.f_fresh_label)
  kp_fresh_label : PySem.W.keepIn K (.ref A.f_fresh_label) = true
  F_met : Def K "met" "met" s_met A.f_met ["known", "letter", "alphabet"]
  mg_met : mg "met" = some (.ref A.f_met)
  kp_met : PySem.W.keepIn K (.ref A.f_met) = true
  F_News__init_ : Def K "__init__" "News.__init__" s_News__init_ A.f_News__init_ ["self", "alphabet"]
  F_News_start : Def K "start" "News.start" s_News_start A.f_News_start ["self"]
  F_News_meet : Def K "meet" "News.meet" s_News_meet A.f_News_meet ["self", "letter", "states"]
  F_News_compare : Def K "compare" "News.compare" s_News_compare A.f_News_compare ["self", "first", "second", "place"]
  F_fits : Def K "fits" "fits" s_fits A.f_fits ["letter", "places"]
  mg_fits : mg "fits" = some (.ref A.f_fits)
  kp_fits : PySem.W.keepIn K (.ref A.f_fits) = true
  F_Alphabet__init_ : Def K "__init__" "Alphabet.__init__" s_Alphabet__init_ A.f_Alphabet__init_ ["self", "places", "letters"]
  F_law_draws : Def K "_law_draws" "_law_draws" s_law_draws A.f_law_draws ["script", "count"]
  mg_law_draws : mg "_law_draws" = some (.ref A.f_law_draws)
  kp_law_draws : PySem.W.keepIn K (.ref A.f_law_draws) = true
  F_law_take : Def K "_law_take" "_law_take" s_law_take A.f_law_take ["draws", "limit"]
  mg_law_take : mg "_law_take" = some (.ref A.f_law_take)
  kp_law_take : PySem.W.keepIn K (.ref A.f_law_take) = true
  F_law_is_integer : Def K "_law_is_integer" "_law_is_integer" s_law_is_integer A.f_law_is_integer ["actual"]
  mg_law_is_integer : mg "_law_is_integer" = some (.ref A.f_law_is_integer)
  kp_law_is_integer : PySem.W.keepIn K (.ref A.f_law_is_integer) = true
  F_law_alphabet : Def K "_law_alphabet" "_law_alphabet" s_law_alphabet A.f_law_alphabet ["draws", "places", "most"]
  mg_law_alphabet : mg "_law_alphabet" = some (.ref A.f_law_alphabet)
  kp_law_alphabet : PySem.W.keepIn K (.ref A.f_law_alphabet) = true
  F_law_word : Def K "_law_word" "_law_word" s_law_word A.f_law_word ["draws", "letters", "most"]
  mg_law_word : mg "_law_word" = some (.ref A.f_law_word)
  kp_law_word : PySem.W.keepIn K (.ref A.f_law_word) = true
  F_law_small_state : Def K "_law_small_state" "_law_small_state" s_law_small_state A.f_law_small_state ["actual", "most"]
  mg_law_small_state : mg "_law_small_state" = some (.ref A.f_law_small_state)
  kp_law_small_state : PySem.W.keepIn K (.ref A.f_law_small_state) = true
  F_law_meet : Def K "_law_meet" "_law_meet" s_law_meet A.f_law_meet ["machines", "letters", "states", "letter"]
  mg_law_meet : mg "_law_meet" = some (.ref A.f_law_meet)
  kp_law_meet : PySem.W.keepIn K (.ref A.f_law_meet) = true
  F_law_told : Def K "_law_told" "_law_told" s_law_told A.f_law_told ["count", "letters", "known", "letter", "number"]
  mg_law_told : mg "_law_told" = some (.ref A.f_law_told)
  kp_law_told : PySem.W.keepIn K (.ref A.f_law_told) = true
  F_law_left_behind : Def K "_law_left_behind" "_law_left_behind" s_law_left_behind A.f_law_left_behind ["more", "shape"]
  mg_law_left_behind : mg "_law_left_behind" = some (.ref A.f_law_left_behind)
  kp_law_left_behind : PySem.W.keepIn K (.ref A.f_law_left_behind) = true
  F_law : DefL K "law" s_law A.f_law
  mg_law : mg "law" = some (.ref A.f_law)
  cl_Known : Cls K A.Known
  na_Known_first : NoAttr K A.Known "first"
  na_Known_second : NoAttr K A.Known "second"
  na_Known_third : NoAttr K A.Known "third"
  mk_Known : Mk K A.Known A.f_Known__init_
  mg_Known : mg "Known" = some (.ref A.Known)
  me_Known_flat : Meth K A.Known "flat" A.f_Known_flat
  cl_News : Cls K A.News
  na_News_alphabet : NoAttr K A.News "alphabet"
  mk_News : Mk K A.News A.f_News__init_
  mg_News : mg "News" = some (.ref A.News)
  me_News_start : Meth K A.News "start" A.f_News_start
  me_News_meet : Meth K A.News "meet" A.f_News_meet
  me_News_compare : Meth K A.News "compare" A.f_News_compare
  cl_Alphabet : Cls K A.Alphabet
  na_Alphabet_places : NoAttr K A.Alphabet "places"
  na_Alphabet_letters : NoAttr K A.Alphabet "letters"
  mk_Alphabet : Mk K A.Alphabet A.f_Alphabet__init_
  mg_Alphabet : mg "Alphabet" = some (.ref A.Alphabet)
  mg_MOST_LETTERS : mg "MOST_LETTERS" = some (.int 6 A.t_MOST_LETTERS)
  mg_MOST_PLACES : mg "MOST_PLACES" = some (.int 4 A.t_MOST_PLACES)
  n_bool : mg "bool" = none
  n_int : mg "int" = none
  n_isinstance : mg "isinstance" = none
  n_len : mg "len" = none
  n_list : mg "list" = none
  n_max : mg "max" = none
  n_range : mg "range" = none
  n_set : mg "set" = none
  n_sorted : mg "sorted" = none
  n_tuple : mg "tuple" = none
section
variable {P : Program} {w : World} {K : PySem.W.Frag} {mg : Str → Option Value} {base : Heap} {A : Ads}
theorem ok_Known__init_ (T : Txt K mg A) : OkG P w K mg base 1 A.f_Known__init_ ["self", "first", "second", "third"] (sp_Known__init_ A) := by
  obtain ⟨fd, Fn, bn⟩ := T.F_Known__init_
  exact ⟨fd, fun_ok Fn sc_Known__init_ (len_Known__init_ A) fun cdv Ao outer s H E hr => ⟨c_Known__init_ A, (dss_cons (ds_setF (NS := []) (NS' := ["first"]) (j := none) T.cl_Known T.na_Known_first (by decide +kernel) rfl (by decide) (de_var (i := 0)) (de_var (i := 1)))
    (dss_cons (ds_setF (NS := ["first"]) (NS' := ["first", "second"]) (j := none) T.cl_Known T.na_Known_second (by decide +kernel) rfl (by decide) (de_var (i := 0)) (de_var (i := 2)))
    (dss_one (ds_setF (NS := ["first", "second"]) (NS' := nsKnown) (j := none) T.cl_Known T.na_Known_third (by decide +kernel) rfl (by decide) (de_var (i := 0)) (de_var (i := 3)))))), r_Known__init_ A⟩, bn⟩
theorem ok_Known_flat (T : Txt K mg A) : OkP P w K mg base 1 A.f_Known_flat ["self"] (sp_Known_flat A) := by
  obtain ⟨fd, Fn, bn⟩ := T.F_Known_flat
  exact ⟨fd, fun_pure Fn sc_Known_flat (len_Known_flat A) fun cdv Ao outer s H E hr => ⟨c_Known_flat A, (dss_cons (ds_set (i := 1) sc_Known_flat.nd rfl (by first | exact .inl rfl | exact .inr rfl) (de_callTy call_list_of (c_list true) T.n_list (by decide +kernel) (da_cons (de_fld (j := 0) (NS := nsKnown) (de_var (i := 0)) T.cl_Known T.na_Known_first (by decide +kernel)) da_nil)))
    (dss_cons (ds_for PassesOwn.never rfl (di_seq (de_fld (j := 1) (NS := nsKnown) (de_var (i := 0)) T.cl_Known T.na_Known_second (by decide +kernel))) (dg_name (i := 2) sc_Known_flat.nd rfl (by first | exact .inl rfl | exact .inr rfl)) (dss_one (ds_expr (de_bm PySem.F.slot_list_extend PySem.F.type_list_extend mt_extA c_extend (de_var (i := 1)) (da_cons (de_var (i := 2)) da_nil)))))
    (dss_cons (ds_for PassesOwn.never rfl (di_seq (de_fld (j := 2) (NS := nsKnown) (de_var (i := 0)) T.cl_Known T.na_Known_third (by decide +kernel))) (dg_name (i := 3) sc_Known_flat.nd rfl (by first | exact .inl rfl | exact .inr rfl)) (dss_one (ds_for PassesOwn.never rfl (di_seq (de_var (i := 3))) (dg_name (i := 2) sc_Known_flat.nd rfl (by first | exact .inl rfl | exact .inr rfl)) (dss_one (ds_expr (de_bm PySem.F.slot_list_extend PySem.F.type_list_extend mt_extA c_extend (de_var (i := 1)) (da_cons (de_var (i := 2)) da_nil)))))))
    (dss_one (ds_ret (de_callTy call_tuple_of c_tuple T.n_tuple (by decide +kernel) (da_cons (de_var (i := 1)) da_nil))))))), r_Known_flat A⟩, bn⟩
theorem ok_size_of (T : Txt K mg A) : OkP P w K mg base 1 A.f_size_of ["places"] (sp_size_of A) := by
  obtain ⟨fd, Fn, bn⟩ := T.F_size_of
  exact ⟨fd, fun_pure Fn sc_size_of (len_size_of A) fun cdv Ao outer s H E hr => ⟨c_size_of A, (dss_one (ds_ret (de_bin op_addA (c_add false) (de_bin op_addA (c_add false) (de_var (i := 0)) (de_bin op_mulA (c_mul false) (de_var (i := 0)) (de_var (i := 0)))) (de_bin op_mulA (c_mul false) (de_bin op_mulA (c_mul false) (de_var (i := 0)) (de_var (i := 0))) (de_var (i := 0)))))), r_size_of A⟩, bn⟩
theorem ok_rows_of (T : Txt K mg A) : OkP P w K mg base 1 A.f_rows_of ["numbers", "places"] (sp_rows_of A) := by
  obtain ⟨fd, Fn, bn⟩ := T.F_rows_of
  exact ⟨fd, fun_pure Fn sc_rows_of (len_rows_of A) fun cdv Ao outer s H E hr => ⟨c_rows_of A, (dss_one (ds_ret (de_lc (own := [("k", 2)]) false (bd_name (by decide)) rfl sc_rows_of.nd (di_range3 T.n_range (da_cons de_int (da_cons (de_callB call_lenA c_len T.n_len (by decide +kernel) (da_cons (de_var (i := 0)) da_nil)) (da_cons (de_var (i := 1)) da_nil)))) (blkOk_by (own := [("k", 2)]) (N := ["numbers", "places", "k"]) rfl) (fun _ _ _ _ _ => (pg_name (i := 2) sc_rows_of.nd rfl (by first | exact .inl rfl | exact .inr rfl))) (fun _ _ _ _ _ => dts_nil) (fun _ _ _ _ _ => (de_callTy call_tuple_of c_tuple T.n_tuple (by decide +kernel) (da_cons (de_slice false (de_var (i := 0)) (do_some (de_var (i := 2))) (do_some (de_bin op_addA (c_add false) (de_var (i := 2)) (de_var (i := 1))))) da_nil)))))), r_rows_of A⟩, bn⟩
theorem ok_known_of (T : Txt K mg A) : OkP P w K mg base 3 A.f_known_of ["state", "places"] (sp_known_of A) := by
  obtain ⟨fd, Fn, bn⟩ := T.F_known_of
  obtain ⟨_, G_Known__init_, b_Known__init_⟩ := ok_Known__init_ (P := P) (w := w) (base := base) T
  obtain ⟨_, G_rows_of, b_rows_of⟩ := ok_rows_of (P := P) (w := w) (base := base) T
  exact ⟨fd, fun_pure Fn sc_known_of (len_known_of A) fun cdv Ao outer s H E hr => ⟨c_known_of A, (dss_cons (ds_set (i := 2) sc_known_of.nd rfl (by first | exact .inl rfl | exact .inr rfl) (de_bin op_mulA (c_mul false) (de_var (i := 1)) (de_var (i := 1))))
    (dss_cons (ds_set (i := 3) sc_known_of.nd rfl (by first | exact .inl rfl | exact .inr rfl) (de_callTy call_tuple_of c_tuple T.n_tuple (by decide +kernel) (da_cons (de_slice false (de_var (i := 0)) do_none (do_some (de_var (i := 1)))) da_nil)))
    (dss_cons (ds_set (i := 4) sc_known_of.nd rfl (by first | exact .inl rfl | exact .inr rfl) (de_callTy call_tuple_of c_tuple T.n_tuple (by decide +kernel) (da_cons (de_call G_rows_of (hr.mono (by decide)) T.mg_rows_of T.kp_rows_of b_rows_of (da_cons (de_slice false (de_var (i := 0)) (do_some (de_var (i := 1))) (do_some (de_bin op_addA (c_add false) (de_var (i := 1)) (de_var (i := 2))))) (da_cons (de_var (i := 1)) da_nil))) da_nil)))
    (dss_cons (ds_set (i := 5) sc_known_of.nd rfl (by first | exact .inl rfl | exact .inr rfl) (de_lst true da_nil))
    (dss_cons (ds_for PassesOwn.never rfl (di_range1 T.n_range (da_cons (de_var (i := 1)) da_nil)) (dg_name (i := 6) sc_known_of.nd rfl (by first | exact .inl rfl | exact .inr rfl)) (dss_cons (ds_set (i := 7) sc_known_of.nd rfl (by first | exact .inl rfl | exact .inr rfl) (de_bin op_addA (c_add false) (de_bin op_addA (c_add false) (de_var (i := 1)) (de_var (i := 2))) (de_bin op_mulA (c_mul false) (de_var (i := 6)) (de_var (i := 2)))))
    (dss_one (ds_expr (de_bm PySem.F.slot_list_append PySem.F.type_list_append mt_append c_append (de_var (i := 5)) (da_cons (de_callTy call_tuple_of c_tuple T.n_tuple (by decide +kernel) (da_cons (de_call G_rows_of (hr.mono (by decide)) T.mg_rows_of T.kp_rows_of b_rows_of (da_cons (de_slice false (de_var (i := 0)) (do_some (de_var (i := 7))) (do_some (de_bin op_addA (c_add false) (de_var (i := 7)) (de_var (i := 2))))) (da_cons (de_var (i := 1)) da_nil))) da_nil)) da_nil))))))
    (dss_one (ds_ret (de_make T.mk_Known G_Known__init_ (hr.mono (by decide)) T.mg_Known b_Known__init_ (da_cons (de_var (i := 3)) (da_cons (de_var (i := 4)) (da_cons (de_callTy call_tuple_of c_tuple T.n_tuple (by decide +kernel) (da_cons (de_var (i := 5)) da_nil)) da_nil))))))))))), r_known_of A⟩, bn⟩
theorem ok_first_known (T : Txt K mg A) : OkP P w K mg base 4 A.f_first_known ["places"] (sp_first_known A) := by
  obtain ⟨fd, Fn, bn⟩ := T.F_first_known
  obtain ⟨_, G_known_of, b_known_of⟩ := ok_known_of (P := P) (w := w) (base := base) T
  obtain ⟨_, G_size_of, b_size_of⟩ := ok_size_of (P := P) (w := w) (base := base) T
  exact ⟨fd, fun_pure Fn sc_first_known (len_first_known A) fun cdv Ao outer s H E hr => ⟨c_first_known A, (dss_one (ds_ret (de_call G_known_of (hr.mono (by decide)) T.mg_known_of T.kp_known_of b_known_of (da_cons (de_bin op_mulA (c_mul false) (de_tup (da_cons de_int da_nil)) (de_call G_size_of (hr.mono (by decide)) T.mg_size_of T.kp_size_of b_size_of (da_cons (de_var (i := 0)) da_nil))) (da_cons (de_var (i := 0)) da_nil))))), r_first_known A⟩, bn⟩
theorem ok_is_older (T : Txt K mg A) : OkP P w K mg base 1 A.f_is_older ["one", "two", "place"] (sp_is_older A) := by
  obtain ⟨fd, Fn, bn⟩ := T.F_is_older
  exact ⟨fd, fun_pure Fn sc_is_older (len_is_older A) fun cdv Ao outer s H E hr => ⟨c_is_older A, (dss_cons (ds_set (i := 3) sc_is_older.nd rfl (by first | exact .inl rfl | exact .inr rfl) (de_ix (hu1 hr) (de_fld (j := 0) (NS := nsKnown) (de_var (i := 0)) T.cl_Known T.na_Known_first (by decide +kernel)) (de_var (i := 2))))
    (dss_cons (ds_if (dt_cmp (op_eqA (hr.units)) c_eq (de_var (i := 3)) (de_ix (hu1 hr) (de_fld (j := 0) (NS := nsKnown) (de_var (i := 1)) T.cl_Known T.na_Known_first (by decide +kernel)) (de_var (i := 2))) (nomark _)) (dss_one (ds_ret de_bl)) dss_nil)
    (dss_cons (ds_if (PW.pt (dw_or (dt_cmp (op_eqA (hr.units)) c_eq (de_var (i := 3)) de_int (nomark _)) (dw_or1 (dt_cmp (op_eqA (hr.units)) c_eq (de_ix (hu1 hr) (de_fld (j := 0) (NS := nsKnown) (de_var (i := 1)) T.cl_Known T.na_Known_first (by decide +kernel)) (de_var (i := 2))) de_int (nomark _))))) (dss_one (ds_ret (de_cmp (op_eqA (hr.units)) c_eq (de_var (i := 3)) de_int (nomark _)))) dss_nil)
    (dss_cons (ds_for PassesOwn.never rfl (di_range1 T.n_range (da_cons (de_callB call_lenA c_len T.n_len (by decide +kernel) (da_cons (de_fld (j := 0) (NS := nsKnown) (de_var (i := 0)) T.cl_Known T.na_Known_first (by decide +kernel)) da_nil)) da_nil)) (dg_name (i := 4) sc_is_older.nd rfl (by first | exact .inl rfl | exact .inr rfl)) (dss_one (ds_if (PW.pt (dw_and (dt_cmp (op_neA (hr.units)) c_ne (de_ix (hu1 hr) (de_fld (j := 0) (NS := nsKnown) (de_var (i := 0)) T.cl_Known T.na_Known_first (by decide +kernel)) (de_var (i := 4))) de_int (nomark _)) (dw_and (dt_cmp (op_inA (hu65 hr)) (c_in false) (de_ix (hu1 hr) (de_fld (j := 0) (NS := nsKnown) (de_var (i := 0)) T.cl_Known T.na_Known_first (by decide +kernel)) (de_var (i := 4))) (de_fld (j := 0) (NS := nsKnown) (de_var (i := 1)) T.cl_Known T.na_Known_first (by decide +kernel)) rfl) (dw_and1 (dt_cmp (op_eqA (hr.units)) c_eq (de_ix (hu1 hr) (de_ix (hu1 hr) (de_fld (j := 1) (NS := nsKnown) (de_var (i := 0)) T.cl_Known T.na_Known_second (by decide +kernel)) (de_var (i := 4))) (de_var (i := 2))) (de_var (i := 3)) (nomark _)))))) (dss_one (ds_ret de_bl)) dss_nil)))
    (dss_one (ds_ret de_bl)))))), r_is_older A⟩, bn⟩
theorem ok_holder (T : Txt K mg A) : OkP P w K mg base 2 A.f_holder ["known", "place"] (sp_holder A) := by
  obtain ⟨fd, Fn, bn⟩ := T.F_holder
  obtain ⟨_, G_is_older, b_is_older⟩ := ok_is_older (P := P) (w := w) (base := base) T
  exact ⟨fd, fun_pure Fn sc_holder (len_holder A) fun cdv Ao outer s H E hr => ⟨c_holder A, (dss_cons (ds_set (i := 2) sc_holder.nd rfl (by first | exact .inl rfl | exact .inr rfl) de_int)
    (dss_cons (ds_for PassesOwn.never rfl (di_range2 T.n_range (da_cons de_int (da_cons (de_callB call_lenA c_len T.n_len (by decide +kernel) (da_cons (de_var (i := 0)) da_nil)) da_nil))) (dg_name (i := 3) sc_holder.nd rfl (by first | exact .inl rfl | exact .inr rfl)) (dss_one (ds_if (dt_val (de_call G_is_older (hr.mono (by decide)) T.mg_is_older T.kp_is_older b_is_older (da_cons (de_ix (hu1 hr) (de_var (i := 0)) (de_var (i := 2))) (da_cons (de_ix (hu1 hr) (de_var (i := 0)) (de_var (i := 3))) (da_cons (de_var (i := 1)) da_nil))))) (dss_one (ds_set (i := 2) sc_holder.nd rfl (by first | exact .inl rfl | exact .inr rfl) (de_var (i := 3)))) dss_nil)))
    (dss_one (ds_ret (de_var (i := 2)))))), r_holder A⟩, bn⟩
theorem ok_fresh_label (T : Txt K mg A) : OkP P w K mg base 2 A.f_fresh_label ["known", "letter", "letters"] (sp_fresh_label A) := by
  obtain ⟨fd, Fn, bn⟩ := T.F_fresh_label
  obtain ⟨_, G_Known_flat, b_Known_flat⟩ := ok_Known_flat (P := P) (w := w) (base := base) T
  exact ⟨fd, fun_pure Fn sc_fresh_label (len_fresh_label A) fun cdv Ao outer s H E hr => ⟨c_fresh_label A, (dss_cons (ds_set (i := 3) sc_fresh_label.nd rfl (by first | exact .inl rfl | exact .inr rfl) de_newDK)
    (dss_cons (ds_for PassesOwn.never rfl (di_seq (de_var (i := 0))) (dg_name (i := 4) sc_fresh_label.nd rfl (by first | exact .inl rfl | exact .inr rfl)) (dss_one (ds_for PassesOwn.never rfl (di_seq (de_meth0 (NS := nsKnown) (de_var (i := 4)) T.cl_Known T.me_Known_flat G_Known_flat (hr.mono (by decide)) b_Known_flat (by decide +kernel))) (dg_name (i := 5) sc_fresh_label.nd rfl (by first | exact .inl rfl | exact .inr rfl)) (dss_one (ds_asg de_bl (dg_sub (hu1 hr) (de_var (i := 3)) (de_var (i := 5))))))))
    (dss_cons (ds_set (i := 5) sc_fresh_label.nd rfl (by first | exact .inl rfl | exact .inr rfl) (de_bin op_addA (c_add false) de_int (de_var (i := 1))))
    (dss_cons (ds_while PassesOwn.never (dt_cmp (op_inA (hu65 hr)) (c_in false) (de_var (i := 5)) (de_var (i := 3)) rfl) (dss_one (ds_aug (i := 5) ip_add sc_fresh_label.nd rfl (by first | exact .inl rfl | exact .inr rfl) (de_var (i := 2)))))
    (dss_one (ds_ret (de_var (i := 5)))))))), r_fresh_label A⟩, bn⟩
theorem ok_met (T : Txt K mg A) : OkP P w K mg base 3 A.f_met ["known", "letter", "alphabet"] (sp_met A) := by
  obtain ⟨fd, Fn, bn⟩ := T.F_met
  obtain ⟨_, G_Known__init_, b_Known__init_⟩ := ok_Known__init_ (P := P) (w := w) (base := base) T
  obtain ⟨_, G_fresh_label, b_fresh_label⟩ := ok_fresh_label (P := P) (w := w) (base := base) T
  obtain ⟨_, G_holder, b_holder⟩ := ok_holder (P := P) (w := w) (base := base) T
  exact ⟨fd, fun_pure Fn sc_met (len_met A) fun cdv Ao outer s H E hr => ⟨c_met A, (dss_cons (ds_set (i := 3) sc_met.nd rfl (by first | exact .inl rfl | exact .inr rfl) (de_ix (hu1 hr) (de_fld (j := 1) (NS := nsAlphabet) (de_var (i := 2)) T.cl_Alphabet T.na_Alphabet_letters (by decide +kernel)) (de_var (i := 1))))
    (dss_cons (ds_set (i := 4) sc_met.nd rfl (by first | exact .inl rfl | exact .inr rfl) (de_call G_fresh_label (hr.mono (by decide)) T.mg_fresh_label T.kp_fresh_label b_fresh_label (da_cons (de_var (i := 0)) (da_cons (de_var (i := 1)) (da_cons (de_callB call_lenA c_len T.n_len (by decide +kernel) (da_cons (de_fld (j := 1) (NS := nsAlphabet) (de_var (i := 2)) T.cl_Alphabet T.na_Alphabet_letters (by decide +kernel)) da_nil)) da_nil)))))
    (dss_cons (ds_setLc (i := 5) (own := [("place", 7)]) false (bd_name (by decide)) rfl sc_met.nd rfl rfl (sw_true rfl rfl rfl (by decide +kernel)) (di_range1 T.n_range (da_cons (de_fld (j := 0) (NS := nsAlphabet) (de_var (i := 2)) T.cl_Alphabet T.na_Alphabet_places (by decide +kernel)) da_nil)) (blkOk_by (own := [("place", 7)]) (N := ["known", "letter", "alphabet", "there", "label", "holders", "first", "place", "second", "third"]) rfl) (fun _ _ _ _ _ => (pg_name (i := 7) sc_met.nd rfl (by first | exact .inl rfl | exact .inr rfl))) (fun _ _ _ _ _ => dts_nil) (fun _ _ _ _ _ => (de_call G_holder (hr.mono (by decide)) T.mg_holder T.kp_holder b_holder (da_cons (de_var (i := 0)) (da_cons (de_var (i := 7)) da_nil)))))
    (dss_cons (ds_set (i := 6) sc_met.nd rfl (by first | exact .inl rfl | exact .inr rfl) (de_lst true da_nil))
    (dss_cons (ds_for PassesOwn.never rfl (di_range1 T.n_range (da_cons (de_fld (j := 0) (NS := nsAlphabet) (de_var (i := 2)) T.cl_Alphabet T.na_Alphabet_places (by decide +kernel)) da_nil)) (dg_name (i := 7) sc_met.nd rfl (by first | exact .inl rfl | exact .inr rfl)) (dss_one (ds_if (dt_cmp (op_inA (hu65 hr)) (c_in false) (de_var (i := 7)) (de_var (i := 3)) rfl) (dss_one (ds_expr (de_bm PySem.F.slot_list_append PySem.F.type_list_append mt_append c_append (de_var (i := 6)) (da_cons (de_var (i := 4)) da_nil)))) (dss_one (ds_expr (de_bm PySem.F.slot_list_append PySem.F.type_list_append mt_append c_append (de_var (i := 6)) (da_cons (de_ix (hu1 hr) (de_fld (j := 0) (NS := nsKnown) (de_ix (hu1 hr) (de_var (i := 0)) (de_ix (hu1 hr) (de_var (i := 5)) (de_var (i := 7)))) T.cl_Known T.na_Known_first (by decide +kernel)) (de_var (i := 7))) da_nil)))))))
    (dss_cons (ds_set (i := 8) sc_met.nd rfl (by first | exact .inl rfl | exact .inr rfl) (de_lst true da_nil))
    (dss_cons (ds_for PassesOwn.never rfl (di_range1 T.n_range (da_cons (de_fld (j := 0) (NS := nsAlphabet) (de_var (i := 2)) T.cl_Alphabet T.na_Alphabet_places (by decide +kernel)) da_nil)) (dg_name (i := 7) sc_met.nd rfl (by first | exact .inl rfl | exact .inr rfl)) (dss_one (ds_if (dt_cmp (op_inA (hu65 hr)) (c_in false) (de_var (i := 7)) (de_var (i := 3)) rfl) (dss_one (ds_expr (de_bm PySem.F.slot_list_append PySem.F.type_list_append mt_append c_append (de_var (i := 8)) (da_cons (de_callTy call_tuple_of c_tuple T.n_tuple (by decide +kernel) (da_cons (de_var (i := 6)) da_nil)) da_nil)))) (dss_one (ds_expr (de_bm PySem.F.slot_list_append PySem.F.type_list_append mt_append c_append (de_var (i := 8)) (da_cons (de_ix (hu1 hr) (de_fld (j := 1) (NS := nsKnown) (de_ix (hu1 hr) (de_var (i := 0)) (de_ix (hu1 hr) (de_var (i := 5)) (de_var (i := 7)))) T.cl_Known T.na_Known_second (by decide +kernel)) (de_var (i := 7))) da_nil)))))))
    (dss_cons (ds_set (i := 9) sc_met.nd rfl (by first | exact .inl rfl | exact .inr rfl) (de_lst true da_nil))
    (dss_cons (ds_for PassesOwn.never rfl (di_range1 T.n_range (da_cons (de_fld (j := 0) (NS := nsAlphabet) (de_var (i := 2)) T.cl_Alphabet T.na_Alphabet_places (by decide +kernel)) da_nil)) (dg_name (i := 7) sc_met.nd rfl (by first | exact .inl rfl | exact .inr rfl)) (dss_one (ds_if (dt_cmp (op_inA (hu65 hr)) (c_in false) (de_var (i := 7)) (de_var (i := 3)) rfl) (dss_one (ds_expr (de_bm PySem.F.slot_list_append PySem.F.type_list_append mt_append c_append (de_var (i := 9)) (da_cons (de_callTy call_tuple_of c_tuple T.n_tuple (by decide +kernel) (da_cons (de_var (i := 8)) da_nil)) da_nil)))) (dss_one (ds_expr (de_bm PySem.F.slot_list_append PySem.F.type_list_append mt_append c_append (de_var (i := 9)) (da_cons (de_ix (hu1 hr) (de_fld (j := 2) (NS := nsKnown) (de_ix (hu1 hr) (de_var (i := 0)) (de_ix (hu1 hr) (de_var (i := 5)) (de_var (i := 7)))) T.cl_Known T.na_Known_third (by decide +kernel)) (de_var (i := 7))) da_nil)))))))
    (dss_one (ds_ret (de_make T.mk_Known G_Known__init_ (hr.mono (by decide)) T.mg_Known b_Known__init_ (da_cons (de_callTy call_tuple_of c_tuple T.n_tuple (by decide +kernel) (da_cons (de_var (i := 6)) da_nil)) (da_cons (de_callTy call_tuple_of c_tuple T.n_tuple (by decide +kernel) (da_cons (de_var (i := 8)) da_nil)) (da_cons (de_callTy call_tuple_of c_tuple T.n_tuple (by decide +kernel) (da_cons (de_var (i := 9)) da_nil)) da_nil))))))))))))))), r_met A⟩, bn⟩
theorem ok_News__init_ (T : Txt K mg A) : OkG P w K mg base 1 A.f_News__init_ ["self", "alphabet"] (sp_News__init_ A) := by
  obtain ⟨fd, Fn, bn⟩ := T.F_News__init_
  exact ⟨fd, fun_ok Fn sc_News__init_ (len_News__init_ A) fun cdv Ao outer s H E hr => ⟨c_News__init_ A, (dss_one (ds_setF (NS := []) (NS' := nsNews) (j := none) T.cl_News T.na_News_alphabet (by decide +kernel) rfl (by decide) (de_var (i := 0)) (de_var (i := 1)))), r_News__init_ A⟩, bn⟩
theorem ok_News_start (T : Txt K mg A) : OkP P w K mg base 5 A.f_News_start ["self"] (sp_News_start A) := by
  obtain ⟨fd, Fn, bn⟩ := T.F_News_start
  obtain ⟨_, G_Known_flat, b_Known_flat⟩ := ok_Known_flat (P := P) (w := w) (base := base) T
  obtain ⟨_, G_first_known, b_first_known⟩ := ok_first_known (P := P) (w := w) (base := base) T
  exact ⟨fd, fun_pure Fn sc_News_start (len_News_start A) fun cdv Ao outer s H E hr => ⟨c_News_start A, (dss_one (ds_ret (de_bin op_mulA (c_mul false) (de_tup (da_cons (de_meth0 (NS := nsKnown) (de_call G_first_known (hr.mono (by decide)) T.mg_first_known T.kp_first_known b_first_known (da_cons (de_fld (j := 0) (NS := nsAlphabet) (de_fld (j := 0) (NS := nsNews) (de_var (i := 0)) T.cl_News T.na_News_alphabet (by decide +kernel)) T.cl_Alphabet T.na_Alphabet_places (by decide +kernel)) da_nil)) T.cl_Known T.me_Known_flat G_Known_flat (hr.mono (by decide)) b_Known_flat (by decide +kernel)) da_nil)) (de_fld (j := 0) (NS := nsAlphabet) (de_fld (j := 0) (NS := nsNews) (de_var (i := 0)) T.cl_News T.na_News_alphabet (by decide +kernel)) T.cl_Alphabet T.na_Alphabet_places (by decide +kernel))))), r_News_start A⟩, bn⟩
theorem ok_News_meet (T : Txt K mg A) : OkP P w K mg base 4 A.f_News_meet ["self", "letter", "states"] (sp_News_meet A) := by
  obtain ⟨fd, Fn, bn⟩ := T.F_News_meet
  obtain ⟨_, G_Known_flat, b_Known_flat⟩ := ok_Known_flat (P := P) (w := w) (base := base) T
  obtain ⟨_, G_known_of, b_known_of⟩ := ok_known_of (P := P) (w := w) (base := base) T
  obtain ⟨_, G_met, b_met⟩ := ok_met (P := P) (w := w) (base := base) T
  exact ⟨fd, fun_pure Fn sc_News_meet (len_News_meet A) fun cdv Ao outer s H E hr => ⟨c_News_meet A, (dss_cons (ds_setLc (i := 3) (own := [("state", 4)]) false (bd_name (by decide)) rfl sc_News_meet.nd rfl rfl (sw_true rfl rfl rfl (by decide +kernel)) (di_seq (de_var (i := 2))) (blkOk_by (own := [("state", 4)]) (N := ["self", "letter", "states", "known", "state"]) rfl) (fun _ _ _ _ _ => (pg_name (i := 4) sc_News_meet.nd rfl (by first | exact .inl rfl | exact .inr rfl))) (fun _ _ _ _ _ => dts_nil) (fun _ _ _ _ _ => (de_call G_known_of (hr.mono (by decide)) T.mg_known_of T.kp_known_of b_known_of (da_cons (de_var (i := 4)) (da_cons (de_fld (j := 0) (NS := nsAlphabet) (de_fld (j := 0) (NS := nsNews) (de_var (i := 0)) T.cl_News T.na_News_alphabet (by decide +kernel)) T.cl_Alphabet T.na_Alphabet_places (by decide +kernel)) da_nil)))))
    (dss_one (ds_ret (de_bin op_mulA (c_mul false) (de_tup (da_cons (de_meth0 (NS := nsKnown) (de_call G_met (hr.mono (by decide)) T.mg_met T.kp_met b_met (da_cons (de_var (i := 3)) (da_cons (de_var (i := 1)) (da_cons (de_fld (j := 0) (NS := nsNews) (de_var (i := 0)) T.cl_News T.na_News_alphabet (by decide +kernel)) da_nil)))) T.cl_Known T.me_Known_flat G_Known_flat (hr.mono (by decide)) b_Known_flat (by decide +kernel)) da_nil)) (de_callB call_lenA c_len T.n_len (by decide +kernel) (da_cons (de_var (i := 2)) da_nil)))))), r_News_meet A⟩, bn⟩
theorem ok_News_compare (T : Txt K mg A) : OkP P w K mg base 4 A.f_News_compare ["self", "first", "second", "place"] (sp_News_compare A) := by
  obtain ⟨fd, Fn, bn⟩ := T.F_News_compare
  obtain ⟨_, G_is_older, b_is_older⟩ := ok_is_older (P := P) (w := w) (base := base) T
  obtain ⟨_, G_known_of, b_known_of⟩ := ok_known_of (P := P) (w := w) (base := base) T
  exact ⟨fd, fun_pure Fn sc_News_compare (len_News_compare A) fun cdv Ao outer s H E hr => ⟨c_News_compare A, (dss_cons (ds_set (i := 4) sc_News_compare.nd rfl (by first | exact .inl rfl | exact .inr rfl) (de_call G_known_of (hr.mono (by decide)) T.mg_known_of T.kp_known_of b_known_of (da_cons (de_var (i := 1)) (da_cons (de_fld (j := 0) (NS := nsAlphabet) (de_fld (j := 0) (NS := nsNews) (de_var (i := 0)) T.cl_News T.na_News_alphabet (by decide +kernel)) T.cl_Alphabet T.na_Alphabet_places (by decide +kernel)) da_nil))))
    (dss_cons (ds_set (i := 5) sc_News_compare.nd rfl (by first | exact .inl rfl | exact .inr rfl) (de_call G_known_of (hr.mono (by decide)) T.mg_known_of T.kp_known_of b_known_of (da_cons (de_var (i := 2)) (da_cons (de_fld (j := 0) (NS := nsAlphabet) (de_fld (j := 0) (NS := nsNews) (de_var (i := 0)) T.cl_News T.na_News_alphabet (by decide +kernel)) T.cl_Alphabet T.na_Alphabet_places (by decide +kernel)) da_nil))))
    (dss_cons (ds_if (dt_cmp (op_eqA (hr.units)) c_eq (de_ix (hu1 hr) (de_fld (j := 0) (NS := nsKnown) (de_var (i := 4)) T.cl_Known T.na_Known_first (by decide +kernel)) (de_var (i := 3))) (de_ix (hu1 hr) (de_fld (j := 0) (NS := nsKnown) (de_var (i := 5)) T.cl_Known T.na_Known_first (by decide +kernel)) (de_var (i := 3))) (nomark _)) (dss_one (ds_ret de_int)) dss_nil)
    (dss_cons (ds_if (dt_val (de_call G_is_older (hr.mono (by decide)) T.mg_is_older T.kp_is_older b_is_older (da_cons (de_var (i := 4)) (da_cons (de_var (i := 5)) (da_cons (de_var (i := 3)) da_nil))))) (dss_one (ds_ret (de_un un_neg c_neg de_int))) dss_nil)
    (dss_one (ds_ret de_int)))))), r_News_compare A⟩, bn⟩
theorem ok_fits (T : Txt K mg A) : OkP P w K mg base 1 A.f_fits ["letter", "places"] (sp_fits A) := by
  obtain ⟨fd, Fn, bn⟩ := T.F_fits
  exact ⟨fd, fun_pure Fn sc_fits (len_fits A) fun cdv Ao outer s H E hr => ⟨c_fits A, (dss_cons (ds_if (dt_cmp (op_eqA (hr.units)) c_eq (de_callB call_lenA c_len T.n_len (by decide +kernel) (da_cons (de_var (i := 0)) da_nil)) de_int (nomark _)) (dss_one (ds_ret de_bl)) dss_nil)
    (dss_cons (ds_for PassesOwn.never rfl (di_range1 T.n_range (da_cons (de_callB call_lenA c_len T.n_len (by decide +kernel) (da_cons (de_var (i := 0)) da_nil)) da_nil)) (dg_name (i := 2) sc_fits.nd rfl (by first | exact .inl rfl | exact .inr rfl)) (dss_one (ds_if (PW.pt (dw_or (dt_cmp op_lt c_cmpI (de_ix (hu1 hr) (de_var (i := 0)) (de_var (i := 2))) de_int (nomark _)) (dw_or (dt_cmp op_ge c_cmpI (de_ix (hu1 hr) (de_var (i := 0)) (de_var (i := 2))) (de_var (i := 1)) (nomark _)) (dw_or1 (PW.pt (dw_and (dt_cmp op_gt c_cmpI (de_var (i := 2)) de_int (nomark _)) (dw_and1 (dt_cmp op_le c_cmpI (de_ix (hu1 hr) (de_var (i := 0)) (de_var (i := 2))) (de_ix (hu1 hr) (de_var (i := 0)) (de_bin op_sub c_int0 (de_var (i := 2)) de_int)) (nomark _))))))))) (dss_one (ds_ret de_bl)) dss_nil)))
    (dss_one (ds_ret de_bl)))), r_fits A⟩, bn⟩
theorem ok_Alphabet__init_ (T : Txt K mg A) : OkG P w K mg base 2 A.f_Alphabet__init_ ["self", "places", "letters"] (sp_Alphabet__init_ A) := by
  obtain ⟨fd, Fn, bn⟩ := T.F_Alphabet__init_
  obtain ⟨_, G_fits, b_fits⟩ := ok_fits (P := P) (w := w) (base := base) T
  exact ⟨fd, fun_ok Fn sc_Alphabet__init_ (len_Alphabet__init_ A) fun cdv Ao outer s H E hr => ⟨c_Alphabet__init_ A, (dss_cons (ds_set (i := 3) sc_Alphabet__init_.nd rfl (by first | exact .inl rfl | exact .inr rfl) (de_and (de_chain op_le op_le de_int (de_var (i := 1)) (de_globI T.mg_MOST_PLACES)) (de_one (de_chain op_le op_le de_int (de_callB call_lenA c_len T.n_len (by decide +kernel) (da_cons (de_var (i := 2)) da_nil)) (de_globI T.mg_MOST_LETTERS)))))
    (dss_cons (ds_for PassesOwn.never rfl (di_seq (de_var (i := 2))) (dg_name (i := 4) sc_Alphabet__init_.nd rfl (by first | exact .inl rfl | exact .inr rfl)) (dss_one (ds_set (i := 3) sc_Alphabet__init_.nd rfl (by first | exact .inl rfl | exact .inr rfl) (de_and (de_var (i := 3)) (de_one (de_call G_fits (hr.mono (by decide)) T.mg_fits T.kp_fits b_fits (da_cons (de_var (i := 4)) (da_cons (de_var (i := 1)) da_nil))))))))
    (dss_cons (ds_if (dt_not (dt_val (de_var (i := 3)))) (dss_one ds_never) dss_nil)
    (dss_cons (ds_setF (NS := []) (NS' := ["places"]) (j := none) T.cl_Alphabet T.na_Alphabet_places (by decide +kernel) rfl (by decide) (de_var (i := 0)) (de_var (i := 1)))
    (dss_one (ds_setF (NS := ["places"]) (NS' := nsAlphabet) (j := none) T.cl_Alphabet T.na_Alphabet_letters (by decide +kernel) rfl (by decide) (de_var (i := 0)) (de_callTy call_tuple_of c_tuple T.n_tuple (by decide +kernel) (da_cons (de_lc (own := [("letter", 4)]) false (bd_name (by decide)) rfl sc_Alphabet__init_.nd (di_seq (de_var (i := 2))) (blkOk_by (own := [("letter", 4)]) (N := ["self", "places", "letters", "valid", "letter"]) rfl) (fun _ _ _ _ _ => (pg_name (i := 4) sc_Alphabet__init_.nd rfl (by first | exact .inl rfl | exact .inr rfl))) (fun _ _ _ _ _ => dts_nil) (fun _ _ _ _ _ => (de_callTy call_tuple_of c_tuple T.n_tuple (by decide +kernel) (da_cons (de_var (i := 4)) da_nil)))) da_nil)))))))), r_Alphabet__init_ A⟩, bn⟩
theorem ok_law_draws (T : Txt K mg A) : OkG P w K mg base 1 A.f_law_draws ["script", "count"] (sp_law_draws A) := by
  obtain ⟨fd, Fn, bn⟩ := T.F_law_draws
  exact ⟨fd, fun_ok Fn sc_law_draws (len_law_draws A) fun cdv Ao outer s H E hr => ⟨c_law_draws A, (dss_cons (ds_set (i := 2) sc_law_draws.nd rfl (by first | exact .inl rfl | exact .inr rfl) (de_callTy call_list_of (c_list true) T.n_list (by decide +kernel) (da_cons (de_var (i := 0)) da_nil)))
    (dss_cons (ds_if (dt_cmp (op_eqA (hr.units)) c_eq (de_callB call_lenA c_len T.n_len (by decide +kernel) (da_cons (de_var (i := 2)) da_nil)) de_int (nomark _)) (dss_one (ds_set (i := 2) sc_law_draws.nd rfl (by first | exact .inl rfl | exact .inr rfl) (de_lst true (da_cons de_int da_nil)))) dss_nil)
    (dss_cons (ds_set (i := 3) sc_law_draws.nd rfl (by first | exact .inl rfl | exact .inr rfl) (de_lst true da_nil))
    (dss_cons (ds_set (i := 4) sc_law_draws.nd rfl (by first | exact .inl rfl | exact .inr rfl) de_int)
    (dss_cons (ds_for PassesOwn.never rfl (di_range1 T.n_range (da_cons (de_var (i := 1)) da_nil)) (dg_name (i := 5) sc_law_draws.nd rfl (by first | exact .inl rfl | exact .inr rfl)) (dss_cons (ds_set (i := 6) sc_law_draws.nd rfl (by first | exact .inl rfl | exact .inr rfl) (de_bin op_mod c_intOp (de_var (i := 5)) (de_callB call_lenA c_len T.n_len (by decide +kernel) (da_cons (de_var (i := 2)) da_nil))))
    (dss_cons (ds_set (i := 7) sc_law_draws.nd rfl (by first | exact .inl rfl | exact .inr rfl) (de_ix (hu1 hr) (de_var (i := 2)) (de_var (i := 6))))
    (dss_cons (ds_set (i := 4) sc_law_draws.nd rfl (by first | exact .inl rfl | exact .inr rfl) (de_bin op_mod c_intOp (de_callTy call_int1 c_int T.n_int (by decide +kernel) (da_cons (de_bin op_addA (c_add false) (de_bin op_addA (c_add false) (de_bin op_addA (c_add false) (de_bin op_mulA (c_mul false) (de_var (i := 4)) de_int) (de_bin op_mulA (c_mul false) (de_bin op_mod c_intOp (de_callTy call_int1 c_int T.n_int (by decide +kernel) (da_cons (de_var (i := 7)) da_nil)) de_int) de_int)) (de_bin op_mulA (c_mul false) (de_var (i := 5)) de_int)) de_int) da_nil)) de_int))
    (dss_cons (ds_set (i := 8) sc_law_draws.nd rfl (by first | exact .inl rfl | exact .inr rfl) (de_bin op_mod c_intOp (de_callTy call_int1 c_int T.n_int (by decide +kernel) (da_cons (de_bin op_addA (c_add false) (de_bin op_addA (c_add false) (de_bin op_mulA (c_mul false) (de_var (i := 4)) (de_var (i := 4))) (de_bin op_mulA (c_mul false) de_int (de_var (i := 4)))) (de_var (i := 5))) da_nil)) de_int))
    (dss_one (ds_if (dt_cmp op_ge c_cmpI (de_var (i := 7)) (de_bin op_pow c_intOp de_int de_int) (nomark _)) (dss_cons (ds_expr (de_bm PySem.F.slot_list_append PySem.F.type_list_append mt_append c_append (de_var (i := 3)) (da_cons (de_bin op_mod c_intOp (de_callTy call_int1 c_int T.n_int (by decide +kernel) (da_cons (de_var (i := 7)) da_nil)) de_int) da_nil)))
    (dss_one (ds_asg (de_bin op_fdiv c_intOp (de_var (i := 7)) de_int) (dg_sub (hu1 hr) (de_var (i := 2)) (de_var (i := 6)))))) (dss_one (ds_expr (de_bm PySem.F.slot_list_append PySem.F.type_list_append mt_append c_append (de_var (i := 3)) (da_cons (de_bin op_mod c_intOp (de_callTy call_int1 c_int T.n_int (by decide +kernel) (da_cons (de_var (i := 8)) da_nil)) de_int) da_nil)))))))))))
    (dss_cons (ds_expr (de_bm0 PySem.F.slot_list_reverse PySem.F.type_list_reverse mt_reverse c_reverse (de_var (i := 3))))
    (dss_one (ds_ret (de_var (i := 3)))))))))), r_law_draws A⟩, bn⟩
theorem ok_law_take (T : Txt K mg A) : OkG P w K mg base 1 A.f_law_take ["draws", "limit"] (sp_law_take A) := by
  obtain ⟨fd, Fn, bn⟩ := T.F_law_take
  exact ⟨fd, fun_ok Fn sc_law_take (len_law_take A) fun cdv Ao outer s H E hr => ⟨c_law_take A, (dss_cons (ds_if (dt_cmp (op_eqA (hr.units)) c_eq (de_callB call_lenA c_len T.n_len (by decide +kernel) (da_cons (de_var (i := 0)) da_nil)) de_int (nomark _)) (dss_one (ds_ret de_int)) dss_nil)
    (dss_one (ds_ret (de_bin op_mod c_intOp (de_callTy call_int1 c_int T.n_int (by decide +kernel) (da_cons (de_bm0 PySem.F.slot_list_pop PySem.F.type_list_pop mt_pop c_pop (de_var (i := 0))) da_nil)) (de_var (i := 1)))))), r_law_take A⟩, bn⟩
theorem ok_law_is_integer (T : Txt K mg A) : OkP P w K mg base 1 A.f_law_is_integer ["actual"] (sp_law_is_integer A) := by
  obtain ⟨fd, Fn, bn⟩ := T.F_law_is_integer
  exact ⟨fd, fun_pure Fn sc_law_is_integer (len_law_is_integer A) fun cdv Ao outer s H E hr => ⟨c_law_is_integer A, (dss_one (ds_ret (de_and (de_callB call_isi c_isi T.n_isinstance (by decide +kernel) (da_cons (de_var (i := 0)) (da_cons (de_ty T.n_int (by decide +kernel)) da_nil))) (de_one (de_not (de_callB call_isi c_isi T.n_isinstance (by decide +kernel) (da_cons (de_var (i := 0)) (da_cons (de_ty T.n_bool (by decide +kernel)) da_nil)))))))), r_law_is_integer A⟩, bn⟩
theorem ok_law_alphabet (T : Txt K mg A) : OkG P w K mg base 2 A.f_law_alphabet ["draws", "places", "most"] (sp_law_alphabet A) := by
  obtain ⟨fd, Fn, bn⟩ := T.F_law_alphabet
  obtain ⟨_, G_law_take, b_law_take⟩ := ok_law_take (P := P) (w := w) (base := base) T
  exact ⟨fd, fun_ok Fn sc_law_alphabet (len_law_alphabet A) fun cdv Ao outer s H E hr => ⟨c_law_alphabet A, (dss_cons (ds_set (i := 3) sc_law_alphabet.nd rfl (by first | exact .inl rfl | exact .inr rfl) (de_bin op_addA (c_add false) de_int (de_call1 G_law_take (hr.mono (by decide)) T.mg_law_take T.kp_law_take b_law_take (da_cons (de_var (i := 0)) (da_cons (de_var (i := 1)) da_nil)))))
    (dss_cons (ds_set (i := 4) sc_law_alphabet.nd rfl (by first | exact .inl rfl | exact .inr rfl) (de_lst true da_nil))
    (dss_cons (ds_for PassesOwn.never rfl (di_range1 T.n_range (da_cons (de_bin op_addA (c_add false) de_int (de_call1 G_law_take (hr.mono (by decide)) T.mg_law_take T.kp_law_take b_law_take (da_cons (de_var (i := 0)) (da_cons (de_var (i := 2)) da_nil)))) da_nil)) (dg_name (i := 5) sc_law_alphabet.nd rfl (by first | exact .inl rfl | exact .inr rfl)) (dss_cons (ds_set (i := 6) sc_law_alphabet.nd rfl (by first | exact .inl rfl | exact .inr rfl) (de_ix (hu1 hr) (de_lst false (da_cons de_int (da_cons de_int (da_cons de_int (da_cons de_int (da_cons de_int (da_cons de_int da_nil))))))) (de_call1 G_law_take (hr.mono (by decide)) T.mg_law_take T.kp_law_take b_law_take (da_cons (de_var (i := 0)) (da_cons de_int da_nil)))))
    (dss_cons (ds_setLc (i := 7) (own := [("j", 8)]) false (bd_name (by decide)) rfl sc_law_alphabet.nd rfl rfl (sw_true rfl rfl rfl (by decide +kernel)) (di_range1 T.n_range (da_cons (de_var (i := 6)) da_nil)) (blkOk_by (own := [("j", 8)]) (N := ["draws", "places", "most", "count", "letters", "k", "size", "there", "j"]) rfl) (fun _ _ _ _ _ => (pg_name (i := 8) sc_law_alphabet.nd rfl (by first | exact .inl rfl | exact .inr rfl))) (fun _ _ _ _ _ => dts_nil) (fun _ _ _ _ _ => (de_call1 G_law_take (hr.mono (by decide)) T.mg_law_take T.kp_law_take b_law_take (da_cons (de_var (i := 0)) (da_cons (de_var (i := 3)) da_nil)))))
    (dss_one (ds_expr (de_bm PySem.F.slot_list_append PySem.F.type_list_append mt_append c_append (de_var (i := 4)) (da_cons (de_callTy call_tuple_of c_tuple T.n_tuple (by decide +kernel) (da_cons (de_sortedSet false rfl T.n_sorted T.n_set (de_var (i := 7))) da_nil)) da_nil)))))))
    (dss_one (ds_ret (de_tup (da_cons (de_var (i := 3)) (da_cons (de_frz (de_var (i := 4))) da_nil)))))))), r_law_alphabet A⟩, bn⟩
theorem ok_law_word (T : Txt K mg A) : OkG P w K mg base 2 A.f_law_word ["draws", "letters", "most"] (sp_law_word A) := by
  obtain ⟨fd, Fn, bn⟩ := T.F_law_word
  obtain ⟨_, G_law_take, b_law_take⟩ := ok_law_take (P := P) (w := w) (base := base) T
  exact ⟨fd, fun_ok Fn sc_law_word (len_law_word A) fun cdv Ao outer s H E hr => ⟨c_law_word A, (dss_one (ds_ret (de_callTy call_tuple_of c_tuple T.n_tuple (by decide +kernel) (da_cons (de_lc (own := [("k", 3)]) false (bd_name (by decide)) rfl sc_law_word.nd (di_range1 T.n_range (da_cons (de_call1 G_law_take (hr.mono (by decide)) T.mg_law_take T.kp_law_take b_law_take (da_cons (de_var (i := 0)) (da_cons (de_bin op_addA (c_add false) (de_var (i := 2)) de_int) da_nil))) da_nil)) (blkOk_by (own := [("k", 3)]) (N := ["draws", "letters", "most", "k"]) rfl) (fun _ _ _ _ _ => (pg_name (i := 3) sc_law_word.nd rfl (by first | exact .inl rfl | exact .inr rfl))) (fun _ _ _ _ _ => dts_nil) (fun _ _ _ _ _ => (de_call1 G_law_take (hr.mono (by decide)) T.mg_law_take T.kp_law_take b_law_take (da_cons (de_var (i := 0)) (da_cons (de_var (i := 1)) da_nil))))) da_nil)))), r_law_word A⟩, bn⟩
theorem ok_law_small_state (T : Txt K mg A) : OkP P w K mg base 2 A.f_law_small_state ["actual", "most"] (sp_law_small_state A) := by
  obtain ⟨fd, Fn, bn⟩ := T.F_law_small_state
  obtain ⟨_, G_law_is_integer, b_law_is_integer⟩ := ok_law_is_integer (P := P) (w := w) (base := base) T
  exact ⟨fd, fun_pure Fn sc_law_small_state (len_law_small_state A) fun cdv Ao outer s H E hr => ⟨c_law_small_state A, (dss_cons (ds_if (PW.pt (dw_or (dt_not (dt_val (de_callB call_isi c_isi T.n_isinstance (by decide +kernel) (da_cons (de_var (i := 0)) (da_cons (de_ty T.n_tuple (by decide +kernel)) da_nil))))) (dw_or1 (dt_cmp op_gt c_cmpI (de_callB call_lenA c_len T.n_len (by decide +kernel) (da_cons (de_var (i := 0)) da_nil)) (de_var (i := 1)) (nomark _))))) (dss_one (ds_ret de_bl)) dss_nil)
    (dss_cons (ds_for PassesOwn.never rfl (di_seq (de_var (i := 0))) (dg_name (i := 2) sc_law_small_state.nd rfl (by first | exact .inl rfl | exact .inr rfl)) (dss_one (ds_if (PW.pt (dw_or (dt_not (dt_val (de_call G_law_is_integer (hr.mono (by decide)) T.mg_law_is_integer T.kp_law_is_integer b_law_is_integer (da_cons (de_var (i := 2)) da_nil)))) (dw_or (dt_cmp op_lt c_cmpI (de_var (i := 2)) de_int (nomark _)) (dw_or1 (dt_cmp op_gt c_cmpI (de_var (i := 2)) de_int (nomark _)))))) (dss_one (ds_ret de_bl)) dss_nil)))
    (dss_one (ds_ret de_bl)))), r_law_small_state A⟩, bn⟩
theorem ok_law_meet (T : Txt K mg A) : OkP P w K mg base 5 A.f_law_meet ["machines", "letters", "states", "letter"] (sp_law_meet A) := by
  obtain ⟨fd, Fn, bn⟩ := T.F_law_meet
  obtain ⟨_, G_News_meet, b_News_meet⟩ := ok_News_meet (P := P) (w := w) (base := base) T
  exact ⟨fd, fun_pure Fn sc_law_meet (len_law_meet A) fun cdv Ao outer s H E hr => ⟨c_law_meet A, (dss_cons (ds_set (i := 4) sc_law_meet.nd rfl (by first | exact .inl rfl | exact .inr rfl) (de_ix (hu1 hr) (de_var (i := 1)) (de_var (i := 3))))
    (dss_cons (ds_set (i := 5) sc_law_meet.nd rfl (by first | exact .inl rfl | exact .inr rfl) (de_meth (NS := nsNews) (de_var (i := 0)) T.cl_News T.me_News_meet G_News_meet (hr.mono (by decide)) b_News_meet (by decide +kernel) (da_cons (de_var (i := 3)) (da_cons (de_callTy call_tuple_of c_tuple T.n_tuple (by decide +kernel) (da_cons (de_lc (own := [("place", 8)]) false (bd_name (by decide)) rfl sc_law_meet.nd (di_seq (de_var (i := 4))) (blkOk_by (own := [("place", 8)]) (N := ["machines", "letters", "states", "letter", "there", "after", "found", "k", "place"]) rfl) (fun _ _ _ _ _ => (pg_name (i := 8) sc_law_meet.nd rfl (by first | exact .inl rfl | exact .inr rfl))) (fun _ _ _ _ _ => dts_nil) (fun _ _ _ _ _ => (de_ix (hu1 hr) (de_var (i := 2)) (de_var (i := 8))))) da_nil)) da_nil))))
    (dss_cons (ds_if (PW.pt (dw_or (dt_not (dt_val (de_callB call_isi c_isi T.n_isinstance (by decide +kernel) (da_cons (de_var (i := 5)) (da_cons (de_ty T.n_tuple (by decide +kernel)) da_nil))))) (dw_or1 (dt_cmp (op_neA (hr.units)) c_ne (de_callB call_lenA c_len T.n_len (by decide +kernel) (da_cons (de_var (i := 5)) da_nil)) (de_callB call_lenA c_len T.n_len (by decide +kernel) (da_cons (de_var (i := 4)) da_nil)) (nomark _))))) (dss_one (ds_ret de_non)) dss_nil)
    (dss_cons (ds_set (i := 6) sc_law_meet.nd rfl (by first | exact .inl rfl | exact .inr rfl) (de_callTy call_list_of (c_list true) T.n_list (by decide +kernel) (da_cons (de_var (i := 2)) da_nil)))
    (dss_cons (ds_for PassesOwn.never rfl (di_range1 T.n_range (da_cons (de_callB call_lenA c_len T.n_len (by decide +kernel) (da_cons (de_var (i := 4)) da_nil)) da_nil)) (dg_name (i := 7) sc_law_meet.nd rfl (by first | exact .inl rfl | exact .inr rfl)) (dss_cons (ds_set (i := 8) sc_law_meet.nd rfl (by first | exact .inl rfl | exact .inr rfl) (de_ix (hu1 hr) (de_var (i := 4)) (de_var (i := 7))))
    (dss_one (ds_asg (de_ix (hu1 hr) (de_var (i := 5)) (de_var (i := 7))) (dg_sub (hu1 hr) (de_var (i := 6)) (de_var (i := 8)))))))
    (dss_one (ds_ret (de_frz (de_var (i := 6)))))))))), r_law_meet A⟩, bn⟩
theorem ok_law_told (T : Txt K mg A) : OkP P w K mg base 1 A.f_law_told ["count", "letters", "known", "letter", "number"] (sp_law_told A) := by
  obtain ⟨fd, Fn, bn⟩ := T.F_law_told
  exact ⟨fd, fun_pure Fn sc_law_told (len_law_told A) fun cdv Ao outer s H E hr => ⟨c_law_told A, (dss_cons (ds_set (i := 5) sc_law_told.nd rfl (by first | exact .inl rfl | exact .inr rfl) (de_ix (hu1 hr) (de_var (i := 1)) (de_var (i := 3))))
    (dss_cons (ds_set (i := 6) sc_law_told.nd rfl (by first | exact .inl rfl | exact .inr rfl) (de_lc (own := [("other", 8)]) true (bd_name (by decide)) rfl sc_law_told.nd (di_range1 T.n_range (da_cons (de_var (i := 0)) da_nil)) (blkOk_by (own := [("other", 8)]) (N := ["count", "letters", "known", "letter", "number", "there", "row", "place", "other"]) rfl) (fun _ _ _ _ _ => (pg_name (i := 8) sc_law_told.nd rfl (by first | exact .inl rfl | exact .inr rfl))) (fun _ _ _ _ _ => dts_nil) (fun _ _ _ _ _ => (de_callB (cr_max rfl) c_max T.n_max (by decide +kernel) (da_cons (de_lc (own := [("place", 7)]) false (bd_name (by decide)) rfl sc_law_told.nd (di_seq (de_var (i := 5))) (blkOk_by (own := [("place", 7)]) (N := ["count", "letters", "known", "letter", "number", "there", "row", "place", "other"]) rfl) (fun _ _ _ _ _ => (pg_name (i := 7) sc_law_told.nd rfl (by first | exact .inl rfl | exact .inr rfl))) (fun _ _ _ _ _ => dts_nil) (fun _ _ _ _ _ => (de_ix (hu1 hr) (de_ix (hu1 hr) (de_var (i := 2)) (de_var (i := 7))) (de_var (i := 8))))) da_nil)))))
    (dss_cons (ds_for PassesOwn.never rfl (di_seq (de_var (i := 5))) (dg_name (i := 7) sc_law_told.nd rfl (by first | exact .inl rfl | exact .inr rfl)) (dss_one (ds_asg (de_var (i := 4)) (dg_sub (hu1 hr) (de_var (i := 6)) (de_var (i := 7))))))
    (dss_one (ds_ret (de_lc (own := [("place", 7)]) false (bd_name (by decide)) rfl sc_law_told.nd (di_range1 T.n_range (da_cons (de_var (i := 0)) da_nil)) (blkOk_by (own := [("place", 7)]) (N := ["count", "letters", "known", "letter", "number", "there", "row", "place", "other"]) rfl) (fun _ _ _ _ _ => (pg_name (i := 7) sc_law_told.nd rfl (by first | exact .inl rfl | exact .inr rfl))) (fun _ _ _ _ _ => dts_nil) (fun _ _ _ _ _ => (de_if (dt_cmp (op_inA (hu65 hr)) (c_in false) (de_var (i := 7)) (de_var (i := 5)) rfl) (de_callTy call_list_of (c_list false) T.n_list (by decide +kernel) (da_cons (de_var (i := 6)) da_nil)) (de_ix (hu1 hr) (de_var (i := 2)) (de_var (i := 7))))))))))), r_law_told A⟩, bn⟩
theorem ok_law_left_behind (T : Txt K mg A) : OkP P w K mg base 1 A.f_law_left_behind ["more", "shape"] (sp_law_left_behind A) := by
  obtain ⟨fd, Fn, bn⟩ := T.F_law_left_behind
  exact ⟨fd, fun_pure Fn sc_law_left_behind (len_law_left_behind A) fun cdv Ao outer s H E hr => ⟨c_law_left_behind A, (dss_cons (ds_set (i := 2) sc_law_left_behind.nd rfl (by first | exact .inl rfl | exact .inr rfl) (de_slice false (de_lst false (da_cons (de_tup (da_cons de_int (da_cons de_int da_nil))) (da_cons (de_tup (da_cons de_int da_nil)) (da_cons (de_tup (da_cons de_int da_nil)) (da_cons (de_tup (da_cons de_int (da_cons de_int da_nil))) (da_cons (de_tup (da_cons de_int (da_cons de_int (da_cons de_int da_nil)))) (da_cons (de_tup (da_cons de_int (da_cons de_int (da_cons de_int (da_cons de_int da_nil))))) da_nil))))))) do_none (do_some (de_bin op_addA (c_add false) de_int (de_var (i := 0))))))
    (dss_cons (ds_set (i := 3) sc_law_left_behind.nd rfl (by first | exact .inl rfl | exact .inr rfl) (de_bin op_addA (c_add false) de_int (de_callTy call_int1 c_int T.n_int (by decide +kernel) (da_cons (de_cmp op_gt c_cmpI (de_var (i := 0)) de_int (nomark _)) da_nil))))
    (dss_one (ds_ret (de_tup (da_cons (de_var (i := 3)) (da_cons (de_var (i := 2)) (da_cons (de_tup (da_cons de_int da_nil)) (da_cons (de_if (dt_cmp (op_eqA (hr.units)) c_eq (de_var (i := 1)) de_int (nomark _)) (de_tup (da_cons de_int da_nil)) (de_tup (da_cons de_int da_nil))) da_nil))))))))), r_law_left_behind A⟩, bn⟩
theorem ok_law {P : Program} {w : World} {K : PySem.W.Frag} {mg : Str → Option Value} {A : Ads} (T : Txt K mg A) : OkL P w K mg 6 A.f_law := by
  obtain ⟨fd, Fn, bt⟩ := T.F_law
  refine ⟨fd, bt, fun base => lawOf ?_⟩
  obtain ⟨_, G_Alphabet__init_, b_Alphabet__init_⟩ := ok_Alphabet__init_ (P := P) (w := w) (base := base) T
  obtain ⟨_, G_News__init_, b_News__init_⟩ := ok_News__init_ (P := P) (w := w) (base := base) T
  obtain ⟨_, G_News_compare, b_News_compare⟩ := ok_News_compare (P := P) (w := w) (base := base) T
  obtain ⟨_, G_News_start, b_News_start⟩ := ok_News_start (P := P) (w := w) (base := base) T
  obtain ⟨_, G_law_alphabet, b_law_alphabet⟩ := ok_law_alphabet (P := P) (w := w) (base := base) T
  obtain ⟨_, G_law_draws, b_law_draws⟩ := ok_law_draws (P := P) (w := w) (base := base) T
  obtain ⟨_, G_law_left_behind, b_law_left_behind⟩ := ok_law_left_behind (P := P) (w := w) (base := base) T
  obtain ⟨_, G_law_meet, b_law_meet⟩ := ok_law_meet (P := P) (w := w) (base := base) T
  obtain ⟨_, G_law_small_state, b_law_small_state⟩ := ok_law_small_state (P := P) (w := w) (base := base) T
  obtain ⟨_, G_law_take, b_law_take⟩ := ok_law_take (P := P) (w := w) (base := base) T
  obtain ⟨_, G_law_told, b_law_told⟩ := ok_law_told (P := P) (w := w) (base := base) T
  obtain ⟨_, G_law_word, b_law_word⟩ := ok_law_word (P := P) (w := w) (base := base) T
  exact fun_pure Fn sc_law len_spS fun cdv Ao outer s H E hr => ⟨c_law A, (dss_cons (ds_set (i := 1) sc_law.nd rfl (by first | exact .inl rfl | exact .inr rfl) (de_callG G_law_draws (hr.mono (by decide)) T.mg_law_draws T.kp_law_draws b_law_draws (da_cons (de_var (i := 0)) (da_cons de_int da_nil))))
    (dss_cons (ds_asg (de_call1 G_law_alphabet (hr.mono (by decide)) T.mg_law_alphabet T.kp_law_alphabet b_law_alphabet (da_cons (de_var (i := 1)) (da_cons de_int (da_cons de_int da_nil)))) (dg_tup (n := 2) rfl (dgs_cons (dg_name (i := 2) sc_law.nd rfl (by first | exact .inl rfl | exact .inr rfl)) (dgs_cons (dg_name (i := 3) sc_law.nd rfl (by first | exact .inl rfl | exact .inr rfl)) dgs_nil))))
    (dss_cons (ds_set (i := 4) sc_law.nd rfl (by first | exact .inl rfl | exact .inr rfl) (de_make T.mk_News G_News__init_ (hr.mono (by decide)) T.mg_News b_News__init_ (da_cons (de_make T.mk_Alphabet G_Alphabet__init_ (hr.mono (by decide)) T.mg_Alphabet b_Alphabet__init_ (da_cons (de_var (i := 2)) (da_cons (de_callTy call_list_of (c_list false) T.n_list (by decide +kernel) (da_cons (de_var (i := 3)) da_nil)) da_nil))) da_nil)))
    (dss_cons (ds_set (i := 5) sc_law.nd rfl (by first | exact .inl rfl | exact .inr rfl) (de_callTy call_list_of (c_list false) T.n_list (by decide +kernel) (da_cons (de_meth0 (NS := nsNews) (de_var (i := 4)) T.cl_News T.me_News_start G_News_start (hr.mono (by decide)) b_News_start (by decide +kernel)) da_nil)))
    (dss_cons (ds_set (i := 6) sc_law.nd rfl (by first | exact .inl rfl | exact .inr rfl) (de_bin op_addA (c_add false) (de_call1 G_law_word (hr.mono (by decide)) T.mg_law_word T.kp_law_word b_law_word (da_cons (de_var (i := 1)) (da_cons (de_callB call_lenA c_len T.n_len (by decide +kernel) (da_cons (de_var (i := 3)) da_nil)) (da_cons de_int da_nil)))) (de_tup (da_cons (de_call1 G_law_take (hr.mono (by decide)) T.mg_law_take T.kp_law_take b_law_take (da_cons (de_var (i := 1)) (da_cons (de_callB call_lenA c_len T.n_len (by decide +kernel) (da_cons (de_var (i := 3)) da_nil)) da_nil))) da_nil))))
    (dss_cons (ds_set (i := 7) sc_law.nd rfl (by first | exact .inl rfl | exact .inr rfl) (de_ix (hu1 hr) (de_lst false (da_cons de_int (da_cons de_int da_nil))) (de_call1 G_law_take (hr.mono (by decide)) T.mg_law_take T.kp_law_take b_law_take (da_cons (de_var (i := 1)) (da_cons de_int da_nil)))))
    (dss_cons (ds_if (PW.pt (dw_and (dt_cmp op_lt c_cmpI (de_var (i := 2)) de_int (nomark _)) (dw_and1 (dt_cmp (op_eqA (hr.units)) c_eq (de_call1 G_law_take (hr.mono (by decide)) T.mg_law_take T.kp_law_take b_law_take (da_cons (de_var (i := 1)) (da_cons de_int da_nil))) de_int (nomark _))))) (dss_one (ds_set (i := 7) sc_law.nd rfl (by first | exact .inl rfl | exact .inr rfl) de_int)) dss_nil)
    (dss_cons (ds_set (i := 8) sc_law.nd rfl (by first | exact .inl rfl | exact .inr rfl) (de_call1 G_law_word (hr.mono (by decide)) T.mg_law_word T.kp_law_word b_law_word (da_cons (de_var (i := 1)) (da_cons (de_callB call_lenA c_len T.n_len (by decide +kernel) (da_cons (de_var (i := 3)) da_nil)) (da_cons de_int da_nil)))))
    (dss_cons (ds_if (dt_cmp (op_eqA (hr.units)) c_eq (de_call1 G_law_take (hr.mono (by decide)) T.mg_law_take T.kp_law_take b_law_take (da_cons (de_var (i := 1)) (da_cons de_int da_nil))) de_int (nomark _)) (dss_cons (ds_asg (de_call G_law_left_behind (hr.mono (by decide)) T.mg_law_left_behind T.kp_law_left_behind b_law_left_behind (da_cons (de_call1 G_law_take (hr.mono (by decide)) T.mg_law_take T.kp_law_take b_law_take (da_cons (de_var (i := 1)) (da_cons de_int da_nil))) (da_cons (de_call1 G_law_take (hr.mono (by decide)) T.mg_law_take T.kp_law_take b_law_take (da_cons (de_var (i := 1)) (da_cons de_int da_nil))) da_nil))) (dg_tup (n := 4) rfl (dgs_cons (dg_name (i := 2) sc_law.nd rfl (by first | exact .inl rfl | exact .inr rfl)) (dgs_cons (dg_name (i := 3) sc_law.nd rfl (by first | exact .inl rfl | exact .inr rfl)) (dgs_cons (dg_name (i := 8) sc_law.nd rfl (by first | exact .inl rfl | exact .inr rfl)) (dgs_cons (dg_name (i := 6) sc_law.nd rfl (by first | exact .inl rfl | exact .inr rfl)) dgs_nil))))))
    (dss_cons (ds_set (i := 4) sc_law.nd rfl (by first | exact .inl rfl | exact .inr rfl) (de_make T.mk_News G_News__init_ (hr.mono (by decide)) T.mg_News b_News__init_ (da_cons (de_make T.mk_Alphabet G_Alphabet__init_ (hr.mono (by decide)) T.mg_Alphabet b_Alphabet__init_ (da_cons (de_var (i := 2)) (da_cons (de_callTy call_list_of (c_list false) T.n_list (by decide +kernel) (da_cons (de_var (i := 3)) da_nil)) da_nil))) da_nil)))
    (dss_cons (ds_set (i := 5) sc_law.nd rfl (by first | exact .inl rfl | exact .inr rfl) (de_callTy call_list_of (c_list false) T.n_list (by decide +kernel) (da_cons (de_meth0 (NS := nsNews) (de_var (i := 4)) T.cl_News T.me_News_start G_News_start (hr.mono (by decide)) b_News_start (by decide +kernel)) da_nil)))
    (dss_one (ds_set (i := 7) sc_law.nd rfl (by first | exact .inl rfl | exact .inr rfl) (de_ix (hu1 hr) (de_lst false (da_cons de_int (da_cons de_int (da_cons de_int da_nil)))) (de_call1 G_law_take (hr.mono (by decide)) T.mg_law_take T.kp_law_take b_law_take (da_cons (de_var (i := 1)) (da_cons de_int da_nil))))))))) dss_nil)
    (dss_cons (ds_set (i := 9) sc_law.nd rfl (by first | exact .inl rfl | exact .inr rfl) (de_bin op_addA (c_add false) (de_bin op_addA (c_add false) (de_var (i := 8)) (de_slice false (de_bin op_mulA (c_mul false) (de_var (i := 6)) (de_var (i := 7))) do_none (do_some (de_var (i := 7))))) (de_call1 G_law_word (hr.mono (by decide)) T.mg_law_word T.kp_law_word b_law_word (da_cons (de_var (i := 1)) (da_cons (de_callB call_lenA c_len T.n_len (by decide +kernel) (da_cons (de_var (i := 3)) da_nil)) (da_cons de_int da_nil))))))
    (dss_cons (ds_setLc (i := 10) (own := [("place", 14)]) false (bd_name (by decide)) rfl sc_law.nd rfl rfl (sw_true rfl rfl rfl (by decide +kernel)) (di_range1 T.n_range (da_cons (de_var (i := 2)) da_nil)) (blkOk_by (own := [("place", 14)]) (N := ["script", "draws", "count", "letters", "news", "states", "turn", "many", "head", "word", "known", "number", "one", "two", "place", "due"]) rfl) (fun _ _ _ _ _ => (pg_name (i := 14) sc_law.nd rfl (by first | exact .inl rfl | exact .inr rfl))) (fun _ _ _ _ _ => dts_nil) (fun _ _ _ _ _ => (de_bin op_mulA (c_mul false) (de_lst false (da_cons de_int da_nil)) (de_var (i := 2)))))
    (dss_cons (ds_for PassesOwn.never rfl (di_range1 T.n_range (da_cons (de_callB call_lenA c_len T.n_len (by decide +kernel) (da_cons (de_var (i := 9)) da_nil)) da_nil)) (dg_name (i := 11) sc_law.nd rfl (by first | exact .inl rfl | exact .inr rfl)) (dss_cons (ds_set (i := 5) sc_law.nd rfl (by first | exact .inl rfl | exact .inr rfl) (de_call G_law_meet (hr.mono (by decide)) T.mg_law_meet T.kp_law_meet b_law_meet (da_cons (de_var (i := 4)) (da_cons (de_var (i := 3)) (da_cons (de_var (i := 5)) (da_cons (de_ix (hu1 hr) (de_var (i := 9)) (de_var (i := 11))) da_nil))))))
    (dss_cons (ds_if (dt_cmp op_isA c_is (de_var (i := 5)) de_non (nomark _)) (dss_one (ds_ret de_bl)) dss_nil)
    (dss_one (ds_set (i := 10) sc_law.nd rfl (by first | exact .inl rfl | exact .inr rfl) (de_call G_law_told (hr.mono (by decide)) T.mg_law_told T.kp_law_told b_law_told (da_cons (de_var (i := 2)) (da_cons (de_var (i := 3)) (da_cons (de_var (i := 10)) (da_cons (de_ix (hu1 hr) (de_var (i := 9)) (de_var (i := 11))) (da_cons (de_bin op_addA (c_add false) (de_var (i := 11)) de_int) da_nil)))))))))))
    (dss_cons (ds_for PassesOwn.never rfl (di_range1 T.n_range (da_cons (de_var (i := 2)) da_nil)) (dg_name (i := 12) sc_law.nd rfl (by first | exact .inl rfl | exact .inr rfl)) (dss_cons (ds_if (dt_not (dt_val (de_call G_law_small_state (hr.mono (by decide)) T.mg_law_small_state T.kp_law_small_state b_law_small_state (da_cons (de_ix (hu1 hr) (de_var (i := 5)) (de_var (i := 12))) (da_cons de_int da_nil))))) (dss_one (ds_ret de_bl)) dss_nil)
    (dss_one (ds_for PassesOwn.never rfl (di_range1 T.n_range (da_cons (de_var (i := 2)) da_nil)) (dg_name (i := 13) sc_law.nd rfl (by first | exact .inl rfl | exact .inr rfl)) (dss_one (ds_for PassesOwn.never rfl (di_range1 T.n_range (da_cons (de_var (i := 2)) da_nil)) (dg_name (i := 14) sc_law.nd rfl (by first | exact .inl rfl | exact .inr rfl)) (dss_cons (ds_set (i := 15) sc_law.nd rfl (by first | exact .inl rfl | exact .inr rfl) (de_bin op_sub c_int0 (de_callTy call_int1 c_int T.n_int (by decide +kernel) (da_cons (de_cmp op_gt c_cmpI (de_ix (hu1 hr) (de_ix (hu1 hr) (de_var (i := 10)) (de_var (i := 12))) (de_var (i := 14))) (de_ix (hu1 hr) (de_ix (hu1 hr) (de_var (i := 10)) (de_var (i := 13))) (de_var (i := 14))) (nomark _)) da_nil)) (de_callTy call_int1 c_int T.n_int (by decide +kernel) (da_cons (de_cmp op_lt c_cmpI (de_ix (hu1 hr) (de_ix (hu1 hr) (de_var (i := 10)) (de_var (i := 12))) (de_var (i := 14))) (de_ix (hu1 hr) (de_ix (hu1 hr) (de_var (i := 10)) (de_var (i := 13))) (de_var (i := 14))) (nomark _)) da_nil))))
    (dss_one (ds_if (dt_cmp (op_neA (hr.units)) c_ne (de_meth (NS := nsNews) (de_var (i := 4)) T.cl_News T.me_News_compare G_News_compare (hr.mono (by decide)) b_News_compare (by decide +kernel) (da_cons (de_ix (hu1 hr) (de_var (i := 5)) (de_var (i := 12))) (da_cons (de_ix (hu1 hr) (de_var (i := 5)) (de_var (i := 13))) (da_cons (de_var (i := 14)) da_nil)))) (de_var (i := 15)) (nomark _)) (dss_one (ds_ret de_bl)) dss_nil)))))))))
    (dss_one (ds_ret de_bl))))))))))))))), r_law A⟩
end
theorem txt_mk {K : PySem.W.Frag} {h : Heap} {mg : Str → Option Value} (X : K.In h) (G : h.Ns mainGlobals mg)
    {A_Known : Addr} {A_News : Addr} {A_Alphabet : Addr} {A_t_MOST_LETTERS : Tok} {A_t_MOST_PLACES : Tok} {A_f_Known__init_ : Addr} {A_f_Known_flat : Addr} {A_f_size_of : Addr} {A_f_rows_of : Addr} {A_f_known_of : Addr} {A_f_first_known : Addr} {A_f_is_older : Addr} {A_f_holder : Addr} {A_f_fresh_label : Addr} {A_f_met : Addr} {A_f_News__init_ : Addr} {A_f_News_start : Addr} {A_f_News_meet : Addr} {A_f_News_compare : Addr} {A_f_fits : Addr} {A_f_Alphabet__init_ : Addr} {A_f_law_draws : Addr} {A_f_law_take : Addr} {A_f_law_is_integer : Addr} {A_f_law_alphabet : Addr} {A_f_law_word : Addr} {A_f_law_small_state : Addr} {A_f_law_meet : Addr} {A_f_law_told : Addr} {A_f_law_left_behind : Addr} {A_f_law : Addr}
    {oc_Known__init_ kV_Known__init_ dc_Known__init_ pm_Known__init_ cd_Known__init_ ct_Known__init_ : Value} {od_Known__init_ an_Known__init_ : Option Addr} {sl_Known__init_ : Array (Option Value)}
    {oc_Known_flat kV_Known_flat dc_Known_flat pm_Known_flat cd_Known_flat ct_Known_flat : Value} {od_Known_flat an_Known_flat : Option Addr} {sl_Known_flat : Array (Option Value)}
    {oc_size_of kV_size_of dc_size_of pm_size_of cd_size_of ct_size_of : Value} {od_size_of an_size_of : Option Addr} {sl_size_of : Array (Option Value)}
    {oc_rows_of kV_rows_of dc_rows_of pm_rows_of cd_rows_of ct_rows_of : Value} {od_rows_of an_rows_of : Option Addr} {sl_rows_of : Array (Option Value)}
    {oc_known_of kV_known_of dc_known_of pm_known_of cd_known_of ct_known_of : Value} {od_known_of an_known_of : Option Addr} {sl_known_of : Array (Option Value)}
    {oc_first_known kV_first_known dc_first_known pm_first_known cd_first_known ct_first_known : Value} {od_first_known an_first_known : Option Addr} {sl_first_known : Array (Option Value)}
    {oc_is_older kV_is_older dc_is_older pm_is_older cd_is_older ct_is_older : Value} {od_is_older an_is_older : Option Addr} {sl_is_older : Array (Option Value)}
    {oc_holder kV_holder dc_holder pm_holder cd_holder ct_holder : Value} {od_holder an_holder : Option Addr} {sl_holder : Array (Option Value)}
    {oc_fresh_label kV_fresh_label dc_fresh_label pm_fresh_label cd_fresh_label ct_fresh_label : Value} {od_fresh_label an_fresh_label : Option Addr} {sl_fresh_label : Array (Option Value)}
    {oc_met kV_met dc_met pm_met cd_met ct_met : Value} {od_met an_met : Option Addr} {sl_met : Array (Option Value)}
    {oc_News__init_ kV_News__init_ dc_News__init_ pm_News__init_ cd_News__init_ ct_News__init_ : Value} {od_News__init_ an_News__init_ : Option Addr} {sl_News__init_ : Array (Option Value)}
    {oc_News_start kV_News_start dc_News_start pm_News_start cd_News_start ct_News_start : Value} {od_News_start an_News_start : Option Addr} {sl_News_start : Array (Option Value)}
    {oc_News_meet kV_News_meet dc_News_meet pm_News_meet cd_News_meet ct_News_meet : Value} {od_News_meet an_News_meet : Option Addr} {sl_News_meet : Array (Option Value)}
    {oc_News_compare kV_News_compare dc_News_compare pm_News_compare cd_News_compare ct_News_compare : Value} {od_News_compare an_News_compare : Option Addr} {sl_News_compare : Array (Option Value)}
    {oc_fits kV_fits dc_fits pm_fits cd_fits ct_fits : Value} {od_fits an_fits : Option Addr} {sl_fits : Array (Option Value)}
    {oc_Alphabet__init_ kV_Alphabet__init_ dc_Alphabet__init_ pm_Alphabet__init_ cd_Alphabet__init_ ct_Alphabet__init_ : Value} {od_Alphabet__init_ an_Alphabet__init_ : Option Addr} {sl_Alphabet__init_ : Array (Option Value)}
    {oc_law_draws kV_law_draws dc_law_draws pm_law_draws cd_law_draws ct_law_draws : Value} {od_law_draws an_law_draws : Option Addr} {sl_law_draws : Array (Option Value)}
    {oc_law_take kV_law_take dc_law_take pm_law_take cd_law_take ct_law_take : Value} {od_law_take an_law_take : Option Addr} {sl_law_take : Array (Option Value)}
    {oc_law_is_integer kV_law_is_integer dc_law_is_integer pm_law_is_integer cd_law_is_integer ct_law_is_integer : Value} {od_law_is_integer an_law_is_integer : Option Addr} {sl_law_is_integer : Array (Option Value)}
    {oc_law_alphabet kV_law_alphabet dc_law_alphabet pm_law_alphabet cd_law_alphabet ct_law_alphabet : Value} {od_law_alphabet an_law_alphabet : Option Addr} {sl_law_alphabet : Array (Option Value)}
    {oc_law_word kV_law_word dc_law_word pm_law_word cd_law_word ct_law_word : Value} {od_law_word an_law_word : Option Addr} {sl_law_word : Array (Option Value)}
    {oc_law_small_state kV_law_small_state dc_law_small_state pm_law_small_state cd_law_small_state ct_law_small_state : Value} {od_law_small_state an_law_small_state : Option Addr} {sl_law_small_state : Array (Option Value)}
    {oc_law_meet kV_law_meet dc_law_meet pm_law_meet cd_law_meet ct_law_meet : Value} {od_law_meet an_law_meet : Option Addr} {sl_law_meet : Array (Option Value)}
    {oc_law_told kV_law_told dc_law_told pm_law_told cd_law_told ct_law_told : Value} {od_law_told an_law_told : Option Addr} {sl_law_told : Array (Option Value)}
    {oc_law_left_behind kV_law_left_behind dc_law_left_behind pm_law_left_behind cd_law_left_behind ct_law_left_behind : Value} {od_law_left_behind an_law_left_behind : Option Addr} {sl_law_left_behind : Array (Option Value)}
    {oc_law kV_law dc_law pm_law cd_law ct_law : Value} {od_law an_law : Option Addr} {sl_law : Array (Option Value)}
    (aC_Known : PySem.W.nsIn K mainGlobals "Known" = some (some (.ref A_Known)))
    (pg_Known : PySem.W.plainGet K A_Known Str.empty = true)
    (hd_Known : PySem.W.hasDictIn K A_Known = true)
    (po_Known : PySem.W.plainOver K A_Known = true)
    (sa_Known : PySem.W.findIn K (.ref A_Known) "__setattr__" = some (some (.builtin "object.__setattr__")))
    (mk_Known : PySem.W.makesIn K A_Known = true)
    (kc_Known : PySem.W.keepIn K (.ref A_Known) = true)
    (na_Known_first : PySem.W.findIn K (.ref A_Known) "first" = some none)
    (na_Known_second : PySem.W.findIn K (.ref A_Known) "second" = some none)
    (na_Known_third : PySem.W.findIn K (.ref A_Known) "third" = some none)
    (aC_News : PySem.W.nsIn K mainGlobals "News" = some (some (.ref A_News)))
    (pg_News : PySem.W.plainGet K A_News Str.empty = true)
    (hd_News : PySem.W.hasDictIn K A_News = true)
    (po_News : PySem.W.plainOver K A_News = true)
    (sa_News : PySem.W.findIn K (.ref A_News) "__setattr__" = some (some (.builtin "object.__setattr__")))
    (mk_News : PySem.W.makesIn K A_News = true)
    (kc_News : PySem.W.keepIn K (.ref A_News) = true)
    (na_News_alphabet : PySem.W.findIn K (.ref A_News) "alphabet" = some none)
    (aC_Alphabet : PySem.W.nsIn K mainGlobals "Alphabet" = some (some (.ref A_Alphabet)))
    (pg_Alphabet : PySem.W.plainGet K A_Alphabet Str.empty = true)
    (hd_Alphabet : PySem.W.hasDictIn K A_Alphabet = true)
    (po_Alphabet : PySem.W.plainOver K A_Alphabet = true)
    (sa_Alphabet : PySem.W.findIn K (.ref A_Alphabet) "__setattr__" = some (some (.builtin "object.__setattr__")))
    (mk_Alphabet : PySem.W.makesIn K A_Alphabet = true)
    (kc_Alphabet : PySem.W.keepIn K (.ref A_Alphabet) = true)
    (na_Alphabet_places : PySem.W.findIn K (.ref A_Alphabet) "places" = some none)
    (na_Alphabet_letters : PySem.W.findIn K (.ref A_Alphabet) "letters" = some none)
    (a_Known__init_ : PySem.W.findIn K (.ref A_Known) "__init__" = some (some (.ref A_f_Known__init_)))
    (i_Known__init_ : PySem.W.isFn K (.ref A_f_Known__init_) = true)
    (l_Known__init_ : K.lookup A_f_Known__init_ = some ⟨oc_Known__init_, od_Known__init_, .func (PySem.W.fnOf "__init__" "Known.__init__" (defArgs s_Known__init_) (defBody s_Known__init_) (defScope s_Known__init_) .none kV_Known__init_ dc_Known__init_ pm_Known__init_ an_Known__init_ cd_Known__init_ ct_Known__init_), sl_Known__init_⟩)
    (c_Known__init__ : PySem.W.codeIn K cd_Known__init_ "Known.__init__" = true)
    (k_Known__init_ : PySem.W.keepIn K (.ref A_f_Known__init_) = true)
    (a_Known_flat : PySem.W.findIn K (.ref A_Known) "flat" = some (some (.ref A_f_Known_flat)))
    (i_Known_flat : PySem.W.isFn K (.ref A_f_Known_flat) = true)
    (l_Known_flat : K.lookup A_f_Known_flat = some ⟨oc_Known_flat, od_Known_flat, .func (PySem.W.fnOf "flat" "Known.flat" (defArgs s_Known_flat) (defBody s_Known_flat) (defScope s_Known_flat) .none kV_Known_flat dc_Known_flat pm_Known_flat an_Known_flat cd_Known_flat ct_Known_flat), sl_Known_flat⟩)
    (c_Known_flat_ : PySem.W.codeIn K cd_Known_flat "Known.flat" = true)
    (k_Known_flat : PySem.W.keepIn K (.ref A_f_Known_flat) = true)
    (a_size_of : PySem.W.nsIn K mainGlobals "size_of" = some (some (.ref A_f_size_of)))
    (l_size_of : K.lookup A_f_size_of = some ⟨oc_size_of, od_size_of, .func (PySem.W.fnOf "size_of" "size_of" (defArgs s_size_of) (defBody s_size_of) (defScope s_size_of) .none kV_size_of dc_size_of pm_size_of an_size_of cd_size_of ct_size_of), sl_size_of⟩)
    (c_size_of_ : PySem.W.codeIn K cd_size_of "size_of" = true)
    (k_size_of : PySem.W.keepIn K (.ref A_f_size_of) = true)
    (a_rows_of : PySem.W.nsIn K mainGlobals "rows_of" = some (some (.ref A_f_rows_of)))
    (l_rows_of : K.lookup A_f_rows_of = some ⟨oc_rows_of, od_rows_of, .func (PySem.W.fnOf "rows_of" "rows_of" (defArgs s_rows_of) (defBody s_rows_of) (defScope s_rows_of) .none kV_rows_of dc_rows_of pm_rows_of an_rows_of cd_rows_of ct_rows_of), sl_rows_of⟩)
    (c_rows_of_ : PySem.W.codeIn K cd_rows_of "rows_of" = true)
    (k_rows_of : PySem.W.keepIn K (.ref A_f_rows_of) = true)
    (a_known_of : PySem.W.nsIn K mainGlobals "known_of" = some (some (.ref A_f_known_of)))
    (l_known_of : K.lookup A_f_known_of = some ⟨oc_known_of, od_known_of, .func (PySem.W.fnOf "known_of" "known_of" (defArgs s_known_of) (defBody s_known_of) (defScope s_known_of) .none kV_known_of dc_known_of pm_known_of an_known_of cd_known_of ct_known_of), sl_known_of⟩)
    (c_known_of_ : PySem.W.codeIn K cd_known_of "known_of" = true)
    (k_known_of : PySem.W.keepIn K (.ref A_f_known_of) = true)
    (a_first_known : PySem.W.nsIn K mainGlobals "first_known" = some (some (.ref A_f_first_known)))
    (l_first_known : K.lookup A_f_first_known = some ⟨oc_first_known, od_first_known, .func (PySem.W.fnOf "first_known" "first_known" (defArgs s_first_known) (defBody s_first_known) (defScope s_first_known) .none kV_first_known dc_first_known pm_first_known an_first_known cd_first_known ct_first_known), sl_first_known⟩)
    (c_first_known_ : PySem.W.codeIn K cd_first_known "first_known" = true)
    (k_first_known : PySem.W.keepIn K (.ref A_f_first_known) = true)
    (a_is_older : PySem.W.nsIn K mainGlobals "is_older" = some (some (.ref A_f_is_older)))
    (l_is_older : K.lookup A_f_is_older = some ⟨oc_is_older, od_is_older, .func (PySem.W.fnOf "is_older" "is_older" (defArgs s_is_older) (defBody s_is_older) (defScope s_is_older) .none kV_is_older dc_is_older pm_is_older an_is_older cd_is_older ct_is_older), sl_is_older⟩)
    (c_is_older_ : PySem.W.codeIn K cd_is_older "is_older" = true)
    (k_is_older : PySem.W.keepIn K (.ref A_f_is_older) = true)
    (a_holder : PySem.W.nsIn K mainGlobals "holder" = some (some (.ref A_f_holder)))
    (l_holder : K.lookup A_f_holder = some ⟨oc_holder, od_holder, .func (PySem.W.fnOf "holder" "holder" (defArgs s_holder) (defBody s_holder) (defScope s_holder) .none kV_holder dc_holder pm_holder an_holder cd_holder ct_holder), sl_holder⟩)
    (c_holder_ : PySem.W.codeIn K cd_holder "holder" = true)
    (k_holder : PySem.W.keepIn K (.ref A_f_holder) = true)
    (a_fresh_label : PySem.W.nsIn K mainGlobals "fresh_label" = some (some (.ref A_f_fresh_label)))
    (l_fresh_label : K.lookup A_f_fresh_label = some ⟨oc_fresh_label, od_fresh_label, .func (PySem.W.fnOf "fresh_label" "fresh_label" (defArgs s_fresh_label) (defBody s_fresh_label) (defScope s_fresh_label) .none kV_fresh_label dc_fresh_label pm_fresh_label an_fresh_label cd_fresh_label ct_fresh_label), sl_fresh_label⟩)
    (c_fresh_label_ : PySem.W.codeIn K cd_fresh_label "fresh_label" = true)
    (k_fresh_label : PySem.W.keepIn K (.ref A_f_fresh_label) = true)
    (a_met : PySem.W.nsIn K mainGlobals "met" = some (some (.ref A_f_met)))
    (l_met : K.lookup A_f_met = some ⟨oc_met, od_met, .func (PySem.W.fnOf "met" "met" (defArgs s_met) (defBody s_met) (defScope s_met) .none kV_met dc_met pm_met an_met cd_met ct_met), sl_met⟩)
    (c_met_ : PySem.W.codeIn K cd_met "met" = true)
    (k_met : PySem.W.keepIn K (.ref A_f_met) = true)
    (a_News__init_ : PySem.W.findIn K (.ref A_News) "__init__" = some (some (.ref A_f_News__init_)))
    (i_News__init_ : PySem.W.isFn K (.ref A_f_News__init_) = true)
    (l_News__init_ : K.lookup A_f_News__init_ = some ⟨oc_News__init_, od_News__init_, .func (PySem.W.fnOf "__init__" "News.__init__" (defArgs s_News__init_) (defBody s_News__init_) (defScope s_News__init_) .none kV_News__init_ dc_News__init_ pm_News__init_ an_News__init_ cd_News__init_ ct_News__init_), sl_News__init_⟩)
    (c_News__init__ : PySem.W.codeIn K cd_News__init_ "News.__init__" = true)
    (k_News__init_ : PySem.W.keepIn K (.ref A_f_News__init_) = true)
    (a_News_start : PySem.W.findIn K (.ref A_News) "start" = some (some (.ref A_f_News_start)))
    (i_News_start : PySem.W.isFn K (.ref A_f_News_start) = true)
    (l_News_start : K.lookup A_f_News_start = some ⟨oc_News_start, od_News_start, .func (PySem.W.fnOf "start" "News.start" (defArgs s_News_start) (defBody s_News_start) (defScope s_News_start) .none kV_News_start dc_News_start pm_News_start an_News_start cd_News_start ct_News_start), sl_News_start⟩)
    (c_News_start_ : PySem.W.codeIn K cd_News_start "News.start" = true)
    (k_News_start : PySem.W.keepIn K (.ref A_f_News_start) = true)
    (a_News_meet : PySem.W.findIn K (.ref A_News) "meet" = some (some (.ref A_f_News_meet)))
    (i_News_meet : PySem.W.isFn K (.ref A_f_News_meet) = true)
    (l_News_meet : K.lookup A_f_News_meet = some ⟨oc_News_meet, od_News_meet, .func (PySem.W.fnOf "meet" "News.meet" (defArgs s_News_meet) (defBody s_News_meet) (defScope s_News_meet) .none kV_News_meet dc_News_meet pm_News_meet an_News_meet cd_News_meet ct_News_meet), sl_News_meet⟩)
    (c_News_meet_ : PySem.W.codeIn K cd_News_meet "News.meet" = true)
    (k_News_meet : PySem.W.keepIn K (.ref A_f_News_meet) = true)
    (a_News_compare : PySem.W.findIn K (.ref A_News) "compare" = some (some (.ref A_f_News_compare)))
    (i_News_compare : PySem.W.isFn K (.ref A_f_News_compare) = true)
    (l_News_compare : K.lookup A_f_News_compare = some ⟨oc_News_compare, od_News_compare, .func (PySem.W.fnOf "compare" "News.compare" (defArgs s_News_compare) (defBody s_News_compare) (defScope s_News_compare) .none kV_News_compare dc_News_compare pm_News_compare an_News_compare cd_News_compare ct_News_compare), sl_News_compare⟩)
    (c_News_compare_ : PySem.W.codeIn K cd_News_compare "News.compare" = true)
    (k_News_compare : PySem.W.keepIn K (.ref A_f_News_compare) = true)
    (a_fits : PySem.W.nsIn K mainGlobals "fits" = some (some (.ref A_f_fits)))
    (l_fits : K.lookup A_f_fits = some ⟨oc_fits, od_fits, .func (PySem.W.fnOf "fits" "fits" (defArgs s_fits) (defBody s_fits) (defScope s_fits) .none kV_fits dc_fits pm_fits an_fits cd_fits ct_fits), sl_fits⟩)
    (c_fits_ : PySem.W.codeIn K cd_fits "fits" = true)
    (k_fits : PySem.W.keepIn K (.ref A_f_fits) = true)
    (a_Alphabet__init_ : PySem.W.findIn K (.ref A_Alphabet) "__init__" = some (some (.ref A_f_Alphabet__init_)))
    (i_Alphabet__init_ : PySem.W.isFn K (.ref A_f_Alphabet__init_) = true)
    (l_Alphabet__init_ : K.lookup A_f_Alphabet__init_ = some ⟨oc_Alphabet__init_, od_Alphabet__init_, .func (PySem.W.fnOf "__init__" "Alphabet.__init__" (defArgs s_Alphabet__init_) (defBody s_Alphabet__init_) (defScope s_Alphabet__init_) .none kV_Alphabet__init_ dc_Alphabet__init_ pm_Alphabet__init_ an_Alphabet__init_ cd_Alphabet__init_ ct_Alphabet__init_), sl_Alphabet__init_⟩)
    (c_Alphabet__init__ : PySem.W.codeIn K cd_Alphabet__init_ "Alphabet.__init__" = true)
    (k_Alphabet__init_ : PySem.W.keepIn K (.ref A_f_Alphabet__init_) = true)
    (a_law_draws : PySem.W.nsIn K mainGlobals "_law_draws" = some (some (.ref A_f_law_draws)))
    (l_law_draws : K.lookup A_f_law_draws = some ⟨oc_law_draws, od_law_draws, .func (PySem.W.fnOf "_law_draws" "_law_draws" (defArgs s_law_draws) (defBody s_law_draws) (defScope s_law_draws) .none kV_law_draws dc_law_draws pm_law_draws an_law_draws cd_law_draws ct_law_draws), sl_law_draws⟩)
    (c_law_draws_ : PySem.W.codeIn K cd_law_draws "_law_draws" = true)
    (k_law_draws : PySem.W.keepIn K (.ref A_f_law_draws) = true)
    (a_law_take : PySem.W.nsIn K mainGlobals "_law_take" = some (some (.ref A_f_law_take)))
    (l_law_take : K.lookup A_f_law_take = some ⟨oc_law_take, od_law_take, .func (PySem.W.fnOf "_law_take" "_law_take" (defArgs s_law_take) (defBody s_law_take) (defScope s_law_take) .none kV_law_take dc_law_take pm_law_take an_law_take cd_law_take ct_law_take), sl_law_take⟩)
    (c_law_take_ : PySem.W.codeIn K cd_law_take "_law_take" = true)
    (k_law_take : PySem.W.keepIn K (.ref A_f_law_take) = true)
    (a_law_is_integer : PySem.W.nsIn K mainGlobals "_law_is_integer" = some (some (.ref A_f_law_is_integer)))
    (l_law_is_integer : K.lookup A_f_law_is_integer = some ⟨oc_law_is_integer, od_law_is_integer, .func (PySem.W.fnOf "_law_is_integer" "_law_is_integer" (defArgs s_law_is_integer) (defBody s_law_is_integer) (defScope s_law_is_integer) .none kV_law_is_integer dc_law_is_integer pm_law_is_integer an_law_is_integer cd_law_is_integer ct_law_is_integer), sl_law_is_integer⟩)
    (c_law_is_integer_ : PySem.W.codeIn K cd_law_is_integer "_law_is_integer" = true)
    (k_law_is_integer : PySem.W.keepIn K (.ref A_f_law_is_integer) = true)
    (a_law_alphabet : PySem.W.nsIn K mainGlobals "_law_alphabet" = some (some (.ref A_f_law_alphabet)))
    (l_law_alphabet : K.lookup A_f_law_alphabet = some ⟨oc_law_alphabet, od_law_alphabet, .func (PySem.W.fnOf "_law_alphabet" "_law_alphabet" (defArgs s_law_alphabet) (defBody s_law_alphabet) (defScope s_law_alphabet) .none kV_law_alphabet dc_law_alphabet pm_law_alphabet an_law_alphabet cd_law_alphabet ct_law_alphabet), sl_law_alphabet⟩)
    (c_law_alphabet_ : PySem.W.codeIn K cd_law_alphabet "_law_alphabet" = true)
    (k_law_alphabet : PySem.W.keepIn K (.ref A_f_law_alphabet) = true)
    (a_law_word : PySem.W.nsIn K mainGlobals "_law_word" = some (some (.ref A_f_law_word)))
    (l_law_word : K.lookup A_f_law_word = some ⟨oc_law_word, od_law_word, .func (PySem.W.fnOf "_law_word" "_law_word" (defArgs s_law_word) (defBody s_law_word) (defScope s_law_word) .none kV_law_word dc_law_word pm_law_word an_law_word cd_law_word ct_law_word), sl_law_word⟩)
    (c_law_word_ : PySem.W.codeIn K cd_law_word "_law_word" = true)
    (k_law_word : PySem.W.keepIn K (.ref A_f_law_word) = true)
    (a_law_small_state : PySem.W.nsIn K mainGlobals "_law_small_state" = some (some (.ref A_f_law_small_state)))
    (l_law_small_state : K.lookup A_f_law_small_state = some ⟨oc_law_small_state, od_law_small_state, .func (PySem.W.fnOf "_law_small_state" "_law_small_state" (defArgs s_law_small_state) (defBody s_law_small_state) (defScope s_law_small_state) .none kV_law_small_state dc_law_small_state pm_law_small_state an_law_small_state cd_law_small_state ct_law_small_state), sl_law_small_state⟩)
    (c_law_small_state_ : PySem.W.codeIn K cd_law_small_state "_law_small_state" = true)
    (k_law_small_state : PySem.W.keepIn K (.ref A_f_law_small_state) = true)
    (a_law_meet : PySem.W.nsIn K mainGlobals "_law_meet" = some (some (.ref A_f_law_meet)))
    (l_law_meet : K.lookup A_f_law_meet = some ⟨oc_law_meet, od_law_meet, .func (PySem.W.fnOf "_law_meet" "_law_meet" (defArgs s_law_meet) (defBody s_law_meet) (defScope s_law_meet) .none kV_law_meet dc_law_meet pm_law_meet an_law_meet cd_law_meet ct_law_meet), sl_law_meet⟩)
    (c_law_meet_ : PySem.W.codeIn K cd_law_meet "_law_meet" = true)
    (k_law_meet : PySem.W.keepIn K (.ref A_f_law_meet) = true)
    (a_law_told : PySem.W.nsIn K mainGlobals "_law_told" = some (some (.ref A_f_law_told)))
    (l_law_told : K.lookup A_f_law_told = some ⟨oc_law_told, od_law_told, .func (PySem.W.fnOf "_law_told" "_law_told" (defArgs s_law_told) (defBody s_law_told) (defScope s_law_told) .none kV_law_told dc_law_told pm_law_told an_law_told cd_law_told ct_law_told), sl_law_told⟩)
    (c_law_told_ : PySem.W.codeIn K cd_law_told "_law_told" = true)
    (k_law_told : PySem.W.keepIn K (.ref A_f_law_told) = true)
    (a_law_left_behind : PySem.W.nsIn K mainGlobals "_law_left_behind" = some (some (.ref A_f_law_left_behind)))
    (l_law_left_behind : K.lookup A_f_law_left_behind = some ⟨oc_law_left_behind, od_law_left_behind, .func (PySem.W.fnOf "_law_left_behind" "_law_left_behind" (defArgs s_law_left_behind) (defBody s_law_left_behind) (defScope s_law_left_behind) .none kV_law_left_behind dc_law_left_behind pm_law_left_behind an_law_left_behind cd_law_left_behind ct_law_left_behind), sl_law_left_behind⟩)
    (c_law_left_behind_ : PySem.W.codeIn K cd_law_left_behind "_law_left_behind" = true)
    (k_law_left_behind : PySem.W.keepIn K (.ref A_f_law_left_behind) = true)
    (a_law : PySem.W.nsIn K mainGlobals "law" = some (some (.ref A_f_law)))
    (l_law : K.lookup A_f_law = some ⟨oc_law, od_law, .func (PySem.W.fnOf "law" "law" (defArgs s_law) (defBody s_law) (defScope s_law) .none kV_law dc_law pm_law an_law cd_law ct_law), sl_law⟩)
    (c_law_ : PySem.W.codeIn K cd_law "law" = true)
    (k_law : PySem.W.keepIn K (.ref A_f_law) = true)
    (g_MOST_LETTERS : PySem.W.nsIn K mainGlobals "MOST_LETTERS" = some (some (.int 6 A_t_MOST_LETTERS)))
    (g_MOST_PLACES : PySem.W.nsIn K mainGlobals "MOST_PLACES" = some (some (.int 4 A_t_MOST_PLACES)))
    (z_bool : PySem.W.nsIn K mainGlobals "bool" = some none)
    (z_int : PySem.W.nsIn K mainGlobals "int" = some none)
    (z_isinstance : PySem.W.nsIn K mainGlobals "isinstance" = some none)
    (z_len : PySem.W.nsIn K mainGlobals "len" = some none)
    (z_list : PySem.W.nsIn K mainGlobals "list" = some none)
    (z_max : PySem.W.nsIn K mainGlobals "max" = some none)
    (z_range : PySem.W.nsIn K mainGlobals "range" = some none)
    (z_set : PySem.W.nsIn K mainGlobals "set" = some none)
    (z_sorted : PySem.W.nsIn K mainGlobals "sorted" = some none)
    (z_tuple : PySem.W.nsIn K mainGlobals "tuple" = some none)
    : Txt K mg ⟨A_Known, A_News, A_Alphabet, A_t_MOST_LETTERS, A_t_MOST_PLACES, A_f_Known__init_, A_f_Known_flat, A_f_size_of, A_f_rows_of, A_f_known_of, A_f_first_known, A_f_is_older, A_f_holder, A_f_fresh_label, A_f_met, A_f_News__init_, A_f_News_start, A_f_News_meet, A_f_News_compare, A_f_fits, A_f_Alphabet__init_, A_f_law_draws, A_f_law_take, A_f_law_is_integer, A_f_law_alphabet, A_f_law_word, A_f_law_small_state, A_f_law_meet, A_f_law_told, A_f_law_left_behind, A_f_law⟩ where
  F_Known__init_ := def_mk l_Known__init_ c_Known__init__ k_Known__init_ fun _ _ _ _ _ _ us hl => match us, hl with | [_, _, _, _], _ => rfl
  F_Known_flat := def_mk l_Known_flat c_Known_flat_ k_Known_flat fun _ _ _ _ _ _ us hl => match us, hl with | [_], _ => rfl
  F_size_of := def_mk l_size_of c_size_of_ k_size_of fun _ _ _ _ _ _ us hl => match us, hl with | [_], _ => rfl
  mg_size_of := PySem.W.mg_of X G a_size_of
  kp_size_of := k_size_of
  F_rows_of := def_mk l_rows_of c_rows_of_ k_rows_of fun _ _ _ _ _ _ us hl => match us, hl with | [_, _], _ => rfl
  mg_rows_of := PySem.W.mg_of X G a_rows_of
  kp_rows_of := k_rows_of
  F_known_of := def_mk l_known_of c_known_of_ k_known_of fun _ _ _ _ _ _ us hl => match us, hl with | [_, _], _ => rfl
  mg_known_of := PySem.W.mg_of X G a_known_of
  kp_known_of := k_known_of
  F_first_known := def_mk l_first_known c_first_known_ k_first_known fun _ _ _ _ _ _ us hl => match us, hl with | [_], _ => rfl
  mg_first_known := PySem.W.mg_of X G a_first_known
  kp_first_known := k_first_known
  F_is_older := def_mk l_is_older c_is_older_ k_is_older fun _ _ _ _ _ _ us hl => match us, hl with | [_, _, _], _ => rfl
  mg_is_older := PySem.W.mg_of X G a_is_older
  kp_is_older := k_is_older
  F_holder := def_mk l_holder c_holder_ k_holder fun _ _ _ _ _ _ us hl => match us, hl with | [_, _], _ => rfl
  mg_holder := PySem.W.mg_of X G a_holder
  kp_holder := k_holder
  F_fresh_label := def_mk l_fresh_label c_fresh_label_ k_fresh_label fun _ _ _ _ _ _ us hl => match us, hl with | [_, _, _], _ => rfl
  mg_fresh_label := PySem.W.mg_of X G a_fresh_label
  kp_fresh_label := k_fresh_label
  F_met := def_mk l_met c_met_ k_met fun _ _ _ _ _ _ us hl => match us, hl with | [_, _, _], _ => rfl
  mg_met := PySem.W.mg_of X G a_met
  kp_met := k_met
  F_News__init_ := def_mk l_News__init_ c_News__init__ k_News__init_ fun _ _ _ _ _ _ us hl => match us, hl with | [_, _], _ => rfl
  F_News_start := def_mk l_News_start c_News_start_ k_News_start fun _ _ _ _ _ _ us hl => match us, hl with | [_], _ => rfl
  F_News_meet := def_mk l_News_meet c_News_meet_ k_News_meet fun _ _ _ _ _ _ us hl => match us, hl with | [_, _, _], _ => rfl
  F_News_compare := def_mk l_News_compare c_News_compare_ k_News_compare fun _ _ _ _ _ _ us hl => match us, hl with | [_, _, _, _], _ => rfl
  F_fits := def_mk l_fits c_fits_ k_fits fun _ _ _ _ _ _ us hl => match us, hl with | [_, _], _ => rfl
  mg_fits := PySem.W.mg_of X G a_fits
  kp_fits := k_fits
  F_Alphabet__init_ := def_mk l_Alphabet__init_ c_Alphabet__init__ k_Alphabet__init_ fun _ _ _ _ _ _ us hl => match us, hl with | [_, _, _], _ => rfl
  F_law_draws := def_mk l_law_draws c_law_draws_ k_law_draws fun _ _ _ _ _ _ us hl => match us, hl with | [_, _], _ => rfl
  mg_law_draws := PySem.W.mg_of X G a_law_draws
  kp_law_draws := k_law_draws
  F_law_take := def_mk l_law_take c_law_take_ k_law_take fun _ _ _ _ _ _ us hl => match us, hl with | [_, _], _ => rfl
  mg_law_take := PySem.W.mg_of X G a_law_take
  kp_law_take := k_law_take
  F_law_is_integer := def_mk l_law_is_integer c_law_is_integer_ k_law_is_integer fun _ _ _ _ _ _ us hl => match us, hl with | [_], _ => rfl
  mg_law_is_integer := PySem.W.mg_of X G a_law_is_integer
  kp_law_is_integer := k_law_is_integer
  F_law_alphabet := def_mk l_law_alphabet c_law_alphabet_ k_law_alphabet fun _ _ _ _ _ _ us hl => match us, hl with | [_, _, _], _ => rfl
  mg_law_alphabet := PySem.W.mg_of X G a_law_alphabet
  kp_law_alphabet := k_law_alphabet
  F_law_word := def_mk l_law_word c_law_word_ k_law_word fun _ _ _ _ _ _ us hl => match us, hl with | [_, _, _], _ => rfl
  mg_law_word := PySem.W.mg_of X G a_law_word
  kp_law_word := k_law_word
  F_law_small_state := def_mk l_law_small_state c_law_small_state_ k_law_small_state fun _ _ _ _ _ _ us hl => match us, hl with | [_, _], _ => rfl
  mg_law_small_state := PySem.W.mg_of X G a_law_small_state
  kp_law_small_state := k_law_small_state
  F_law_meet := def_mk l_law_meet c_law_meet_ k_law_meet fun _ _ _ _ _ _ us hl => match us, hl with | [_, _, _, _], _ => rfl
  mg_law_meet := PySem.W.mg_of X G a_law_meet
  kp_law_meet := k_law_meet
  F_law_told := def_mk l_law_told c_law_told_ k_law_told fun _ _ _ _ _ _ us hl => match us, hl with | [_, _, _, _, _], _ => rfl
  mg_law_told := PySem.W.mg_of X G a_law_told
  kp_law_told := k_law_told
  F_law_left_behind := def_mk l_law_left_behind c_law_left_behind_ k_law_left_behind fun _ _ _ _ _ _ us hl => match us, hl with | [_, _], _ => rfl
  mg_law_left_behind := PySem.W.mg_of X G a_law_left_behind
  kp_law_left_behind := k_law_left_behind
  F_law := defl_mk l_law c_law_ k_law fun _ _ _ _ _ _ _ => rfl
  mg_law := PySem.W.mg_of X G a_law
  cl_Known := ⟨pg_Known, hd_Known, po_Known, sa_Known⟩
  na_Known_first := na_Known_first
  na_Known_second := na_Known_second
  na_Known_third := na_Known_third
  mk_Known := ⟨mk_Known, a_Known__init_, i_Known__init_, kc_Known⟩
  mg_Known := PySem.W.mg_of X G aC_Known
  me_Known_flat := meth_mk a_Known_flat i_Known_flat k_Known_flat
  cl_News := ⟨pg_News, hd_News, po_News, sa_News⟩
  na_News_alphabet := na_News_alphabet
  mk_News := ⟨mk_News, a_News__init_, i_News__init_, kc_News⟩
  mg_News := PySem.W.mg_of X G aC_News
  me_News_start := meth_mk a_News_start i_News_start k_News_start
  me_News_meet := meth_mk a_News_meet i_News_meet k_News_meet
  me_News_compare := meth_mk a_News_compare i_News_compare k_News_compare
  cl_Alphabet := ⟨pg_Alphabet, hd_Alphabet, po_Alphabet, sa_Alphabet⟩
  na_Alphabet_places := na_Alphabet_places
  na_Alphabet_letters := na_Alphabet_letters
  mk_Alphabet := ⟨mk_Alphabet, a_Alphabet__init_, i_Alphabet__init_, kc_Alphabet⟩
  mg_Alphabet := PySem.W.mg_of X G aC_Alphabet
  mg_MOST_LETTERS := PySem.W.mg_of X G g_MOST_LETTERS
  mg_MOST_PLACES := PySem.W.mg_of X G g_MOST_PLACES
  n_bool := PySem.W.mg_none_of X G z_bool
  n_int := PySem.W.mg_none_of X G z_int
  n_isinstance := PySem.W.mg_none_of X G z_isinstance
  n_len := PySem.W.mg_none_of X G z_len
  n_list := PySem.W.mg_none_of X G z_list
  n_max := PySem.W.mg_none_of X G z_max
  n_range := PySem.W.mg_none_of X G z_range
  n_set := PySem.W.mg_none_of X G z_set
  n_sorted := PySem.W.mg_none_of X G z_sorted
  n_tuple := PySem.W.mg_none_of X G z_tuple
theorem all_mk {P : Program} {w : World} {K : PySem.W.Frag} {mg : Str → Option Value} {fa : Addr} {A : Ads} (hfa : mg "law" = some (.ref fa)) (T : Txt K mg A) : OkL P w K mg 6 fa := by
  have e := hfa.symm.trans T.mg_law
  cases e
  exact ok_law T
end My
open PySem PySem.W PyProof.Rows
set_option maxRecDepth 100000 in
set_option maxHeartbeats 0 in
theorem PySem.Challenge.cw_tracetalk_k21_news_for_long_holds : PySem.Challenge.rw_tracetalk_k21_news_for_long.Holds := by
  w_on; o_law; k_head; (case hw => w_witness2)
  k_fill
  refine Lt.law_walk (l := PySem.Challenge.rw_tracetalk_k21_news_for_long) 6 ⟨rfl, by decide, by decide⟩ rfl rfl (fun w h Y => PySem.W.kIn_of Y) ?F
  case F =>
    intro w mg fa h KX G hmg
    refine' My.all_mk hmg (My.txt_mk KX G ?aC_Known ?pg_Known ?hd_Known ?po_Known ?sa_Known ?mk_Known ?kc_Known ?na_Known_first ?na_Known_second ?na_Known_third ?aC_News ?pg_News ?hd_News ?po_News ?sa_News ?mk_News ?kc_News ?na_News_alphabet ?aC_Alphabet ?pg_Alphabet ?hd_Alphabet ?po_Alphabet ?sa_Alphabet ?mk_Alphabet ?kc_Alphabet ?na_Alphabet_places ?na_Alphabet_letters ?a_Known__init_ ?i_Known__init_ ?l_Known__init_ ?c_Known__init__ ?k_Known__init_ ?a_Known_flat ?i_Known_flat ?l_Known_flat ?c_Known_flat_ ?k_Known_flat ?a_size_of ?l_size_of ?c_size_of_ ?k_size_of ?a_rows_of ?l_rows_of ?c_rows_of_ ?k_rows_of ?a_known_of ?l_known_of ?c_known_of_ ?k_known_of ?a_first_known ?l_first_known ?c_first_known_ ?k_first_known ?a_is_older ?l_is_older ?c_is_older_ ?k_is_older ?a_holder ?l_holder ?c_holder_ ?k_holder ?a_fresh_label ?l_fresh_label ?c_fresh_label_ ?k_fresh_label ?a_met ?l_met ?c_met_ ?k_met ?a_News__init_ ?i_News__init_ ?l_News__init_ ?c_News__init__ ?k_News__init_ ?a_News_start ?i_News_start ?l_News_start ?c_News_start_ ?k_News_start ?a_News_meet ?i_News_meet ?l_News_meet ?c_News_meet_ ?k_News_meet ?a_News_compare ?i_News_compare ?l_News_compare ?c_News_compare_ ?k_News_compare ?a_fits ?l_fits ?c_fits_ ?k_fits ?a_Alphabet__init_ ?i_Alphabet__init_ ?l_Alphabet__init_ ?c_Alphabet__init__ ?k_Alphabet__init_ ?a_law_draws ?l_law_draws ?c_law_draws_ ?k_law_draws ?a_law_take ?l_law_take ?c_law_take_ ?k_law_take ?a_law_is_integer ?l_law_is_integer ?c_law_is_integer_ ?k_law_is_integer ?a_law_alphabet ?l_law_alphabet ?c_law_alphabet_ ?k_law_alphabet ?a_law_word ?l_law_word ?c_law_word_ ?k_law_word ?a_law_small_state ?l_law_small_state ?c_law_small_state_ ?k_law_small_state ?a_law_meet ?l_law_meet ?c_law_meet_ ?k_law_meet ?a_law_told ?l_law_told ?c_law_told_ ?k_law_told ?a_law_left_behind ?l_law_left_behind ?c_law_left_behind_ ?k_law_left_behind ?a_law ?l_law ?c_law_ ?k_law ?g_MOST_LETTERS ?g_MOST_PLACES ?z_bool ?z_int ?z_isinstance ?z_len ?z_list ?z_max ?z_range ?z_set ?z_sorted ?z_tuple)
    (case aC_Known => k_is)
    (case pg_Known => k_is)
    (case hd_Known => k_is)
    (case po_Known => k_is)
    (case sa_Known => k_is)
    (case mk_Known => k_is)
    (case kc_Known => k_is)
    (case na_Known_first => k_is)
    (case na_Known_second => k_is)
    (case na_Known_third => k_is)
    (case aC_News => k_is)
    (case pg_News => k_is)
    (case hd_News => k_is)
    (case po_News => k_is)
    (case sa_News => k_is)
    (case mk_News => k_is)
    (case kc_News => k_is)
    (case na_News_alphabet => k_is)
    (case aC_Alphabet => k_is)
    (case pg_Alphabet => k_is)
    (case hd_Alphabet => k_is)
    (case po_Alphabet => k_is)
    (case sa_Alphabet => k_is)
    (case mk_Alphabet => k_is)
    (case kc_Alphabet => k_is)
    (case na_Alphabet_places => k_is)
    (case na_Alphabet_letters => k_is)
    (case a_Known__init_ => k_is)
    (case i_Known__init_ => k_is)
    (case l_Known__init_ => k_is)
    (case c_Known__init__ => k_is)
    (case k_Known__init_ => k_is)
    (case a_Known_flat => k_is)
    (case i_Known_flat => k_is)
    (case l_Known_flat => k_is)
    (case c_Known_flat_ => k_is)
    (case k_Known_flat => k_is)
    (case a_size_of => k_is)
    (case l_size_of => k_is)
    (case c_size_of_ => k_is)
    (case k_size_of => k_is)
    (case a_rows_of => k_is)
    (case l_rows_of => k_is)
    (case c_rows_of_ => k_is)
    (case k_rows_of => k_is)
    (case a_known_of => k_is)
    (case l_known_of => k_is)
    (case c_known_of_ => k_is)
    (case k_known_of => k_is)
    (case a_first_known => k_is)
    (case l_first_known => k_is)
    (case c_first_known_ => k_is)
    (case k_first_known => k_is)
    (case a_is_older => k_is)
    (case l_is_older => k_is)
    (case c_is_older_ => k_is)
    (case k_is_older => k_is)
    (case a_holder => k_is)
    (case l_holder => k_is)
    (case c_holder_ => k_is)
    (case k_holder => k_is)
    (case a_fresh_label => k_is)
    (case l_fresh_label => k_is)
    (case c_fresh_label_ => k_is)
    (case k_fresh_label => k_is)
    (case a_met => k_is)
    (case l_met => k_is)
    (case c_met_ => k_is)
    (case k_met => k_is)
    (case a_News__init_ => k_is)
    (case i_News__init_ => k_is)
    (case l_News__init_ => k_is)
    (case c_News__init__ => k_is)
    (case k_News__init_ => k_is)
    (case a_News_start => k_is)
    (case i_News_start => k_is)
    (case l_News_start => k_is)
    (case c_News_start_ => k_is)
    (case k_News_start => k_is)
    (case a_News_meet => k_is)
    (case i_News_meet => k_is)
    (case l_News_meet => k_is)
    (case c_News_meet_ => k_is)
    (case k_News_meet => k_is)
    (case a_News_compare => k_is)
    (case i_News_compare => k_is)
    (case l_News_compare => k_is)
    (case c_News_compare_ => k_is)
    (case k_News_compare => k_is)
    (case a_fits => k_is)
    (case l_fits => k_is)
    (case c_fits_ => k_is)
    (case k_fits => k_is)
    (case a_Alphabet__init_ => k_is)
    (case i_Alphabet__init_ => k_is)
    (case l_Alphabet__init_ => k_is)
    (case c_Alphabet__init__ => k_is)
    (case k_Alphabet__init_ => k_is)
    (case a_law_draws => k_is)
    (case l_law_draws => k_is)
    (case c_law_draws_ => k_is)
    (case k_law_draws => k_is)
    (case a_law_take => k_is)
    (case l_law_take => k_is)
    (case c_law_take_ => k_is)
    (case k_law_take => k_is)
    (case a_law_is_integer => k_is)
    (case l_law_is_integer => k_is)
    (case c_law_is_integer_ => k_is)
    (case k_law_is_integer => k_is)
    (case a_law_alphabet => k_is)
    (case l_law_alphabet => k_is)
    (case c_law_alphabet_ => k_is)
    (case k_law_alphabet => k_is)
    (case a_law_word => k_is)
    (case l_law_word => k_is)
    (case c_law_word_ => k_is)
    (case k_law_word => k_is)
    (case a_law_small_state => k_is)
    (case l_law_small_state => k_is)
    (case c_law_small_state_ => k_is)
    (case k_law_small_state => k_is)
    (case a_law_meet => k_is)
    (case l_law_meet => k_is)
    (case c_law_meet_ => k_is)
    (case k_law_meet => k_is)
    (case a_law_told => k_is)
    (case l_law_told => k_is)
    (case c_law_told_ => k_is)
    (case k_law_told => k_is)
    (case a_law_left_behind => k_is)
    (case l_law_left_behind => k_is)
    (case c_law_left_behind_ => k_is)
    (case k_law_left_behind => k_is)
    (case a_law => k_is)
    (case l_law => k_is)
    (case c_law_ => k_is)
    (case k_law => k_is)
    (case g_MOST_LETTERS => k_is)
    (case g_MOST_PLACES => k_is)
    (case z_bool => k_is)
    (case z_int => k_is)
    (case z_isinstance => k_is)
    (case z_len => k_is)
    (case z_list => k_is)
    (case z_max => k_is)
    (case z_range => k_is)
    (case z_set => k_is)
    (case z_sorted => k_is)
    (case z_tuple => k_is)
