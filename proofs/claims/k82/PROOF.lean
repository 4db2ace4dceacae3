import PyProof.Rows.All
import HandS.ForMost
import HandS.IsInst
import HandS.Flow
import HandS.Wide
import HandS.TupAny
import HandS.TupLe
import HandS.TupMul
import HandS.Zip
import HandS.SortInts
import HandS.Deep
import PySem.Challenge.RW_dayholds_k82_whole_clocks_of_a_kind
set_option Elab.async false
set_option linter.all false
set_option maxRecDepth 100000
set_option maxHeartbeats 4000000
/-! DL: a layer of plain data over HandS. D is data, the store Ka holds what may change; each construct has a meaning (a plain function of slots and store) and one lemma that ties it to the machine. -/
namespace DL
open PySem PySem.Spec PyProof.Rows L2

/-! ### data, the store, results -/
inductive D where
  | non | bl (b : Bool) | int (i : Int) | str (x : Str) | tup (ds : List D) | lst (ds : List D)
  /-- a list that is lent: it stands, and is read -/
  | bor (ds : List D)
  /-- a thing of the store -/
  | obj (n : Nat)
  /-- a list that nobody writes (the script) -/
  | rol (ds : List D)
inductive Cell where
  | lst (ds : List D)
  | ins (c : Nat) (fs : List (Str × D))
abbrev Ka := List Cell
/-- a slot: nothing, data, or a list of the frame's own, that may change -/
inductive Sl where
  | no | val (d : D) | own (ds : List D)
inductive Ox (α : Type) where
  | ok (a : α) | er (c : Nat)
abbrev Re (α : Type) := Option (Ox α × Ka)
abbrev Ev (α : Type) := List Sl → Ka → Re α
def Re.bind {α β : Type} (r : Re α) (f : α → Ka → Re β) : Re β :=
  match r with
  | none => none
  | some (.ok a, k) => f a k
  | some (.er c, k) => some (.er c, k)
/-- the addresses of the classes that the text makes things of, and of its errors -/
structure Gx where
  cls : Nat → Addr
  exc : Nat → Addr

/-! ### data in the heap -/
mutual
inductive Rp (K : PySem.W.Frag) (α : List Addr) (F : Hp) : D → V → Prop
  | non : Rp K α F .non .non
  | bl (b : Bool) : Rp K α F (.bl b) (.bl b)
  | int (i : Int) : Rp K α F (.int i) (.int i)
  | str (x : Str) : Rp K α F (.str x) (.str x)
  | tup {a : Addr} {xs : List V} {ds : List D} : SqT K F a xs → RpL K α F ds xs → Rp K α F (.tup ds) (.ref a)
  | lst {a : Addr} {xs : List V} {ds : List D} : F a = some (.lst xs) → RpL K α F ds xs → Rp K α F (.lst ds) (.ref a)
  | obj {n : Nat} {a : Addr} : α[n]? = some a → Rp K α F (.obj n) (.ref a)
  | rol {a : Addr} {xs : List V} {ds : List D} : SqL K F a xs → RpL K α F ds xs → Rp K α F (.rol ds) (.ref a)
inductive RpL (K : PySem.W.Frag) (α : List Addr) (F : Hp) : List D → List V → Prop
  | nil : RpL K α F [] []
  | cons {d : D} {v : V} {ds : List D} {vs : List V} : Rp K α F d v → RpL K α F ds vs → RpL K α F (d :: ds) (v :: vs)
end
theorem same_tup {K : PySem.W.Frag} {H H' : Hp} {a : Addr} {xs : List V} (e : Same H H') (h : SqT K H a xs) : SqT K H' a xs := by
  rcases h with h | h
  · rcases h with h | ⟨o, h⟩
    · exact .inl (.inl (e _ _ h))
    · exact .inl (.inr ⟨o, e _ _ h⟩)
  · exact .inr h
section
variable {K : PySem.W.Frag} {α β : List Addr} {F F' : Hp}
mutual
theorem Rp.mono (e : Same F F') : ∀ {d : D} {v : V}, Rp K α F d v → Rp K (α ++ β) F' d v
  | _, _, .non => .non
  | _, _, .bl b => .bl b
  | _, _, .int i => .int i
  | _, _, .str x => .str x
  | _, _, .tup h r => .tup (same_tup e h) (RpL.mono e r)
  | _, _, .lst h r => .lst (e _ _ h) (RpL.mono e r)
  | _, _, .rol h r => .rol (Same.seq e h) (RpL.mono e r)
  | _, _, .obj h => .obj (by rw [List.getElem?_append_left (List.getElem?_eq_some_iff.mp h).1]; exact h)
theorem RpL.mono (e : Same F F') : ∀ {ds : List D} {vs : List V}, RpL K α F ds vs → RpL K (α ++ β) F' ds vs
  | _, _, .nil => .nil
  | _, _, .cons h t => .cons (Rp.mono e h) (RpL.mono e t)
end
theorem RpL.length {ds : List D} {vs : List V} (r : RpL K α F ds vs) : ds.length = vs.length := by
  induction ds generalizing vs with
  | nil => cases r; rfl
  | cons d ds ih => cases r with | cons h t => simp [ih t]
theorem RpL.get {ds : List D} {vs : List V} (r : RpL K α F ds vs) {i : Nat} {d : D} (h : ds[i]? = some d) : ∃ v, vs[i]? = some v ∧ Rp K α F d v := by
  induction ds generalizing vs i with
  | nil => simp at h
  | cons e ds ih =>
    cases r with
    | cons h1 t =>
      cases i with
      | zero => simp at h; subst h; exact ⟨_, by simp, h1⟩
      | succ i => obtain ⟨v, a, b⟩ := ih t (i := i) (by simpa using h); exact ⟨v, by simpa using a, b⟩
theorem RpL.getV {ds : List D} {vs : List V} (r : RpL K α F ds vs) {i : Nat} {v : V} (h : vs[i]? = some v) : ∃ d, ds[i]? = some d ∧ Rp K α F d v := by
  induction ds generalizing vs i with
  | nil => cases r; simp at h
  | cons e ds ih =>
    cases r with
    | cons h1 t =>
      cases i with
      | zero => simp at h; subst h; exact ⟨_, by simp, h1⟩
      | succ i => obtain ⟨d, a, b⟩ := ih t (i := i) (by simpa using h); exact ⟨d, by simpa using a, b⟩
theorem RpL.append {ds es : List D} {vs us : List V} (r : RpL K α F ds vs) (q : RpL K α F es us) : RpL K α F (ds ++ es) (vs ++ us) := by
  induction ds generalizing vs with
  | nil => cases r; exact q
  | cons d ds ih => cases r with | cons h t => exact .cons h (ih t)
theorem RpL.take {ds : List D} {vs : List V} (r : RpL K α F ds vs) (n : Nat) : RpL K α F (ds.take n) (vs.take n) := by
  induction ds generalizing vs n with
  | nil => cases r; simp; exact .nil
  | cons d ds ih => cases r with | cons h t => cases n with | zero => exact .nil | succ n => exact .cons h (ih t n)
theorem RpL.drop {ds : List D} {vs : List V} (r : RpL K α F ds vs) (n : Nat) : RpL K α F (ds.drop n) (vs.drop n) := by
  induction ds generalizing vs n with
  | nil => cases r; simp; exact .nil
  | cons d ds ih => cases r with | cons h t => cases n with | zero => exact .cons h t | succ n => exact ih t n
theorem RpL.set {ds : List D} {vs : List V} (r : RpL K α F ds vs) {d : D} {v : V} (q : Rp K α F d v) (i : Nat) : RpL K α F (ds.set i d) (vs.set i v) := by
  induction ds generalizing vs i with
  | nil => cases r; exact .nil
  | cons e ds ih => cases r with | cons h t => cases i with | zero => exact .cons q t | succ i => exact .cons h (ih t i)
theorem RpL.ints {ns : List Int} {vs : List V} (r : RpL K α F (ns.map D.int) vs) : vs = ns.map V.int := by
  induction ns generalizing vs with
  | nil => cases r; rfl
  | cons n ns ih => cases r with | cons h t => cases h; rw [ih t]; rfl
theorem RpL.of_ints (ns : List Int) : RpL K α F (ns.map D.int) (ns.map V.int) := by
  induction ns with
  | nil => exact .nil
  | cons n ns ih => exact .cons (.int n) ih
/-- fields of a thing -/
inductive RpF (K : PySem.W.Frag) (α : List Addr) (F : Hp) : List (Str × D) → List (Str × V) → Prop
  | nil : RpF K α F [] []
  | cons {x : Str} {d : D} {v : V} {ds : List (Str × D)} {vs : List (Str × V)} : Rp K α F d v → RpF K α F ds vs → RpF K α F ((x, d) :: ds) ((x, v) :: vs)
theorem RpF.mono (e : Same F F') {ds : List (Str × D)} {vs : List (Str × V)} (r : RpF K α F ds vs) : RpF K (α ++ β) F' ds vs := by
  induction r with
  | nil => exact .nil
  | cons h _ ih => exact .cons (h.mono e) ih
end

/-! ### growth, the world, the slots -/
structure Gr (α : List Addr) (F H : Hp) (α' : List Addr) (F' H' : Hp) : Prop where
  al : ∃ β, α' = α ++ β ∧ ∀ a ∈ β, H a = none
  fr : Same F F'
  fn : ∀ a, F a = none → H a ≠ none → F' a = none
  ke : ∀ a o, H a = some o → a ∉ α → H' a = some o
  dm : ∀ a, H a ≠ none → H' a ≠ none
theorem Gr.refl (α : List Addr) (F H : Hp) : Gr α F H α F H := ⟨⟨[], by simp, by simp⟩, Same.refl _, fun _ h _ => h, fun _ _ h _ => h, fun _ h => h⟩
theorem Gr.notin {α α' : List Addr} {F F' H H' : Hp} (g : Gr α F H α' F' H') {a : Addr} (h : H a ≠ none) (n : a ∉ α) : a ∉ α' := by
  obtain ⟨β, rfl, hb⟩ := g.al
  intro m
  rcases List.mem_append.mp m with m | m
  · exact n m
  · exact h (hb a m)
theorem Gr.trans {α α1 α2 : List Addr} {F F1 F2 H H1 H2 : Hp} (a : Gr α F H α1 F1 H1) (b : Gr α1 F1 H1 α2 F2 H2) : Gr α F H α2 F2 H2 := by
  refine ⟨?_, a.fr.trans b.fr, fun c h1 h2 => b.fn c (a.fn c h1 h2) (a.dm c h2), fun c o h n => b.ke c o (a.ke c o h n) (a.notin (by rw [h]; simp) n), fun c h => b.dm c (a.dm c h)⟩
  obtain ⟨β, rfl, hb⟩ := a.al
  obtain ⟨γ, rfl, hc⟩ := b.al
  refine ⟨β ++ γ, by simp, fun c hm => ?_⟩
  rcases List.mem_append.mp hm with m | m
  · exact hb c m
  · cases q : H c with
    | none => rfl
    | some o => exact absurd (hc c m) (a.dm c (by rw [q]; simp))
section
variable {K : PySem.W.Frag} {α α' : List Addr} {F F' H H' : Hp} {d : D} {v : V} {ds : List D} {vs : List V}
theorem Rp.gr (g : Gr α F H α' F' H') (r : Rp K α F d v) : Rp K α' F' d v := by
  obtain ⟨β, rfl, _⟩ := g.al
  exact r.mono g.fr
theorem RpL.gr (g : Gr α F H α' F' H') (r : RpL K α F ds vs) : RpL K α' F' ds vs := by
  obtain ⟨β, rfl, _⟩ := g.al
  exact r.mono g.fr
end
/-- a lent list -/
def Lent (K : PySem.W.Frag) (α : List Addr) (F H : Hp) (ds : List D) (v : V) : Prop := ∃ a xs, v = .ref a ∧ H a = some (.lst xs) ∧ a ∉ α ∧ F a = none ∧ RpL K α F ds xs
/-- a value in hand: data, or a lent list -/
def Rv (K : PySem.W.Frag) (α : List Addr) (F H : Hp) (d : D) (v : V) : Prop := match d with
  | .bor ds => Lent K α F H ds v
  | d => Rp K α F d v
inductive RvL (K : PySem.W.Frag) (α : List Addr) (F H : Hp) : List D → List V → Prop
  | nil : RvL K α F H [] []
  | cons {d : D} {v : V} {ds : List D} {vs : List V} : Rv K α F H d v → RvL K α F H ds vs → RvL K α F H (d :: ds) (v :: vs)
section
variable {K : PySem.W.Frag} {α α' : List Addr} {F F' H H' : Hp} {d : D} {v : V} {ds : List D} {vs : List V}
theorem Lent.gr (g : Gr α F H α' F' H') (r : Lent K α F H ds v) : Lent K α' F' H' ds v := by
  obtain ⟨a, xs, rfl, h, n, f, r⟩ := r
  exact ⟨a, xs, rfl, g.ke _ _ h n, g.notin (by rw [h]; simp) n, g.fn _ f (by rw [h]; simp), r.gr g⟩
theorem Rp.rv (r : Rp K α F d v) : Rv K α F H d v := by
  cases d with
  | bor ds => cases r
  | _ => exact r
theorem Rv.gr (g : Gr α F H α' F' H') (r : Rv K α F H d v) : Rv K α' F' H' d v := by
  cases d with
  | bor ds => exact Lent.gr g r
  | _ => exact Rp.gr g r
theorem RvL.gr (g : Gr α F H α' F' H') (r : RvL K α F H ds vs) : RvL K α' F' H' ds vs := by
  induction r with
  | nil => exact .nil
  | cons h _ ih => exact .cons (h.gr g) ih
theorem RvL.length (r : RvL K α F H ds vs) : ds.length = vs.length := by
  induction r with
  | nil => rfl
  | cons _ _ ih => simp [ih]
/-- data alone, nothing lent -/
def isBor : D → Bool
  | .bor _ => true
  | _ => false
theorem Rv.rp (r : Rv K α F H d v) (n : isBor d = false) : Rp K α F d v := by
  cases d with
  | bor ds => cases n
  | _ => exact r
def noBor (ds : List D) : Bool := ds.all fun d => !isBor d
theorem RvL.rpl (r : RvL K α F H ds vs) (n : noBor ds = true) : RpL K α F ds vs := by
  induction r with
  | nil => exact .nil
  | cons h _ ih =>
    unfold noBor at n
    simp only [List.all_cons, Bool.and_eq_true, Bool.not_eq_true'] at n
    exact .cons (h.rp n.1) (ih n.2)
theorem RpL.rvl (r : RpL K α F ds vs) : RvL K α F H ds vs := by
  induction ds generalizing vs with
  | nil => cases r; exact .nil
  | cons d ds ih => cases r with | cons h t => exact .cons h.rv (ih t)
end
def CellOk (G : Gx) (K : PySem.W.Frag) (α : List Addr) (F H : Hp) (a : Addr) : Cell → Prop
  | .lst ds => ∃ xs, H a = some (.lst xs) ∧ RpL K α F ds xs
  | .ins c fs => ∃ dx vs, H a = some (.ins (G.cls c) dx vs) ∧ RpF K α F fs vs
structure Wd (G : Gx) (K : PySem.W.Frag) (α : List Addr) (F H : Hp) (κ : Ka) : Prop where
  sub : Same F H
  len : α.length = κ.length
  inj : ∀ (i j : Nat) (a : Addr), α[i]? = some a → α[j]? = some a → i = j
  fre : ∀ a, a ∈ α → F a = none
  cel : ∀ (n : Nat) (a : Addr) (c : Cell), α[n]? = some a → κ[n]? = some c → CellOk G K α F H a c
theorem CellOk.dom {G : Gx} {K : PySem.W.Frag} {α : List Addr} {F H : Hp} {a : Addr} {c : Cell} (h : CellOk G K α F H a c) : H a ≠ none := by
  cases c with
  | lst ds => obtain ⟨xs, e, _⟩ := h; rw [e]; simp
  | ins c fs => obtain ⟨dx, vs, e, _⟩ := h; rw [e]; simp
theorem Wd.dom {G : Gx} {K : PySem.W.Frag} {α : List Addr} {F H : Hp} {κ : Ka} (w : Wd G K α F H κ) {a : Addr} (h : a ∈ α) : H a ≠ none := by
  obtain ⟨i, hi, e⟩ := List.mem_iff_getElem.mp h
  have h1 : α[i]? = some a := by rw [List.getElem?_eq_getElem hi, e]
  have h2 : i < κ.length := by rw [← w.len]; exact hi
  exact (w.cel i a _ h1 (List.getElem?_eq_getElem h2)).dom
theorem CellOk.keep {G : Gx} {K : PySem.W.Frag} {α β : List Addr} {F F' H H' : Hp} {a : Addr} {c : Cell} (h : CellOk G K α F H a c) (e : Same F F') (he : H' a = H a) : CellOk G K (α ++ β) F' H' a c := by
  cases c with
  | lst ds => obtain ⟨xs, q, r⟩ := h; exact ⟨xs, he.trans q, r.mono e⟩
  | ins c fs => obtain ⟨dx, vs, q, r⟩ := h; exact ⟨dx, vs, he.trans q, r.mono e⟩
/-- what a slot tells; Bs: the heap at the frame's entry -/
def SlOk (K : PySem.W.Frag) (α : List Addr) (F H Bs : Hp) (s : Sl) (o : Option V) : Prop := match s with
  | .no => True
  | .val d => ∃ v, o = some v ∧ Rv K α F H d v ∧ (isBor d = true → ∃ a, v = .ref a ∧ Bs a ≠ none)
  | .own ds => ∃ a xs, o = some (.ref a) ∧ H a = some (.lst xs) ∧ F a = none ∧ a ∉ α ∧ Bs a = none ∧ RpL K α F ds xs
structure Sls (K : PySem.W.Frag) (α : List Addr) (F H Bs : Hp) (ρ : List Sl) (σ : L2.St) : Prop where
  len : ρ.length = σ.length
  at' : ∀ (i : Nat) (s : Sl), ρ[i]? = some s → ∃ o, σ[i]? = some o ∧ SlOk K α F H Bs s o
  sep : ∀ (i j : Nat) (a : Addr) (ds es : List D), ρ[i]? = some (.own ds) → ρ[j]? = some (.own es) → σ[i]? = some (some (.ref a)) → σ[j]? = some (some (.ref a)) → i = j
theorem SlOk.gr {K : PySem.W.Frag} {α α' : List Addr} {F F' H H' Bs : Hp} {s : Sl} {o : Option V} (g : Gr α F H α' F' H') (h : SlOk K α F H Bs s o) : SlOk K α' F' H' Bs s o := by
  cases s with
  | no => trivial
  | val d => obtain ⟨v, e, r, b⟩ := h; exact ⟨v, e, r.gr g, b⟩
  | own ds =>
    obtain ⟨a, xs, e, h, f, n, b, r⟩ := h
    exact ⟨a, xs, e, g.ke _ _ h n, g.fn _ f (by rw [h]; simp), g.notin (by rw [h]; simp) n, b, r.gr g⟩
theorem Sls.gr {K : PySem.W.Frag} {α α' : List Addr} {F F' H H' Bs : Hp} {ρ : List Sl} {σ : L2.St} (g : Gr α F H α' F' H') (h : Sls K α F H Bs ρ σ) : Sls K α' F' H' Bs ρ σ :=
  ⟨h.len, fun i s e => let ⟨o, a, b⟩ := h.at' i s e; ⟨o, a, b.gr g⟩, h.sep⟩

/-! ### the readings -/
/-- what is wanted behind an expression -/
def PO (G : Gx) (W : XK) (K : PySem.W.Frag) (α : List Addr) (F H : Hp) (Q : VK) : Re D → Prop
  | none => False
  | some (o, κ') => ∀ α' F' H', Gr α F H α' F' H' → Wd G K α' F' H' κ' → match o with
    | .ok d => ∀ v, Rv K α' F' H' d v → Q v H'
    | .er c => W (.ref (G.exc c)) none H'
def POL (G : Gx) (W : XK) (K : PySem.W.Frag) (α : List Addr) (F H : Hp) (Q : List V → Hp → Prop) : Re (List D) → Prop
  | none => False
  | some (o, κ') => ∀ α' F' H', Gr α F H α' F' H' → Wd G K α' F' H' κ' → match o with
    | .ok d => ∀ v, RvL K α' F' H' d v → Q v H'
    | .er c => W (.ref (G.exc c)) none H'
/-- .. behind one that makes a new list -/
def POF (G : Gx) (W : XK) (K : PySem.W.Frag) (α : List Addr) (F H : Hp) (Q : VK) : Re (List D) → Prop
  | none => False
  | some (o, κ') => ∀ α' F' H', Gr α F H α' F' H' → Wd G K α' F' H' κ' → match o with
    | .ok ds => ∀ a xs, H' a = some (.lst xs) → F' a = none → a ∉ α' → H a = none → RpL K α' F' ds xs → Q (.ref a) H'
    | .er c => W (.ref (G.exc c)) none H'
def tD (G : Gx) (W : XK) (K : PySem.W.Frag) (m : Ev D) : TE := fun σ H Q => ∃ α F ρ κ Bs, Wd G K α F H κ ∧ Sls K α F H Bs ρ σ ∧ PO G W K α F H Q (m ρ κ)
def tL (G : Gx) (W : XK) (K : PySem.W.Frag) (m : Ev (List D)) : TA := fun σ H Q => ∃ α F ρ κ Bs, Wd G K α F H κ ∧ Sls K α F H Bs ρ σ ∧ POL G W K α F H Q (m ρ κ)
def tF (G : Gx) (W : XK) (K : PySem.W.Frag) (m : Ev (List D)) : TE := fun σ H Q => ∃ α F ρ κ Bs, Wd G K α F H κ ∧ Sls K α F H Bs ρ σ ∧ POF G W K α F H Q (m ρ κ)
structure PD (G : Gx) (W : XK) (X : Cx) (e : Expr) (m : Ev D) : Prop where
  run : PE X e (tD G W X.K m)
structure PDL (G : Gx) (W : XK) (X : Cx) (es : List Expr) (m : Ev (List D)) : Prop where
  run : PA X es (tL G W X.K m)
structure PF (G : Gx) (W : XK) (X : Cx) (e : Expr) (m : Ev (List D)) : Prop where
  run : PE X e (tF G W X.K m)
theorem pe_imp {X : Cx} {e : Expr} {t t' : TE} (h : PE X e t) (hi : ∀ σ H Q, t' σ H Q → t σ H Q) : PE X e t' := ⟨fun pins s σ H Q I q => h.run pins s σ H Q I (hi σ H Q q)⟩
theorem pt_imp {X : Cx} {e : Expr} {t t' : TT} (h : PT X e t) (hi : ∀ σ H Q, t' σ H Q → t σ H Q) : PT X e t' := ⟨fun pins s σ H Q I q => h.run pins s σ H Q I (hi σ H Q q)⟩
theorem pa_imp {X : Cx} {es : List Expr} {t t' : TA} (h : PA X es t) (hi : ∀ σ H Q, t' σ H Q → t σ H Q) : PA X es t' := ⟨fun pos pins s σ H Q I q => h.run pos pins s σ H Q I (hi σ H Q q)⟩
section
variable {G : Gx} {W : XK} {K : PySem.W.Frag} {α α' : List Addr} {F F' H H' : Hp} {κ : Ka} {Q : VK} {QL : List V → Hp → Prop} {σ : L2.St} {ρ : List Sl} {Bs : Hp}
theorem PO.gr {r : Re D} (g : Gr α F H α' F' H') (h : PO G W K α F H Q r) : PO G W K α' F' H' Q r := by
  rcases r with _ | ⟨o, κ'⟩
  · exact h
  · exact fun α2 F2 H2 g2 w2 => h α2 F2 H2 (g.trans g2) w2
theorem POL.gr {r : Re (List D)} (g : Gr α F H α' F' H') (h : POL G W K α F H QL r) : POL G W K α' F' H' QL r := by
  rcases r with _ | ⟨o, κ'⟩
  · exact h
  · exact fun α2 F2 H2 g2 w2 => h α2 F2 H2 (g.trans g2) w2
theorem POF.gr {r : Re (List D)} (g : Gr α F H α' F' H') (h : POF G W K α F H Q r) : POF G W K α' F' H' Q r := by
  rcases r with _ | ⟨o, κ'⟩
  · exact h
  · intro α2 F2 H2 g2 w2
    have := h α2 F2 H2 (g.trans g2) w2
    cases o with
    | er c => exact this
    | ok ds => exact fun a xs h1 h2 h3 h4 => this a xs h1 h2 h3 (by
        cases q : H a with
        | none => rfl
        | some o => exact absurd h4 (g.dm a (by rw [q]; simp)))
theorem PO.ok {d : D} {v : V} (w : Wd G K α F H κ) (h : PO G W K α F H Q (some (.ok d, κ))) (r : Rv K α F H d v) : Q v H := h α F H (Gr.refl _ _ _) w v r
/-- an expression, and what follows with its value -/
theorem tD_bind {m : Ev D} {f : D → Ka → Re D} (w : Wd G K α F H κ) (sl : Sls K α F H Bs ρ σ) (h : PO G W K α F H Q ((m ρ κ).bind f)) :
    tD G W K m σ H fun x H1 => ∃ α1 F1 κ1 d, Gr α F H α1 F1 H1 ∧ Wd G K α1 F1 H1 κ1 ∧ Sls K α1 F1 H1 Bs ρ σ ∧ Rv K α1 F1 H1 d x ∧ PO G W K α1 F1 H1 Q (f d κ1) := by
  refine ⟨α, F, ρ, κ, Bs, w, sl, ?_⟩
  rcases hm : m ρ κ with _ | ⟨o, κ'⟩
  · rw [hm] at h; exact h
  · rw [hm] at h
    cases o with
    | ok d => exact fun α' F' H' g w' v r => ⟨α', F', κ', d, g, w', sl.gr g, r, PO.gr g h⟩
    | er c => exact h
theorem tD_bindF {m : Ev D} {f : D → Ka → Re (List D)} (w : Wd G K α F H κ) (sl : Sls K α F H Bs ρ σ) (h : POF G W K α F H Q ((m ρ κ).bind f)) :
    tD G W K m σ H fun x H1 => ∃ α1 F1 κ1 d, Gr α F H α1 F1 H1 ∧ Wd G K α1 F1 H1 κ1 ∧ Sls K α1 F1 H1 Bs ρ σ ∧ Rv K α1 F1 H1 d x ∧ POF G W K α1 F1 H1 Q (f d κ1) := by
  refine ⟨α, F, ρ, κ, Bs, w, sl, ?_⟩
  rcases hm : m ρ κ with _ | ⟨o, κ'⟩
  · rw [hm] at h; exact h
  · rw [hm] at h
    cases o with
    | ok d => exact fun α' F' H' g w' v r => ⟨α', F', κ', d, g, w', sl.gr g, r, POF.gr g h⟩
    | er c => exact h
theorem tD_bindL {m : Ev D} {f : D → Ka → Re (List D)} (w : Wd G K α F H κ) (sl : Sls K α F H Bs ρ σ) (h : POL G W K α F H QL ((m ρ κ).bind f)) :
    tD G W K m σ H fun x H1 => ∃ α1 F1 κ1 d, Gr α F H α1 F1 H1 ∧ Wd G K α1 F1 H1 κ1 ∧ Sls K α1 F1 H1 Bs ρ σ ∧ Rv K α1 F1 H1 d x ∧ POL G W K α1 F1 H1 QL (f d κ1) := by
  refine ⟨α, F, ρ, κ, Bs, w, sl, ?_⟩
  rcases hm : m ρ κ with _ | ⟨o, κ'⟩
  · rw [hm] at h; exact h
  · rw [hm] at h
    cases o with
    | ok d => exact fun α' F' H' g w' v r => ⟨α', F', κ', d, g, w', sl.gr g, r, POL.gr g h⟩
    | er c => exact h
theorem tL_bind {m : Ev (List D)} {f : List D → Ka → Re D} (w : Wd G K α F H κ) (sl : Sls K α F H Bs ρ σ) (h : PO G W K α F H Q ((m ρ κ).bind f)) :
    tL G W K m σ H fun x H1 => ∃ α1 F1 κ1 d, Gr α F H α1 F1 H1 ∧ Wd G K α1 F1 H1 κ1 ∧ Sls K α1 F1 H1 Bs ρ σ ∧ RvL K α1 F1 H1 d x ∧ PO G W K α1 F1 H1 Q (f d κ1) := by
  refine ⟨α, F, ρ, κ, Bs, w, sl, ?_⟩
  rcases hm : m ρ κ with _ | ⟨o, κ'⟩
  · rw [hm] at h; exact h
  · rw [hm] at h
    cases o with
    | ok d => exact fun α' F' H' g w' v r => ⟨α', F', κ', d, g, w', sl.gr g, r, PO.gr g h⟩
    | er c => exact h
theorem tL_bindF {m : Ev (List D)} {f : List D → Ka → Re (List D)} (w : Wd G K α F H κ) (sl : Sls K α F H Bs ρ σ) (h : POF G W K α F H Q ((m ρ κ).bind f)) :
    tL G W K m σ H fun x H1 => ∃ α1 F1 κ1 d, Gr α F H α1 F1 H1 ∧ Wd G K α1 F1 H1 κ1 ∧ Sls K α1 F1 H1 Bs ρ σ ∧ RvL K α1 F1 H1 d x ∧ POF G W K α1 F1 H1 Q (f d κ1) := by
  refine ⟨α, F, ρ, κ, Bs, w, sl, ?_⟩
  rcases hm : m ρ κ with _ | ⟨o, κ'⟩
  · rw [hm] at h; exact h
  · rw [hm] at h
    cases o with
    | ok d => exact fun α' F' H' g w' v r => ⟨α', F', κ', d, g, w', sl.gr g, r, POF.gr g h⟩
    | er c => exact h
theorem tL_bindL {m : Ev (List D)} {f : List D → Ka → Re (List D)} (w : Wd G K α F H κ) (sl : Sls K α F H Bs ρ σ) (h : POL G W K α F H QL ((m ρ κ).bind f)) :
    tL G W K m σ H fun x H1 => ∃ α1 F1 κ1 d, Gr α F H α1 F1 H1 ∧ Wd G K α1 F1 H1 κ1 ∧ Sls K α1 F1 H1 Bs ρ σ ∧ RvL K α1 F1 H1 d x ∧ POL G W K α1 F1 H1 QL (f d κ1) := by
  refine ⟨α, F, ρ, κ, Bs, w, sl, ?_⟩
  rcases hm : m ρ κ with _ | ⟨o, κ'⟩
  · rw [hm] at h; exact h
  · rw [hm] at h
    cases o with
    | ok d => exact fun α' F' H' g w' v r => ⟨α', F', κ', d, g, w', sl.gr g, r, POL.gr g h⟩
    | er c => exact h
/-! ### a new tuple, a new list -/
theorem Gr.new {p : Addr} {o : HO} (w : Wd G K α F H κ) (h : H p = none) : Gr α F H α (upd F p o) (upd H p o) ∧ Wd G K α (upd F p o) (upd H p o) κ := by
  have fp : F p = none := w.sub.free h
  have ne : ∀ a, H a ≠ none → a ≠ p := fun a n e => n (e ▸ h)
  refine ⟨⟨⟨[], by simp, by simp⟩, fun b u e => ?_, fun a f n => ?_, fun a u e n => ?_, fun a n => ?_⟩, ⟨fun b u e => ?_, w.len, w.inj, fun a m => ?_, fun n a c e1 e2 => ?_⟩⟩
  · rw [upd_ne (ne_of_none e fp)]; exact e
  · rw [upd_ne (ne a n)]; exact f
  · rw [upd_ne (ne a (by rw [e]; simp))]; exact e
  · rw [upd_ne (ne a n)]; exact n
  · by_cases hb : b = p
    · subst hb; rw [upd_same] at e ⊢; exact e
    · rw [upd_ne hb] at e ⊢; exact w.sub _ _ e
  · rw [upd_ne (ne a (w.dom m))]; exact w.fre a m
  · have m := List.mem_of_getElem? e1
    have := (w.cel n a c e1 e2).keep (β := []) (F' := upd F p o) (H' := upd H p o) (fun b u e => by rw [upd_ne (ne_of_none e fp)]; exact e) (upd_ne (ne a (w.dom m)))
    rwa [List.append_nil] at this
/-- a new list that is not yet data -/
theorem Gr.newH {p : Addr} {o : HO} (w : Wd G K α F H κ) (h : H p = none) : Gr α F H α F (upd H p o) ∧ Wd G K α F (upd H p o) κ := by
  have fp : F p = none := w.sub.free h
  have ne : ∀ a, H a ≠ none → a ≠ p := fun a n e => n (e ▸ h)
  refine ⟨⟨⟨[], by simp, by simp⟩, Same.refl _, fun a f n => f, fun a u e n => ?_, fun a n => ?_⟩, ⟨fun b u e => ?_, w.len, w.inj, w.fre, fun n a c e1 e2 => ?_⟩⟩
  · rw [upd_ne (ne a (by rw [e]; simp))]; exact e
  · rw [upd_ne (ne a n)]; exact n
  · rw [upd_ne (ne b (by rw [w.sub _ _ e]; simp))]; exact w.sub _ _ e
  · have m := List.mem_of_getElem? e1
    have := (w.cel n a c e1 e2).keep (β := []) (F' := F) (H' := upd H p o) (Same.refl _) (upd_ne (ne a (w.dom m)))
    rwa [List.append_nil] at this
/-- a list of the heap becomes data -/
theorem Gr.frz {p : Addr} {o : HO} (w : Wd G K α F H κ) (h : H p = some o) (n : p ∉ α) (f : F p = none) {H0 : Hp} {α0 : List Addr} {F0 : Hp} (g : Gr α0 F0 H0 α F H) (hn : H0 p = none) :
    Gr α0 F0 H0 α (upd F p o) H ∧ Wd G K α (upd F p o) H κ := by
  have sm : Same F (upd F p o) := fun b u e => by rw [upd_ne (ne_of_none e f)]; exact e
  refine ⟨⟨g.al, g.fr.trans sm, fun a f' n' => ?_, g.ke, g.dm⟩, ⟨fun b u e => ?_, w.len, w.inj, fun a m => ?_, fun k a c e1 e2 => ?_⟩⟩
  · rw [upd_ne (fun (e : a = p) => n' (e ▸ hn))]; exact g.fn a f' n'
  · by_cases hb : b = p
    · subst hb; rw [upd_same] at e; cases e; exact h
    · rw [upd_ne hb] at e; exact w.sub _ _ e
  · rw [upd_ne (fun (e : a = p) => n (e ▸ m))]; exact w.fre a m
  · have := (w.cel k a c e1 e2).keep (β := []) (F' := upd F p o) (H' := H) sm rfl
    rwa [List.append_nil] at this
end
end DL
set_option Elab.async false
set_option linter.all false
set_option maxRecDepth 100000
set_option maxHeartbeats 4000000
/-! DL2: expressions. -/
namespace DL
open PySem PySem.Spec PyProof.Rows L2

/-! ### equality of data, as the library tells it -/
mutual
def D.py : D → PyData
  | .non => .none | .bl b => .bool b | .int i => .int i | .str x => .str x
  | .tup ds => .tuple (D.pys ds) | .lst ds => .list (D.pys ds) | .bor ds => .list (D.pys ds) | .obj _ => .none | .rol ds => .list (D.pys ds)
def D.pys : List D → List PyData
  | [] => []
  | d :: ds => D.py d :: D.pys ds
end
mutual
def D.nob : D → Bool
  | .non => true | .bl _ => true | .int _ => true | .str _ => true
  | .tup ds => D.nobs ds | .lst ds => D.nobs ds | .bor ds => D.nobs ds | .obj _ => false | .rol ds => D.nobs ds
def D.nobs : List D → Bool
  | [] => true
  | d :: ds => D.nob d && D.nobs ds
end
def D.fit (d : D) : Bool := D.nob d && SeqAt.shaped (D.py d)
def eqD (d e : D) : Option Bool := if D.fit d && D.fit e then some (PyData.eqv (D.py d) (D.py e)) else none
section
variable {K : PySem.W.Frag} {α : List Addr} {F H : Hp}
theorem SqL.of_sub (s : Same F H) {a : Addr} {xs : List V} (h : F a = some (.lst xs)) : SqL K H a xs := .inl (.inl (s _ _ h))
mutual
theorem Rp.dp (s : Same F H) : ∀ (d : D) (v : V), Rp K α F d v → D.nob d = true → Dp K H v (D.py d)
  | .non, _, r, _ => by cases r; simp only [D.py]; exact .non
  | .bl b, _, r, _ => by cases r; simp only [D.py]; exact .bl _
  | .int i, _, r, _ => by cases r; simp only [D.py]; exact .int _
  | .str x, _, r, _ => by cases r; simp only [D.py]; exact .str _
  | .tup ds, _, r, n => by
    cases r with
    | tup h q => simp only [D.py]; exact .tup (same_tup s h) (RpL.dp s ds _ q (by simpa only [D.nob] using n))
  | .lst ds, _, r, n => by
    cases r with
    | lst h q => simp only [D.py]; exact .lst (SqL.of_sub s h) (RpL.dp s ds _ q (by simpa only [D.nob] using n))
  | .bor ds, _, r, _ => by cases r
  | .obj n, _, r, h => by simp [D.nob] at h
  | .rol ds, _, r, n => by
    cases r with
    | rol h q => simp only [D.py]; exact .lst (Same.seq s h) (RpL.dp s ds _ q (by simpa only [D.nob] using n))
theorem RpL.dp (s : Same F H) : ∀ (ds : List D) (vs : List V), RpL K α F ds vs → D.nobs ds = true → DpAll K H vs (D.pys ds)
  | [], _, r, _ => by cases r; simp only [D.pys]; exact .nil
  | d :: ds, _, r, n => by
    have n' : D.nob d = true ∧ D.nobs ds = true := by simpa only [D.nobs, Bool.and_eq_true] using n
    cases r with
    | cons h t => simp only [D.pys]; exact .cons (Rp.dp s d _ h n'.1) (RpL.dp s ds _ t n'.2)
end
theorem Rv.dp (s : Same F H) {d : D} {v : V} (r : Rv K α F H d v) (n : D.nob d = true) : Dp K H v (D.py d) := by
  cases d with
  | bor ds =>
    obtain ⟨a, xs, rfl, h, _, _, q⟩ := r
    simp only [D.py]
    exact .lst (.inl (.inl h)) (RpL.dp s ds _ q (by simpa only [D.nob] using n))
  | _ => exact Rp.dp s _ _ r n
end

/-! ### meanings -/
def ret (d : D) (κ : Ka) : Re D := some (.ok d, κ)
def eVar (i : Nat) : Ev D := fun ρ κ => match ρ[i]? with
  | some (.val d) => some (.ok d, κ)
  | some (.own ds) => some (.ok (.bor ds), κ)
  | _ => none
def eC (d : D) : Ev D := fun _ κ => some (.ok d, κ)
def eBin (f : D → D → Ka → Re D) (ma mb : Ev D) : Ev D := fun ρ κ => (ma ρ κ).bind fun x κ1 => (mb ρ κ1).bind fun y κ2 => f x y κ2
def eUn (f : D → Ka → Re D) (ma : Ev D) : Ev D := fun ρ κ => (ma ρ κ).bind f
def rOf (o : Option D) (κ : Ka) : Re D := match o with
  | some d => some (.ok d, κ)
  | none => none
def rOfB (o : Option Bool) (κ : Ka) : Re Bool := match o with
  | some d => some (.ok d, κ)
  | none => none
/-- a pure operation -/
def eOp (f : D → D → Option D) (ma mb : Ev D) : Ev D := eBin (fun x y κ => rOf (f x y) κ) ma mb
def eCmp (c : D → D → Option Bool) (ma mb : Ev D) : Ev D := eBin (fun x y κ => rOf ((c x y).map D.bl) κ) ma mb
def bCmp (c : D → D → Option Bool) (ma mb : Ev D) : Ev Bool := fun ρ κ => (ma ρ κ).bind fun x κ1 => (mb ρ κ1).bind fun y κ2 => rOfB (c x y) κ2
def eChain (c c' : D → D → Option Bool) (ma mb mc : Ev D) : Ev D := fun ρ κ => (ma ρ κ).bind fun x κ1 => (mb ρ κ1).bind fun y κ2 => match c x y with
  | some true => (mc ρ κ2).bind fun z κ3 => rOf ((c' y z).map D.bl) κ3
  | some false => ret (.bl false) κ2
  | none => none
def bChain (c c' : D → D → Option Bool) (ma mb mc : Ev D) : Ev Bool := fun ρ κ => (ma ρ κ).bind fun x κ1 => (mb ρ κ1).bind fun y κ2 => match c x y with
  | some true => (mc ρ κ2).bind fun z κ3 => rOfB (c' y z) κ3
  | some false => some (.ok false, κ2)
  | none => none
/-- a value's truth -/
def truth (d : D) : Option Bool := match d with
  | .non => some false
  | .bl b => some b
  | .int i => some (i != 0)
  | .str x => if x.length ≤ 16777216 then some ((x.length : Int) != 0) else none
  | .tup ds => some (!ds.isEmpty)
  | .lst ds => some (!ds.isEmpty)
  | .bor ds => some (!ds.isEmpty)
  | .rol ds => some (!ds.isEmpty)
  | .obj _ => none
def bOf (m : Ev D) : Ev Bool := fun ρ κ => (m ρ κ).bind fun d κ1 => rOfB (truth d) κ1
def bAnd (m n : Ev Bool) : Ev Bool := fun ρ κ => (m ρ κ).bind fun b κ1 => if b = true then n ρ κ1 else some (.ok false, κ1)
def bOr (m n : Ev Bool) : Ev Bool := fun ρ κ => (m ρ κ).bind fun b κ1 => if b = true then some (.ok true, κ1) else n ρ κ1
def bNot (m : Ev Bool) : Ev Bool := fun ρ κ => (m ρ κ).bind fun b κ1 => some (.ok (!b), κ1)
/-- and, or, not as values -/
def eAnd (m n : Ev D) : Ev D := fun ρ κ => (m ρ κ).bind fun d κ1 => match truth d with
  | some true => n ρ κ1
  | some false => ret d κ1
  | none => none
def eOr (m n : Ev D) : Ev D := fun ρ κ => (m ρ κ).bind fun d κ1 => match truth d with
  | some true => ret d κ1
  | some false => n ρ κ1
  | none => none
def eNot (m : Ev D) : Ev D := fun ρ κ => (m ρ κ).bind fun d κ1 => rOf ((truth d).map fun b => .bl (!b)) κ1
def eIf (c : Ev Bool) (m n : Ev D) : Ev D := fun ρ κ => (c ρ κ).bind fun b κ1 => if b = true then m ρ κ1 else n ρ κ1
def aNil : Ev (List D) := fun _ κ => some (.ok [], κ)
def aCons (m : Ev D) (n : Ev (List D)) : Ev (List D) := fun ρ κ => (m ρ κ).bind fun d κ1 => (n ρ κ1).bind fun ds κ2 => some (.ok (d :: ds), κ2)
def eTup (n : Ev (List D)) : Ev D := fun ρ κ => (n ρ κ).bind fun ds κ1 => if noBor ds = true ∧ ds.length ≤ 16777216 then ret (.tup ds) κ1 else none
def fLst (n : Ev (List D)) : Ev (List D) := fun ρ κ => (n ρ κ).bind fun ds κ1 => if noBor ds = true ∧ ds.length ≤ 16777216 then some (.ok ds, κ1) else none
/-- a new list as data -/
def eFr (m : Ev (List D)) : Ev D := fun ρ κ => (m ρ κ).bind fun ds κ1 => ret (.lst ds) κ1
/-- a new list as a thing of the store -/
def eSt (m : Ev (List D)) : Ev D := fun ρ κ => (m ρ κ).bind fun ds κ1 => some (.ok (.obj κ1.length), κ1 ++ [.lst ds])
def eCall (ar : Nat) (f : List D → Ka → Re D) (n : Ev (List D)) : Ev D := fun ρ κ => (n ρ κ).bind fun ds κ1 => if ds.length = ar then f ds κ1 else none

/-! ### tests -/
def POB (G : Gx) (W : XK) (K : PySem.W.Frag) (α : List Addr) (F H : Hp) (Q : Bool → Hp → Prop) : Re Bool → Prop
  | none => False
  | some (o, κ') => ∀ α' F' H', Gr α F H α' F' H' → Wd G K α' F' H' κ' → match o with
    | .ok d => Q d H'
    | .er c => W (.ref (G.exc c)) none H'
def tT (G : Gx) (W : XK) (K : PySem.W.Frag) (m : Ev Bool) : TT := fun σ H Q => ∃ α F ρ κ Bs, Wd G K α F H κ ∧ Sls K α F H Bs ρ σ ∧ POB G W K α F H Q (m ρ κ)
structure PB (G : Gx) (W : XK) (X : Cx) (e : Expr) (m : Ev Bool) : Prop where
  run : PT X e (tT G W X.K m)
structure PBW (G : Gx) (W : XK) (X : Cx) (e : Expr) (m : Ev Bool) : Prop where
  run : PW X e (tT G W X.K m)
section
variable {G : Gx} {W : XK} {K : PySem.W.Frag} {α α' : List Addr} {F F' H H' : Hp} {κ : Ka} {Q : VK} {QB : Bool → Hp → Prop} {QL : List V → Hp → Prop} {σ : L2.St} {ρ : List Sl} {Bs : Hp}
theorem POB.gr {r : Re Bool} (g : Gr α F H α' F' H') (h : POB G W K α F H QB r) : POB G W K α' F' H' QB r := by
  rcases r with _ | ⟨o, κ'⟩
  · exact h
  · exact fun α2 F2 H2 g2 w2 => h α2 F2 H2 (g.trans g2) w2
theorem tD_bindB {m : Ev D} {f : D → Ka → Re Bool} (w : Wd G K α F H κ) (sl : Sls K α F H Bs ρ σ) (h : POB G W K α F H QB ((m ρ κ).bind f)) :
    tD G W K m σ H fun x H1 => ∃ α1 F1 κ1 d, Gr α F H α1 F1 H1 ∧ Wd G K α1 F1 H1 κ1 ∧ Sls K α1 F1 H1 Bs ρ σ ∧ Rv K α1 F1 H1 d x ∧ POB G W K α1 F1 H1 QB (f d κ1) := by
  refine ⟨α, F, ρ, κ, Bs, w, sl, ?_⟩
  rcases hm : m ρ κ with _ | ⟨o, κ'⟩
  · rw [hm] at h; exact h
  · rw [hm] at h
    cases o with
    | ok d => exact fun α' F' H' g w' v r => ⟨α', F', κ', d, g, w', sl.gr g, r, POB.gr g h⟩
    | er c => exact h
theorem tT_bind {m : Ev Bool} {f : Bool → Ka → Re D} (w : Wd G K α F H κ) (sl : Sls K α F H Bs ρ σ) (h : PO G W K α F H Q ((m ρ κ).bind f)) :
    tT G W K m σ H fun b H1 => ∃ α1 F1 κ1, Gr α F H α1 F1 H1 ∧ Wd G K α1 F1 H1 κ1 ∧ Sls K α1 F1 H1 Bs ρ σ ∧ PO G W K α1 F1 H1 Q (f b κ1) := by
  refine ⟨α, F, ρ, κ, Bs, w, sl, ?_⟩
  rcases hm : m ρ κ with _ | ⟨o, κ'⟩
  · rw [hm] at h; exact h
  · rw [hm] at h
    cases o with
    | ok d => exact fun α' F' H' g w' => ⟨α', F', κ', g, w', sl.gr g, PO.gr g h⟩
    | er c => exact h
theorem tT_bindB {m : Ev Bool} {f : Bool → Ka → Re Bool} (w : Wd G K α F H κ) (sl : Sls K α F H Bs ρ σ) (h : POB G W K α F H QB ((m ρ κ).bind f)) :
    tT G W K m σ H fun b H1 => ∃ α1 F1 κ1, Gr α F H α1 F1 H1 ∧ Wd G K α1 F1 H1 κ1 ∧ Sls K α1 F1 H1 Bs ρ σ ∧ POB G W K α1 F1 H1 QB (f b κ1) := by
  refine ⟨α, F, ρ, κ, Bs, w, sl, ?_⟩
  rcases hm : m ρ κ with _ | ⟨o, κ'⟩
  · rw [hm] at h; exact h
  · rw [hm] at h
    cases o with
    | ok d => exact fun α' F' H' g w' => ⟨α', F', κ', g, w', sl.gr g, POB.gr g h⟩
    | er c => exact h
theorem PO.now {d : D} {v : V} (w : Wd G K α F H κ) (h : PO G W K α F H Q (ret d κ)) (r : Rv K α F H d v) : Q v H := h α F H (Gr.refl _ _ _) w v r
theorem POB.now {b : Bool} (w : Wd G K α F H κ) (h : POB G W K α F H QB (some (.ok b, κ))) : QB b H := h α F H (Gr.refl _ _ _) w
theorem POL.now {ds : List D} {vs : List V} (w : Wd G K α F H κ) (h : POL G W K α F H QL (some (.ok ds, κ))) (r : RvL K α F H ds vs) : QL vs H := h α F H (Gr.refl _ _ _) w vs r
end

theorem PO.mono {G : Gx} {W : XK} {K : PySem.W.Frag} {α : List Addr} {F H : Hp} {Q Q' : VK} {r : Re D} (hq : ∀ v H, Q v H → Q' v H) (h : PO G W K α F H Q r) : PO G W K α F H Q' r := by
  rcases r with _ | ⟨o, κ'⟩
  · exact h
  · cases o with
    | er c => exact h
    | ok d => exact fun α' F' H' g w v r => hq v H' (h α' F' H' g w v r)
theorem tD_mono {G : Gx} {W : XK} {K : PySem.W.Frag} {m : Ev D} {σ : L2.St} {H : Hp} {Q Q' : VK} (hq : ∀ v H, Q v H → Q' v H) (h : tD G W K m σ H Q) : tD G W K m σ H Q' := by
  obtain ⟨α, F, ρ, κ, Bs, w, sl, h⟩ := h
  exact ⟨α, F, ρ, κ, Bs, w, sl, h.mono hq⟩
theorem tL_mono {G : Gx} {W : XK} {K : PySem.W.Frag} {m : Ev (List D)} {σ : L2.St} {H : Hp} {Q Q' : List V → Hp → Prop} (hq : ∀ v H, Q v H → Q' v H) (h : tL G W K m σ H Q) : tL G W K m σ H Q' := by
  obtain ⟨α, F, ρ, κ, Bs, w, sl, h⟩ := h
  refine ⟨α, F, ρ, κ, Bs, w, sl, ?_⟩
  rcases hm : m ρ κ with _ | ⟨o, κ'⟩
  · rw [hm] at h; exact h
  · rw [hm] at h
    cases o with
    | er c => exact h
    | ok d => exact fun α' F' H' g w v r => hq v H' (h α' F' H' g w v r)
theorem tT_mono {G : Gx} {W : XK} {K : PySem.W.Frag} {m : Ev Bool} {σ : L2.St} {H : Hp} {Q Q' : Bool → Hp → Prop} (hq : ∀ v H, Q v H → Q' v H) (h : tT G W K m σ H Q) : tT G W K m σ H Q' := by
  obtain ⟨α, F, ρ, κ, Bs, w, sl, h⟩ := h
  refine ⟨α, F, ρ, κ, Bs, w, sl, ?_⟩
  rcases hm : m ρ κ with _ | ⟨o, κ'⟩
  · rw [hm] at h; exact h
  · rw [hm] at h
    cases o with
    | er c => exact h
    | ok d => exact fun α' F' H' g w => hq d H' (h α' F' H' g w)

section
variable {G : Gx} {W : XK} {X : Cx} {e a b c : Expr} {es : List Expr} {m ma mb mc : Ev D} {n : Ev (List D)} {pos : Pos}
theorem pd_var (i : Nat) {x : Str} (hN : X.N[i]? = some x := by rfl) (hv : Vis X.env.scope x := by first | exact Or.inl rfl | exact Or.inr (Or.inl rfl) | exact Or.inr (Or.inr rfl)) (hd : (x == ("__debug__" : Str)) = false := by decide)
    (hcd : (x == ("__classdict__" : Str)) = false := by decide) : PD G W X (.Name x pos) (eVar i) := ⟨pe_imp (pe_var hN hv hd hcd) fun σ H Q ⟨α, F, ρ, κ, Bs, w, sl, h⟩ => by
  unfold eVar at h
  rcases hr : ρ[i]? with _ | s
  · rw [hr] at h; exact h.elim
  · rw [hr] at h
    obtain ⟨o, ho, so⟩ := sl.at' i s hr
    cases s with
    | no => exact h.elim
    | val d =>
      obtain ⟨v, rfl, r, _⟩ := so
      exact ⟨v, ho, PO.now w h r⟩
    | own ds =>
      obtain ⟨a, xs, rfl, h1, h2, h3, _, r⟩ := so
      exact ⟨.ref a, ho, PO.now w h ⟨a, xs, rfl, h1, h3, h2, r⟩⟩⟩
theorem pd_int {i : Int} {j : Nat} : PD G W X (.Constant (.int i) j pos) (eC (.int i)) := ⟨pe_imp pe_int fun σ H Q ⟨α, F, ρ, κ, Bs, w, sl, h⟩ => PO.now w h (.int i)⟩
theorem pd_bl {i : Bool} {j : Nat} : PD G W X (.Constant (.bool i) j pos) (eC (.bl i)) := ⟨pe_imp pe_bl fun σ H Q ⟨α, F, ρ, κ, Bs, w, sl, h⟩ => PO.now w h (.bl i)⟩
theorem pd_non {j : Nat} : PD G W X (.Constant .none j pos) (eC .non) := ⟨pe_imp pe_non fun σ H Q ⟨α, F, ρ, κ, Bs, w, sl, h⟩ => PO.now w h .non⟩
theorem pd_str {i : Str} {j : Nat} : PD G W X (.Constant (.str i) j pos) (eC (.str i)) := ⟨pe_imp pe_str fun σ H Q ⟨α, F, ρ, κ, Bs, w, sl, h⟩ => PO.now w h (.str i)⟩
theorem pd_glob {x : Str} {v : V} {u : Value} {d : D} (hg : Gl X x) (hm : X.mg x = some u) (r : RelV v u) (hd : ∀ α F, Rp X.K α F d v) (hdb : (x == ("__debug__" : Str)) = false := by decide) : PD G W X (.Name x pos) (eC d) :=
  ⟨pe_imp (pe_glob hg hm r hdb) fun σ H Q ⟨α, F, ρ, κ, Bs, w, sl, h⟩ => PO.now w h (hd α F).rv⟩

/-- an operator by what its meaning makes of data -/
def OpD (X : Cx) (r : R2) (f : D → D → Option D) : Prop := ∀ (G : Gx) (W : XK) (α : List Addr) (F H : Hp) (κ : Ka) (Q : VK) (d e : D) (x y : V), Wd G X.K α F H κ → Rv X.K α F H d x → Rv X.K α F H e y → PO G W X.K α F H Q (rOf (f d e) κ) → r x y H Q
theorem pd_op {op : Operator} {r : R2} {f : D → D → Option D} (ho : OpR X (binaryOp op) r) (hf : OpD X r f) (ha : PD G W X a ma) (hb : PD G W X b mb) : PD G W X (.BinOp a op b pos) (eOp f ma mb) :=
  ⟨pe_imp (pe_op ho ha.run hb.run) fun σ H Q ⟨α, F, ρ, κ, Bs, w, sl, h⟩ =>
    tD_mono (fun x H1 ⟨α1, F1, κ1, d, g1, w1, sl1, r1, h1⟩ => tD_mono (fun y H2 ⟨α2, F2, κ2, e, g2, w2, sl2, r2, h2⟩ => hf G W α2 F2 H2 κ2 Q d e x y w2 (r1.gr g2) r2 h2) (tD_bind w1 sl1 h1)) (tD_bind w sl h)⟩
theorem pd_un {op : UnaryOp} {r : V → Hp → VK → Prop} {f : D → Option D} (ho : UnR X (unaryOp op) r)
    (hf : ∀ (G : Gx) (W : XK) (α : List Addr) (F H : Hp) (κ : Ka) (Q : VK) (d : D) (x : V), Wd G X.K α F H κ → Rv X.K α F H d x → PO G W X.K α F H Q (rOf (f d) κ) → r x H Q) (ha : PD G W X a ma) : PD G W X (.UnaryOp op a pos) (eUn (fun d κ => rOf (f d) κ) ma) :=
  ⟨pe_imp (pe_un ho ha.run) fun σ H Q ⟨α, F, ρ, κ, Bs, w, sl, h⟩ =>
    tD_mono (fun x H1 ⟨α1, F1, κ1, d, g1, w1, sl1, r1, h1⟩ => hf G W α1 F1 H1 κ1 Q d x w1 r1 h1) (tD_bind w sl h)⟩
/-- a comparison by what its meaning makes of data -/
def CmpD (X : Cx) (r : R2) (c : D → D → Option Bool) : Prop := ∀ (G : Gx) (α : List Addr) (F H : Hp) (κ : Ka) (Q : VK) (d e : D) (x y : V) (b : Bool), Wd G X.K α F H κ → Rv X.K α F H d x → Rv X.K α F H e y → c d e = some b → Q (.bl b) H → r x y H Q
theorem PO.bl {G : Gx} {W : XK} {K : PySem.W.Frag} {α : List Addr} {F H : Hp} {κ : Ka} {Q : VK} {o : Option Bool} (w : Wd G K α F H κ) (h : PO G W K α F H Q (rOf (o.map D.bl) κ)) : ∃ b, o = some b ∧ Q (.bl b) H := by
  cases o with
  | none => exact h.elim
  | some b => exact ⟨b, rfl, PO.now w h (.bl b)⟩
theorem POB.bl {G : Gx} {W : XK} {K : PySem.W.Frag} {α : List Addr} {F H : Hp} {κ : Ka} {Q : Bool → Hp → Prop} {o : Option Bool} (w : Wd G K α F H κ) (h : POB G W K α F H Q (rOfB o κ)) : ∃ b, o = some b ∧ Q b H := by
  cases o with
  | none => exact h.elim
  | some b => exact ⟨b, rfl, POB.now w h⟩
theorem pd_cmp {op : CmpOp} {r : R2} {f : D → D → Option Bool} (ho : OpR X (compareOp op) r) (hf : CmpD X r f) (ha : PD G W X a ma) (hb : PD G W X b mb) (hm : behindInMarks op b = false := by first | exact nomark _ | rfl) : PD G W X (.Compare a [op] [b] pos) (eCmp f ma mb) :=
  ⟨pe_imp (pe_cmpR ho ha.run hb.run hm) fun σ H Q ⟨α, F, ρ, κ, Bs, w, sl, h⟩ =>
    tD_mono (fun x H1 ⟨α1, F1, κ1, d, g1, w1, sl1, r1, h1⟩ => tD_mono (fun y H2 ⟨α2, F2, κ2, e, g2, w2, sl2, r2, h2⟩ => by
      obtain ⟨k, e1, q⟩ := PO.bl w2 h2
      exact hf G α2 F2 H2 κ2 Q d e x y k w2 (r1.gr g2) r2 e1 q) (tD_bind w1 sl1 h1)) (tD_bind w sl h)⟩
theorem pb_cmp {op : CmpOp} {r : R2} {f : D → D → Option Bool} (ho : OpR X (compareOp op) r) (hf : CmpD X r f) (ha : PD G W X a ma) (hb : PD G W X b mb) (hm : behindInMarks op b = false := by first | exact nomark _ | rfl) : PB G W X (.Compare a [op] [b] pos) (bCmp f ma mb) :=
  ⟨pt_imp (pt_cmpR ho ha.run hb.run hm) fun σ H Q ⟨α, F, ρ, κ, Bs, w, sl, h⟩ =>
    tD_mono (fun x H1 ⟨α1, F1, κ1, d, g1, w1, sl1, r1, h1⟩ => tD_mono (fun y H2 ⟨α2, F2, κ2, e, g2, w2, sl2, r2, h2⟩ => by
      obtain ⟨k, e1, q⟩ := POB.bl w2 h2
      exact hf G α2 F2 H2 κ2 _ d e x y k w2 (r1.gr g2) r2 e1 ⟨k, rfl, q⟩) (tD_bindB w1 sl1 h1)) (tD_bindB w sl h)⟩
theorem pd_chain {op op' : CmpOp} {r r' : R2} {f f' : D → D → Option Bool} (ho : OpR X (compareOp op) r) (hf : CmpD X r f) (ho' : OpR X (compareOp op') r') (hf' : CmpD X r' f') (ha : PD G W X a ma) (hb : PD G W X b mb) (hc : PD G W X c mc) (hm : lastMarks [op, op'] [b, c] = false := by rfl) :
    PD G W X (.Compare a [op, op'] [b, c] pos) (eChain f f' ma mb mc) :=
  ⟨pe_imp (pe_chain ho ho' ha.run hb.run hc.run hm) fun σ H Q ⟨α, F, ρ, κ, Bs, w, sl, h⟩ =>
    tD_mono (fun x H1 ⟨α1, F1, κ1, d, g1, w1, sl1, r1, h1⟩ => tD_mono (fun y H2 ⟨α2, F2, κ2, e, g2, w2, sl2, r2, h2⟩ => by
      rcases hfe : f d e with _ | k
      · rw [hfe] at h2; exact h2.elim
      · rw [hfe] at h2
        refine hf G α2 F2 H2 κ2 _ d e x y k w2 (r1.gr g2) r2 hfe ⟨k, rfl, ?_⟩
        cases k with
        | false => rw [if_neg Bool.false_ne_true]; exact PO.now w2 h2 (.bl false)
        | true =>
          rw [if_pos rfl]
          refine tD_mono (fun z H3 ⟨α3, F3, κ3, u, g3, w3, sl3, r3, h3⟩ => ?_) (tD_bind w2 sl2 h2)
          obtain ⟨k, e1, q⟩ := PO.bl w3 h3
          exact hf' G α3 F3 H3 κ3 Q e u y z k w3 (r2.gr g3) r3 e1 q) (tD_bind w1 sl1 h1)) (tD_bind w sl h)⟩
theorem pb_chain {op op' : CmpOp} {r r' : R2} {f f' : D → D → Option Bool} (ho : OpR X (compareOp op) r) (hf : CmpD X r f) (ho' : OpR X (compareOp op') r') (hf' : CmpD X r' f') (ha : PD G W X a ma) (hb : PD G W X b mb) (hc : PD G W X c mc) (hm : lastMarks [op, op'] [b, c] = false := by rfl) :
    PB G W X (.Compare a [op, op'] [b, c] pos) (bChain f f' ma mb mc) :=
  ⟨pt_imp (pt_chain ho ho' ha.run hb.run hc.run hm) fun σ H Q ⟨α, F, ρ, κ, Bs, w, sl, h⟩ =>
    tD_mono (fun x H1 ⟨α1, F1, κ1, d, g1, w1, sl1, r1, h1⟩ => tD_mono (fun y H2 ⟨α2, F2, κ2, e, g2, w2, sl2, r2, h2⟩ => by
      rcases hfe : f d e with _ | k
      · rw [hfe] at h2; exact h2.elim
      · rw [hfe] at h2
        refine hf G α2 F2 H2 κ2 _ d e x y k w2 (r1.gr g2) r2 hfe ⟨k, rfl, ?_⟩
        cases k with
        | false => rw [if_neg Bool.false_ne_true]; exact ⟨false, rfl, POB.now w2 h2⟩
        | true =>
          rw [if_pos rfl]
          refine tD_mono (fun z H3 ⟨α3, F3, κ3, u, g3, w3, sl3, r3, h3⟩ => ?_) (tD_bindB w2 sl2 h2)
          obtain ⟨k, e1, q⟩ := POB.bl w3 h3
          exact hf' G α3 F3 H3 κ3 _ e u y z k w3 (r2.gr g3) r3 e1 ⟨k, rfl, q⟩) (tD_bindB w1 sl1 h1)) (tD_bindB w sl h)⟩
/-! ### truth -/
theorem tru_of {K : PySem.W.Frag} {G : Gx} {α : List Addr} {F H : Hp} {κ : Ka} {d : D} {x : V} {b : Bool} (w : Wd G K α F H κ) (r : Rv K α F H d x) (h : truth d = some b) : TruV K x H b := by
  cases d with
  | non => cases r; cases h; rfl
  | bl c => cases r; cases h; rfl
  | int i => cases r; cases h; rfl
  | str y =>
    cases r
    simp only [truth] at h
    split at h
    · rename_i hl
      cases h
      exact ⟨by rw [sizeLine_eq]; exact hl, rfl⟩
    · cases h
  | tup ds =>
    cases h
    cases r with
    | tup hs q => exact .inr (.inl ⟨_, same_tup w.sub hs, by cases q <;> rfl⟩)
  | lst ds =>
    cases h
    cases r with
    | lst hs q => exact .inl ⟨_, SqL.of_sub w.sub hs, by cases q <;> rfl⟩
  | bor ds =>
    cases h
    obtain ⟨a, xs, rfl, h1, _, _, q⟩ := r
    exact .inl ⟨_, SqL.of h1, by cases q <;> rfl⟩
  | rol ds =>
    cases h
    cases r with
    | rol hs q => exact .inl ⟨_, Same.seq w.sub hs, by cases q <;> rfl⟩
  | obj n => cases h
theorem pb_of (ha : PD G W X a ma) (he : ∀ whole, isTrue a X.env whole = (do let v ← whole; standAt a.pos; holding [v] (truthy v)) := by intro _; rfl) : PB G W X a (bOf ma) :=
  ⟨pt_imp (pt_truth ha.run he) fun σ H Q ⟨α, F, ρ, κ, Bs, w, sl, h⟩ =>
    tD_mono (fun x H1 ⟨α1, F1, κ1, d, g1, w1, sl1, r1, h1⟩ => by
      obtain ⟨k, e1, q⟩ := POB.bl w1 h1
      exact ⟨k, tru_of w1 r1 e1, q⟩) (tD_bindB w sl h)⟩
variable {rest : List Expr} {na nb : Ev Bool}
theorem PBW.pb {e : Expr} {m : Ev Bool} (h : PBW G W X e m) : PB G W X e m := ⟨h.run.pt⟩
theorem pw_imp {e : Expr} {t t' : TT} (h : PW X e t) (hi : ∀ σ H Q, t' σ H Q → t σ H Q) : PW X e t' := ⟨fun wh pins s σ H Q I q => h.run wh pins s σ H Q I (hi σ H Q q)⟩
theorem pbw_and1 (ha : PB G W X a na) : PBW G W X (.BoolOp .And [a] pos) na := ⟨pw_and1 ha.run⟩
theorem pbw_or1 (ha : PB G W X a na) : PBW G W X (.BoolOp .Or [a] pos) na := ⟨pw_or1 ha.run⟩
theorem pbw_and (ha : PB G W X a na) (hb : PBW G W X (.BoolOp .And (b :: rest) pos) nb) : PBW G W X (.BoolOp .And (a :: b :: rest) pos) (bAnd na nb) :=
  ⟨pw_imp (pw_and ha.run hb.run) fun σ H Q ⟨α, F, ρ, κ, Bs, w, sl, h⟩ =>
    tT_mono (fun k H1 ⟨α1, F1, κ1, g1, w1, sl1, h1⟩ => by
      cases k with
      | true => exact ⟨α1, F1, ρ, κ1, Bs, w1, sl1, h1⟩
      | false => exact POB.now w1 h1) (tT_bindB w sl h)⟩
theorem pbw_or (ha : PB G W X a na) (hb : PBW G W X (.BoolOp .Or (b :: rest) pos) nb) : PBW G W X (.BoolOp .Or (a :: b :: rest) pos) (bOr na nb) :=
  ⟨pw_imp (pw_or ha.run hb.run) fun σ H Q ⟨α, F, ρ, κ, Bs, w, sl, h⟩ =>
    tT_mono (fun k H1 ⟨α1, F1, κ1, g1, w1, sl1, h1⟩ => by
      cases k with
      | false => exact ⟨α1, F1, ρ, κ1, Bs, w1, sl1, h1⟩
      | true => exact POB.now w1 h1) (tT_bindB w sl h)⟩
theorem pb_not (ha : PB G W X a na) : PB G W X (.UnaryOp .Not a pos) (bNot na) :=
  ⟨pt_imp (pt_not ha.run) fun σ H Q ⟨α, F, ρ, κ, Bs, w, sl, h⟩ =>
    tT_mono (fun k H1 ⟨α1, F1, κ1, g1, w1, sl1, h1⟩ => POB.now w1 h1) (tT_bindB w sl h)⟩
theorem pd_one {op : BoolOp} (ha : PD G W X a ma) : PD G W X (.BoolOp op [a] pos) ma := ⟨pe_one ha.run⟩
theorem pd_and (ha : PD G W X a ma) (hb : PD G W X (.BoolOp .And (b :: rest) pos) mb) : PD G W X (.BoolOp .And (a :: b :: rest) pos) (eAnd ma mb) :=
  ⟨pe_imp (pe_andT ha.run hb.run) fun σ H Q ⟨α, F, ρ, κ, Bs, w, sl, h⟩ =>
    tD_mono (fun x H1 ⟨α1, F1, κ1, d, g1, w1, sl1, r1, h1⟩ => by
      rcases ht : truth d with _ | k
      · rw [ht] at h1; exact h1.elim
      · rw [ht] at h1
        refine ⟨k, tru_of w1 r1 ht, ?_⟩
        cases k with
        | true => exact iteT ⟨α1, F1, ρ, κ1, Bs, w1, sl1, h1⟩
        | false => exact iteF (PO.now w1 h1 r1)) (tD_bind w sl h)⟩
theorem pd_or (ha : PD G W X a ma) (hb : PD G W X (.BoolOp .Or (b :: rest) pos) mb) : PD G W X (.BoolOp .Or (a :: b :: rest) pos) (eOr ma mb) :=
  ⟨pe_imp (pe_orT ha.run hb.run) fun σ H Q ⟨α, F, ρ, κ, Bs, w, sl, h⟩ =>
    tD_mono (fun x H1 ⟨α1, F1, κ1, d, g1, w1, sl1, r1, h1⟩ => by
      rcases ht : truth d with _ | k
      · rw [ht] at h1; exact h1.elim
      · rw [ht] at h1
        refine ⟨k, tru_of w1 r1 ht, ?_⟩
        cases k with
        | false => exact iteF ⟨α1, F1, ρ, κ1, Bs, w1, sl1, h1⟩
        | true => exact iteT (PO.now w1 h1 r1)) (tD_bind w sl h)⟩
theorem pd_not (ha : PD G W X a ma) : PD G W X (.UnaryOp .Not a pos) (eNot ma) :=
  ⟨pe_imp (pe_notT ha.run) fun σ H Q ⟨α, F, ρ, κ, Bs, w, sl, h⟩ =>
    tD_mono (fun x H1 ⟨α1, F1, κ1, d, g1, w1, sl1, r1, h1⟩ => by
      rcases ht : truth d with _ | k
      · rw [ht] at h1; exact h1.elim
      · rw [ht] at h1
        exact ⟨k, tru_of w1 r1 ht, PO.now w1 h1 (.bl _)⟩) (tD_bind w sl h)⟩
theorem pd_if (hc : PB G W X c na) (ha : PD G W X a ma) (hb : PD G W X b mb) : PD G W X (.IfExp c a b pos) (eIf na ma mb) :=
  ⟨pe_imp (pe_ifExp hc.run ha.run hb.run) fun σ H Q ⟨α, F, ρ, κ, Bs, w, sl, h⟩ =>
    tT_mono (fun k H1 ⟨α1, F1, κ1, g1, w1, sl1, h1⟩ => by
      cases k with
      | true => exact ⟨α1, F1, ρ, κ1, Bs, w1, sl1, h1⟩
      | false => exact ⟨α1, F1, ρ, κ1, Bs, w1, sl1, h1⟩) (tT_bind w sl h)⟩

/-! ### argument lists, displays -/
theorem pl_nil : PDL G W X [] aNil := ⟨pa_imp pa_nil fun σ H Q ⟨α, F, ρ, κ, Bs, w, sl, h⟩ => POL.now w h .nil⟩
theorem pl_cons (ha : PD G W X e m) (hr : PDL G W X es n) (hs : starEach (e :: es) X.env = (false, eval e X.env) :: starEach es X.env := by rfl) : PDL G W X (e :: es) (aCons m n) :=
  ⟨pa_imp (pa_cons ha.run hr.run hs) fun σ H Q ⟨α, F, ρ, κ, Bs, w, sl, h⟩ =>
    tD_mono (fun x H1 ⟨α1, F1, κ1, d, g1, w1, sl1, r1, h1⟩ => tL_mono (fun xs H2 ⟨α2, F2, κ2, ds, g2, w2, sl2, r2, h2⟩ => POL.now w2 h2 (.cons (r1.gr g2) r2)) (tL_bindL w1 sl1 h1)) (tD_bindL w sl h)⟩
theorem pd_tup {x1} (h : PDL G W X es n) : PD G W X (.Tuple es x1 pos) (eTup n) :=
  ⟨pe_imp (pe_tup h.run) fun σ H Q ⟨α, F, ρ, κ, Bs, w, sl, h⟩ =>
    tL_mono (fun xs H1 ⟨α1, F1, κ1, ds, g1, w1, sl1, r1, h1⟩ => by
      split at h1
      · rename_i hc
        refine ⟨by rw [sizeLine_eq, ← r1.length]; exact hc.2, fun p hp => ?_⟩
        obtain ⟨g2, w2⟩ := Gr.new (o := .tup xs) w1 hp
        exact h1 _ _ _ g2 w2 _ (Rp.rv (.tup (SqT.of upd_same) ((r1.rpl hc.1).gr g2)))
      · exact h1.elim) (tL_bind w sl h)⟩
theorem pf_lst (h : PDL G W X es n) : PF G W X (.List es pos) (fLst n) :=
  ⟨pe_imp (pe_lst h.run) fun σ H Q ⟨α, F, ρ, κ, Bs, w, sl, h⟩ =>
    tL_mono (fun xs H1 ⟨α1, F1, κ1, ds, g1, w1, sl1, r1, h1⟩ => by
      split at h1
      · rename_i hc
        refine ⟨by rw [sizeLine_eq, ← r1.length]; exact hc.2, fun p hp => ?_⟩
        obtain ⟨g2, w2⟩ := Gr.newH (o := .lst xs) w1 hp
        exact h1 _ _ _ g2 w2 p xs upd_same (w1.sub.free hp) (fun m => w1.dom m hp) hp ((r1.rpl hc.1).gr g2)
      · exact h1.elim) (tL_bindF w sl h)⟩
theorem pd_fr (h : PF G W X e n) : PD G W X e (eFr n) :=
  ⟨pe_imp h.run fun σ H Q ⟨α, F, ρ, κ, Bs, w, sl, h⟩ => by
    refine ⟨α, F, ρ, κ, Bs, w, sl, ?_⟩
    unfold eFr at h
    rcases hm : n ρ κ with _ | ⟨o, κ'⟩
    · rw [hm] at h; exact h
    · rw [hm] at h
      cases o with
      | er c => exact h
      | ok ds =>
        intro α' F' H' g w' a xs h1 h2 h3 h4 r
        obtain ⟨g2, w2⟩ := Gr.frz w' h1 h3 h2 g h4
        have sm : Same F' (upd F' a (.lst xs)) := fun b u e => by rw [upd_ne (ne_of_none e h2)]; exact e
        exact h α' _ H' g2 w2 _ (Rp.rv (.lst upd_same (by have := RpL.mono (β := []) sm r; rwa [List.append_nil] at this)))⟩
/-! ### calls -/
/-- a def's promise: its meaning f of data -/
def spD (G : Gx) (K : PySem.W.Frag) (ar : Nat) (f : List D → Ka → Re D) : Sp := fun vs H Q E => vs.length = ar ∧ ∃ α F κ ds, Wd G K α F H κ ∧ RvL K α F H ds vs ∧ PO G E K α F H Q (f ds κ)
theorem pd_call {CX : CXT} {k : Nat} {f : Addr} {fd : FuncData} {ps : List Str} {x : Str} {p : Pos} {ar : Nat} {fm : List D → Ka → Re D} (FO : FnOk X.prog X.w X.K X.mg X.base CX k f fd ps (spD G X.K ar fm)) (hr : Room k X.A) (hg : Gl X x) (hm : X.mg x = some (.ref f))
    (hk : PySem.W.keepIn X.K (.ref f) = true) (hb : Binds X.K fd ps []) (hx : Passes CX X W) (ha : PDL G W X (e :: es) n)
    (hdb : (x == ("__debug__" : Str)) = false := by decide) (he : starEach (e :: es) X.env = (false, eval e X.env) :: starEach es X.env := by rfl) (hpl : (backTo pos (starEach es X.env)).any (·.1) = false := by rfl) :
    PD G W X (.Call (.Name x p) (e :: es) [] pos) (eCall ar fm n) :=
  ⟨pe_imp (pe_call FO hr hg hm hk hb .nil hx ha.run hdb he hpl) fun σ H Q ⟨α, F, ρ, κ, Bs, w, sl, h⟩ =>
    tL_mono (fun xs H1 ⟨α1, F1, κ1, ds, g1, w1, sl1, r1, h1⟩ => by
      split at h1
      · rename_i hl
        exact ⟨by rw [List.append_nil, ← r1.length]; exact hl, α1, F1, κ1, ds, w1, by rw [List.append_nil]; exact r1, h1⟩
      · exact h1.elim) (tL_bind w sl h)⟩
theorem pd_call0 {CX : CXT} {k : Nat} {f : Addr} {fd : FuncData} {ps : List Str} {x : Str} {p : Pos} {fm : List D → Ka → Re D} (FO : FnOk X.prog X.w X.K X.mg X.base CX k f fd ps (spD G X.K 0 fm)) (hr : Room k X.A) (hg : Gl X x) (hm : X.mg x = some (.ref f))
    (hk : PySem.W.keepIn X.K (.ref f) = true) (hb : Binds X.K fd ps []) (hx : Passes CX X W) (hdb : (x == ("__debug__" : Str)) = false := by decide) : PD G W X (.Call (.Name x p) [] [] pos) (eCall 0 fm aNil) :=
  ⟨pe_imp (pe_call0 FO hr hg hm hk hb .nil hx hdb) fun σ H Q ⟨α, F, ρ, κ, Bs, w, sl, h⟩ => ⟨rfl, α, F, κ, [], w, .nil, h⟩⟩
end
end DL
set_option Elab.async false
set_option linter.all false
set_option maxRecDepth 100000
set_option maxHeartbeats 4000000
/-! DL3: operators, subscripts, slices, built-in calls. -/
namespace DL
open PySem PySem.Spec PyProof.Rows L2

/-! ### operators on data -/
def mulOk (i j : Int) : Bool := (decide (-18446744073709551616 < i) && decide (i < 18446744073709551616)) || (decide (-18446744073709551616 < j) && decide (j < 18446744073709551616))
def items : D → Option (List D)
  | .tup ds => some ds
  | .lst ds => some ds
  | .bor ds => some ds
  | _ => none
def listOf : D → Option (List D)
  | .lst ds => some ds
  | .bor ds => some ds
  | _ => none
def oAdd (x y : D) : Option D := match x, y with
  | .int i, .int j => some (.int (i + j))
  | .str a, .str b => if a.length + b.length ≤ 16777216 then some (.str (a ++ b)) else none
  | .tup a, .tup b => if a.length + b.length ≤ 16777216 then some (.tup (a ++ b)) else none
  | .lst a, .lst b => if a.length + b.length ≤ 16777216 then some (.lst (a ++ b)) else none
  | .lst a, .bor b => if a.length + b.length ≤ 16777216 then some (.lst (a ++ b)) else none
  | .bor a, .lst b => if a.length + b.length ≤ 16777216 then some (.lst (a ++ b)) else none
  | .bor a, .bor b => if a.length + b.length ≤ 16777216 then some (.lst (a ++ b)) else none
  | _, _ => none
def oSub (x y : D) : Option D := match x, y with
  | .int i, .int j => some (.int (i - j))
  | _, _ => none
def oMul (x y : D) : Option D := match x, y with
  | .int i, .int j => if mulOk i j = true then some (.int (i * j)) else none
  | _, _ => none
def oFdiv (x y : D) : Option D := match x, y with
  | .int i, .int j => if j ≠ 0 ∧ j.natAbs < 1073741824 then some (.int (i.fdiv j)) else none
  | _, _ => none
def oMod (x y : D) : Option D := match x, y with
  | .int i, .int j => if j ≠ 0 then some (.int (i.fmod j)) else none
  | _, _ => none
def oPow (x y : D) : Option D := match x, y with
  | .int i, .int j => if 0 ≤ j ∧ j ≤ 1000000 ∧ i.natAbs < 2 ^ 64 then some (.int (i ^ j.toNat)) else none
  | _, _ => none
def oNeg (x : D) : Option D := match x with
  | .int i => some (.int (-i))
  | _ => none
def cInt (p : Int → Int → Bool) (x y : D) : Option Bool := match x, y with
  | .int i, .int j => some (p i j)
  | _, _ => none
def cLt : D → D → Option Bool := cInt fun i j => decide (i < j)
def cLe : D → D → Option Bool := cInt fun i j => decide (i ≤ j)
def cGt : D → D → Option Bool := cInt fun i j => decide (j < i)
def cGe : D → D → Option Bool := cInt fun i j => decide (j ≤ i)
def cEq (x y : D) : Option Bool := eqD x y
def cNe (x y : D) : Option Bool := (eqD x y).map fun b => !b
def isNon : D → Bool
  | .non => true
  | _ => false
def cIs (x y : D) : Option Bool := match y with
  | .non => some (isNon x)
  | _ => none
def cIsNot (x y : D) : Option Bool := match y with
  | .non => some (!isNon x)
  | _ => none
/-- flat data: what «in» asks item by item -/
def flatD : D → Bool
  | .non => true | .bl _ => true | .int _ => true | .str _ => true
  | _ => false
def scalEq : D → D → Bool
  | .non, .non => true
  | .bl a, .bl b => a == b
  | .bl a, .int j => (if a then 1 else 0) == j
  | .int i, .bl b => i == (if b then 1 else 0)
  | .int i, .int j => i == j
  | .str x, .str y => x == y
  | _, _ => false
def cIn (x y : D) : Option Bool := match x, y with
  | .str a, .str b => some (!(Builtin.Str.occurrences b a 0 b.length 1).isEmpty)
  | x, y => match items y with
    | some ds => if flatD x = true ∧ ds.all flatD = true then some (ds.any fun e => scalEq e x) else none
    | none => none
def cNotIn (x y : D) : Option Bool := (cIn x y).map fun b => !b

section
variable {X : Cx} {G : Gx} {W : XK} {K : PySem.W.Frag} {α : List Addr} {F H : Hp} {κ : Ka} {Q : VK} {d e : D} {x y : V} {ds es : List D} {vs us : List V}
theorem rv_int {i : Int} (r : Rv K α F H (.int i) x) : x = .int i := by cases r; rfl
theorem rv_str {i : Str} (r : Rv K α F H (.str i) x) : x = .str i := by cases r; rfl
theorem rv_bl {i : Bool} (r : Rv K α F H (.bl i) x) : x = .bl i := by cases r; rfl
theorem rv_non (r : Rv K α F H .non x) : x = .non := by cases r; rfl
theorem rv_tup (w : Wd G K α F H κ) (r : Rv K α F H (.tup ds) x) : ∃ a xs, x = .ref a ∧ SqT K H a xs ∧ RpL K α F ds xs := by
  cases r with
  | tup h q => exact ⟨_, _, rfl, same_tup w.sub h, q⟩
theorem rv_list (w : Wd G K α F H κ) (r : Rv K α F H d x) (h : listOf d = some ds) : ∃ a xs, x = .ref a ∧ H a = some (.lst xs) ∧ RpL K α F ds xs := by
  cases d with
  | lst ds => cases h; cases r with | lst h q => exact ⟨_, _, rfl, w.sub _ _ h, q⟩
  | bor ds => cases h; obtain ⟨a, xs, rfl, h1, _, _, q⟩ := r; exact ⟨a, xs, rfl, h1, q⟩
  | _ => cases h
theorem PO.of {o : Option D} (h : PO G W K α F H Q (rOf o κ)) : ∃ d, o = some d ∧ PO G W K α F H Q (ret d κ) := by
  cases o with
  | none => exact h.elim
  | some d => exact ⟨d, rfl, h⟩
theorem PO.tupNew {p : Addr} {xs : List V} (w : Wd G K α F H κ) (h : PO G W K α F H Q (ret (.tup ds) κ)) (r : RpL K α F ds xs) (hp : H p = none) : Q (.ref p) (upd H p (.tup xs)) := by
  obtain ⟨g2, w2⟩ := Gr.new (o := .tup xs) w hp
  exact h _ _ _ g2 w2 _ (Rp.rv (.tup (SqT.of upd_same) (r.gr g2)))
theorem PO.lstNew {p : Addr} {xs : List V} (w : Wd G K α F H κ) (h : PO G W K α F H Q (ret (.lst ds) κ)) (r : RpL K α F ds xs) (hp : H p = none) : Q (.ref p) (upd H p (.lst xs)) := by
  obtain ⟨g2, w2⟩ := Gr.new (o := .lst xs) w hp
  exact h _ _ _ g2 w2 _ (Rp.rv (.lst upd_same (r.gr g2)))
theorem POF.lstNew {p : Addr} {xs : List V} (w : Wd G K α F H κ) (h : POF G W K α F H Q (some (.ok ds, κ))) (r : RpL K α F ds xs) (hp : H p = none) : Q (.ref p) (upd H p (.lst xs)) := by
  obtain ⟨g2, w2⟩ := Gr.newH (o := .lst xs) w hp
  exact h _ _ _ g2 w2 p xs upd_same (w.sub.free hp) (fun m => w.dom m hp) hp (r.gr g2)
def rAddD (K : PySem.W.Frag) : R2 := fun x y H Q => ((rI0 fun i j => .int (i + j)) x y H Q ∨ (∃ i j, x = .str i ∧ y = .str j ∧ i.length + j.length ≤ sizeLine ∧ Q (.str (i ++ j)) H)) ∨ (rCatA K x y H Q ∨ rCat x y H Q)
theorem op_addD : OpR X (binaryOp .Add) (rAddD X.K) :=
  (op_add.or op_add_str).or (op_catA.or op_cat)
theorem cat_lists {a b : D} {xs ys : List D} (w : Wd G K α F H κ) (ra : Rv K α F H a x) (rb : Rv K α F H b y) (ha : listOf a = some xs) (hb : listOf b = some ys) (hl : xs.length + ys.length ≤ 16777216)
    (h : ∀ (zs : List V) (p : Addr), RpL K α F (xs ++ ys) zs → H p = none → Q (.ref p) (upd H p (.lst zs))) : rCat x y H Q := by
  obtain ⟨p, us, rfl, h1, q1⟩ := rv_list w ra ha
  obtain ⟨q, zs, rfl, h2, q2⟩ := rv_list w rb hb
  exact ⟨p, q, us, zs, rfl, rfl, h1, h2, by rw [sizeLine_eq, ← q1.length, ← q2.length]; exact hl, fun p hp => h _ p (q1.append q2) hp⟩
theorem addD : OpD X (rAddD X.K) oAdd := fun G W α F H κ Q d e x y w rx ry h => by
  obtain ⟨z, hz, h⟩ := PO.of h
  unfold oAdd at hz
  split at hz
  · cases hz; exact .inl (.inl ⟨_, _, rv_int rx, rv_int ry, PO.now w h (.int _)⟩)
  · split at hz
    · rename_i hl
      cases hz; exact .inl (.inr ⟨_, _, rv_str rx, rv_str ry, by rw [sizeLine_eq]; exact hl, PO.now w h (.str _)⟩)
    · cases hz
  · split at hz
    · rename_i hl
      cases hz
      obtain ⟨p, us, rfl, h1, q1⟩ := rv_tup w rx
      obtain ⟨q, zs, rfl, h2, q2⟩ := rv_tup w ry
      refine .inr (.inl ⟨p, q, us, zs, rfl, rfl, h1, h2, by rw [sizeLine_eq, ← q1.length, ← q2.length]; exact hl, fun e => ?_, fun e1 e2 => ?_, fun e1 e2 p hp => PO.tupNew w h (q1.append q2) hp⟩)
      · subst e
        cases q1
        exact PO.now w h ry
      · subst e2
        cases q2
        rw [List.append_nil] at h
        exact PO.now w h rx
    · cases hz
  all_goals first
    | (split at hz
       · rename_i hl
         cases hz
         exact .inr (.inr (cat_lists w rx ry rfl rfl hl fun zs p r hp => PO.lstNew w h r hp))
       · cases hz)
    | cases hz
theorem subD : OpD X (rI0 fun i j => .int (i - j)) oSub := fun G W α F H κ Q d e x y w rx ry h => by
  obtain ⟨z, hz, h⟩ := PO.of h
  unfold oSub at hz
  split at hz
  · cases hz; exact ⟨_, _, rv_int rx, rv_int ry, PO.now w h (.int _)⟩
  · cases hz
theorem mulD : OpD X (rI CMul fun i j => .int (i * j)) oMul := fun G W α F H κ Q d e x y w rx ry h => by
  obtain ⟨z, hz, h⟩ := PO.of h
  unfold oMul at hz
  split at hz
  · split at hz
    · rename_i i j hl
      cases hz
      refine ⟨_, _, rv_int rx, rv_int ry, ?_, PO.now w h (.int _)⟩
      unfold mulOk at hl
      simp only [Bool.or_eq_true, Bool.and_eq_true, decide_eq_true_eq] at hl
      exact hl
    · cases hz
  · cases hz
theorem fdivD : OpD X (rI CDivN fun i j => .int (i.fdiv j)) oFdiv := fun G W α F H κ Q d e x y w rx ry h => by
  obtain ⟨z, hz, h⟩ := PO.of h
  unfold oFdiv at hz
  split at hz
  · split at hz
    · rename_i i j hl
      cases hz
      exact ⟨_, _, rv_int rx, rv_int ry, hl, PO.now w h (.int _)⟩
    · cases hz
  · cases hz
theorem modD : OpD X (rI (fun _ j => j ≠ 0) fun i j => .int (i.fmod j)) oMod := fun G W α F H κ Q d e x y w rx ry h => by
  obtain ⟨z, hz, h⟩ := PO.of h
  unfold oMod at hz
  split at hz
  · split at hz
    · rename_i i j hl
      cases hz
      exact ⟨_, _, rv_int rx, rv_int ry, hl, PO.now w h (.int _)⟩
    · cases hz
  · cases hz
theorem powD : OpD X (rI CPow fun i j => .int (i ^ j.toNat)) oPow := fun G W α F H κ Q d e x y w rx ry h => by
  obtain ⟨z, hz, h⟩ := PO.of h
  unfold oPow at hz
  split at hz
  · split at hz
    · rename_i i j hl
      cases hz
      exact ⟨_, _, rv_int rx, rv_int ry, hl, PO.now w h (.int _)⟩
    · cases hz
  · cases hz
theorem intD {p : Int → Int → Bool} : CmpD X (rI0 fun i j => .bl (p i j)) (cInt p) := fun G α F H κ Q d e x y b w rx ry h q => by
  unfold cInt at h
  split at h
  · cases h; exact ⟨_, _, rv_int rx, rv_int ry, q⟩
  · cases h
theorem eq_dp (w : Wd G K α F H κ) (rx : Rv K α F H d x) (ry : Rv K α F H e y) {b : Bool} (h : eqD d e = some b) :
    Dp K H x d.py ∧ Dp K H y e.py ∧ SeqAt.shaped d.py = true ∧ SeqAt.shaped e.py = true ∧ b = PyData.eqv d.py e.py := by
  unfold eqD at h
  split at h
  · rename_i hf
    cases h
    simp only [D.fit, Bool.and_eq_true] at hf
    exact ⟨rx.dp w.sub hf.1.1, ry.dp w.sub hf.2.1, hf.1.2, hf.2.2, rfl⟩
  · cases h
theorem eqDD : CmpD X (rEqD X.K) cEq := fun G α F H κ Q d e x y b w rx ry h q => by
  obtain ⟨h1, h2, h3, h4, rfl⟩ := eq_dp w rx ry h
  exact ⟨_, _, h1, h2, h3, h4, q⟩
theorem neDD : CmpD X (rNeD X.K) cNe := fun G α F H κ Q d e x y b w rx ry h q => by
  unfold cNe at h
  obtain ⟨b', h', rfl⟩ := Option.map_eq_some_iff.mp h
  obtain ⟨h1, h2, h3, h4, rfl⟩ := eq_dp w rx ry h'
  exact ⟨_, _, h1, h2, h3, h4, q⟩
theorem isNon_v (r : Rv K α F H d x) : decide (x = .non) = isNon d := by
  cases d with
  | bor ds => obtain ⟨a, xs, rfl, _⟩ := r; rfl
  | _ => cases r <;> rfl
theorem isD : CmpD X (fun x y H Q => y = .non ∧ Q (.bl (decide (x = .non))) H) cIs := fun G α F H κ Q d e x y b w rx ry h q => by
  unfold cIs at h
  split at h
  · cases h; exact ⟨rv_non ry, by rw [isNon_v rx]; exact q⟩
  · cases h
theorem isNotD : CmpD X (fun x y H Q => y = .non ∧ Q (.bl (!decide (x = .non))) H) cIsNot := fun G α F H κ Q d e x y b w rx ry h q => by
  unfold cIsNot at h
  split at h
  · cases h; exact ⟨rv_non ry, by rw [isNon_v rx]; exact q⟩
  · cases h
theorem flat_v (r : Rv K α F H d x) (h : flatD d = true) : flatV x = true := by
  cases d with
  | non => cases r; rfl
  | bl => cases r; rfl
  | int => cases r; rfl
  | str => cases r; rfl
  | _ => cases h
theorem scal_v (rx : Rv K α F H d x) (ry : Rv K α F H e y) (h : flatD d = true) (h' : flatD e = true) : eqV x y = scalEq d e := by
  cases d <;> first | (cases h; done) | (cases e <;> first | (cases h'; done) | (cases rx; cases ry; simp [eqV, scalEq]))
theorem flat_all (r : RpL K α F ds vs) (h : ds.all flatD = true) : vs.all flatV = true := by
  induction ds generalizing vs with
  | nil => cases r; rfl
  | cons d ds ih =>
    cases r with
    | cons h1 t =>
      simp only [List.all_cons, Bool.and_eq_true] at h ⊢
      exact ⟨flat_v (H := F) h1.rv h.1, ih t h.2⟩
theorem any_v (r : RpL K α F ds vs) (rx : Rv K α F H d x) (h : ds.all flatD = true) (hx : flatD d = true) : inV x vs = ds.any fun e => scalEq e d := by
  unfold inV
  induction ds generalizing vs with
  | nil => cases r; rfl
  | cons e ds ih =>
    cases r with
    | cons h1 t =>
      simp only [List.all_cons, Bool.and_eq_true] at h
      simp only [List.any_cons]
      rw [ih t h.2, scal_v (H := H) h1.rv rx h.1 hx]
theorem rv_items (w : Wd G K α F H κ) (r : Rv K α F H d x) (h : items d = some ds) : ∃ a xs, x = .ref a ∧ (SqL K H a xs ∨ SqT K H a xs) ∧ RpL K α F ds xs := by
  cases d with
  | tup ds => cases h; obtain ⟨a, xs, e, h1, q⟩ := rv_tup w r; exact ⟨a, xs, e, .inr h1, q⟩
  | lst ds => obtain ⟨a, xs, e, h1, q⟩ := rv_list w r h; exact ⟨a, xs, e, .inl (SqL.of h1), q⟩
  | bor ds => obtain ⟨a, xs, e, h1, q⟩ := rv_list w r h; exact ⟨a, xs, e, .inl (SqL.of h1), q⟩
  | _ => cases h
def rInX (K : PySem.W.Frag) : R2 := fun x y H Q => rIn K false x y H Q ∨ ∃ i j, x = .str i ∧ y = .str j ∧ Q (.bl (!(Builtin.Str.occurrences j i 0 j.length 1).isEmpty)) H
def rNotInX (K : PySem.W.Frag) : R2 := fun x y H Q => rIn K true x y H Q ∨ ∃ i j, x = .str i ∧ y = .str j ∧ Q (.bl (!(!(Builtin.Str.occurrences j i 0 j.length 1).isEmpty))) H
theorem op_inX : OpR X (compareOp .In) (rInX X.K) := op_in_seq.or op_in_str
theorem op_notInX : OpR X (compareOp .NotIn) (rNotInX X.K) := op_notIn_seq.or L2.op_notin_str
theorem in_some (w : Wd G K α F H κ) (rx : Rv K α F H d x) (ry : Rv K α F H e y) {b : Bool} (h : cIn d e = some b) :
    (∃ p xs, y = .ref p ∧ (SqL K H p xs ∨ SqT K H p xs) ∧ flatV x = true ∧ xs.all flatV = true ∧ inV x xs = b) ∨ ∃ i j, x = .str i ∧ y = .str j ∧ b = (!(Builtin.Str.occurrences j i 0 j.length 1).isEmpty) := by
  unfold cIn at h
  split at h
  · cases h; exact .inr ⟨_, _, rv_str rx, rv_str ry, rfl⟩
  · rcases hi : items e with _ | ds
    · rw [hi] at h; cases h
    · rw [hi] at h
      simp only at h
      split at h
      · rename_i hf
        cases h
        obtain ⟨a, xs, e1, h1, q⟩ := rv_items w ry hi
        exact .inl ⟨a, xs, e1, h1, flat_v rx hf.1, flat_all q hf.2, any_v q rx hf.2 hf.1⟩
      · cases h
theorem inD : CmpD X (rInX X.K) cIn := fun G α F H κ Q d e x y b w rx ry h q => by
  rcases in_some w rx ry h with ⟨p, xs, h1, h2, h3, h4, h5⟩ | ⟨i, j, h1, h2, h3⟩
  · refine .inl ⟨p, xs, h1, h2, h3, h4, ?_⟩
    rw [if_neg (by decide), h5]; exact q
  · exact .inr ⟨i, j, h1, h2, by rw [← h3]; exact q⟩
theorem notInD : CmpD X (rNotInX X.K) cNotIn := fun G α F H κ Q d e x y b w rx ry h q => by
  unfold cNotIn at h
  obtain ⟨b', h', rfl⟩ := Option.map_eq_some_iff.mp h
  rcases in_some w rx ry h' with ⟨p, xs, h1, h2, h3, h4, h5⟩ | ⟨i, j, h1, h2, h3⟩
  · refine .inl ⟨p, xs, h1, h2, h3, h4, ?_⟩
    rw [if_pos rfl, h5]; exact q
  · exact .inr ⟨i, j, h1, h2, by rw [← h3]; exact q⟩
end

/-! ### the rules as the printer writes them -/
section
variable {G : Gx} {W : XK} {X : Cx} {e a b c : Expr} {es : List Expr} {m ma mb mc : Ev D} {n : Ev (List D)} {pos : Pos}
theorem d_add (ha : PD G W X a ma) (hb : PD G W X b mb) : PD G W X (.BinOp a .Add b pos) (eOp oAdd ma mb) := pd_op op_addD addD ha hb
theorem d_sub (ha : PD G W X a ma) (hb : PD G W X b mb) : PD G W X (.BinOp a .Sub b pos) (eOp oSub ma mb) := pd_op op_sub subD ha hb
theorem d_mul (ha : PD G W X a ma) (hb : PD G W X b mb) : PD G W X (.BinOp a .Mult b pos) (eOp oMul ma mb) := pd_op op_mul mulD ha hb
theorem d_fdiv (ha : PD G W X a ma) (hb : PD G W X b mb) : PD G W X (.BinOp a .FloorDiv b pos) (eOp oFdiv ma mb) := pd_op op_fdivN fdivD ha hb
theorem d_mod (ha : PD G W X a ma) (hb : PD G W X b mb) : PD G W X (.BinOp a .Mod b pos) (eOp oMod ma mb) := pd_op op_modN modD ha hb
theorem d_pow (ha : PD G W X a ma) (hb : PD G W X b mb) : PD G W X (.BinOp a .Pow b pos) (eOp oPow ma mb) := pd_op op_pow powD ha hb
theorem d_neg (ha : PD G W X a ma) : PD G W X (.UnaryOp .USub a pos) (eUn (fun d κ => rOf (oNeg d) κ) ma) := pd_un un_neg (fun G W α F H κ Q d x w r h => by
  obtain ⟨z, hz, h⟩ := PO.of h
  unfold oNeg at hz
  split at hz
  · cases hz; exact ⟨_, rv_int r, PO.now w h (.int _)⟩
  · cases hz) ha
/-- a comparison's rule: the operator, its reading, its meaning -/
structure Cm (X : Cx) (op : CmpOp) (f : D → D → Option Bool) : Prop where
  ex : ∃ r, OpR X (compareOp op) r ∧ CmpD X r f
theorem k_lt : Cm X .Lt cLt := ⟨_, op_lt, intD⟩
theorem k_le : Cm X .LtE cLe := ⟨_, op_le, intD⟩
theorem k_gt : Cm X .Gt cGt := ⟨_, op_gt, intD⟩
theorem k_ge : Cm X .GtE cGe := ⟨_, op_ge, intD⟩
theorem k_eq (hu : X.A.units + 64 < cLine) : Cm X .Eq cEq := ⟨_, op_eqD hu, eqDD⟩
theorem k_ne (hu : X.A.units + 64 < cLine) : Cm X .NotEq cNe := ⟨_, op_neD hu, neDD⟩
theorem k_isn : Cm X .Is cIs := ⟨_, op_isN, isD⟩
theorem k_isnot : Cm X .IsNot cIsNot := ⟨_, op_notN, isNotD⟩
theorem k_in : Cm X .In cIn := ⟨_, op_inX, inD⟩
theorem k_notin : Cm X .NotIn cNotIn := ⟨_, op_notInX, notInD⟩
variable {op op' : CmpOp} {f f' : D → D → Option Bool}
theorem d_cmp (k : Cm X op f) (ha : PD G W X a ma) (hb : PD G W X b mb) (hm : behindInMarks op b = false := by first | exact nomark _ | rfl) : PD G W X (.Compare a [op] [b] pos) (eCmp f ma mb) :=
  let ⟨_, h1, h2⟩ := k.ex; pd_cmp h1 h2 ha hb hm
theorem b_cmp (k : Cm X op f) (ha : PD G W X a ma) (hb : PD G W X b mb) (hm : behindInMarks op b = false := by first | exact nomark _ | rfl) : PB G W X (.Compare a [op] [b] pos) (bCmp f ma mb) :=
  let ⟨_, h1, h2⟩ := k.ex; pb_cmp h1 h2 ha hb hm
theorem d_chain (k : Cm X op f) (k' : Cm X op' f') (ha : PD G W X a ma) (hb : PD G W X b mb) (hc : PD G W X c mc) (hm : lastMarks [op, op'] [b, c] = false := by rfl) : PD G W X (.Compare a [op, op'] [b, c] pos) (eChain f f' ma mb mc) :=
  let ⟨_, h1, h2⟩ := k.ex; let ⟨_, h3, h4⟩ := k'.ex; pd_chain h1 h2 h3 h4 ha hb hc hm
theorem b_chain (k : Cm X op f) (k' : Cm X op' f') (ha : PD G W X a ma) (hb : PD G W X b mb) (hc : PD G W X c mc) (hm : lastMarks [op, op'] [b, c] = false := by rfl) : PB G W X (.Compare a [op, op'] [b, c] pos) (bChain f f' ma mb mc) :=
  let ⟨_, h1, h2⟩ := k.ex; let ⟨_, h3, h4⟩ := k'.ex; pb_chain h1 h2 h3 h4 ha hb hc hm
end

/-! ### subscripts, slices -/
def oIdx (κ : Ka) (x y : D) : Option D := match x, y with
  | .tup ds, .int i => atI ds i
  | .lst ds, .int i => atI ds i
  | .bor ds, .int i => atI ds i
  | .rol ds, .int i => atI ds i
  | .obj n, .int i => match κ[n]? with
    | some (.lst ds) => atI ds i
    | _ => none
  | .str z, .int i => if z.length ≤ 16777216 then (atI z.cps.toList i).map fun c => .str ⟨#[c]⟩ else none
  | _, _ => none
def eIdx (ma mb : Ev D) : Ev D := eBin (fun x y κ => rOf (oIdx κ x y) κ) ma mb
def cutD (ds : List D) (lo hi : Option Int) : List D := (ds.drop (HT.sIx ds.length 0 lo)).take (HT.sIx ds.length ds.length hi - HT.sIx ds.length 0 lo)
def oCut (x : D) (lo hi : Option Int) : Option D := match x with
  | .tup ds => some (.tup (cutD ds lo hi))
  | .lst ds => some (.lst (cutD ds lo hi))
  | .bor ds => some (.lst (cutD ds lo hi))
  | .str z => if z.length ≤ 16777216 then some (.str (cutS z lo hi)) else none
  | _ => none
def intOf : D → Option Int
  | .int i => some i
  | _ => none
/-- an optional part of a slice -/
def sNone : Ev (Option Int) := fun _ κ => some (.ok none, κ)
def sSome (m : Ev D) : Ev (Option Int) := fun ρ κ => (m ρ κ).bind fun d κ1 => match d with
  | .int i => some (.ok (some i), κ1)
  | _ => none
def eCut (m : Ev D) (l h : Ev (Option Int)) : Ev D := fun ρ κ => (m ρ κ).bind fun d κ1 => (l ρ κ1).bind fun i κ2 => (h ρ κ2).bind fun j κ3 => rOf (oCut d i j) κ3
section
variable {G : Gx} {W : XK} {X : Cx} {K : PySem.W.Frag} {α : List Addr} {F H : Hp} {κ : Ka} {Q : VK} {e a b c : Expr} {es : List Expr} {m ma mb mc : Ev D} {n : Ev (List D)} {pos : Pos} {ds : List D} {vs : List V}
theorem RpL.atI (r : RpL K α F ds vs) {i : Int} {d : D} (h : L2.atI ds i = some d) : ∃ v, L2.atI vs i = some v ∧ Rp K α F d v := by
  unfold L2.atI at h ⊢
  rw [← r.length]
  obtain ⟨j, h1, h2⟩ := Option.bind_eq_some_iff.mp h
  obtain ⟨v, h3, h4⟩ := r.get h2
  exact ⟨v, by rw [h1]; exact h3, h4⟩
theorem Wd.cell {n : Nat} {a : Addr} {c : Cell} (w : Wd G K α F H κ) (h : α[n]? = some a) (hk : κ[n]? = some c) : CellOk G K α F H a c := w.cel n a c h hk
theorem idx_ok {d e r : D} {x y : V} (w : Wd G K α F H κ) (rx : Rv K α F H d x) (ry : Rv K α F H e y) (hz : oIdx κ d e = some r) (h : ∀ v, Rv K α F H r v → Q v H) : rIx K x y H Q := by
  unfold oIdx at hz
  split at hz
  · obtain ⟨p, xs, rfl, h1, q⟩ := rv_tup w rx
    obtain ⟨v, e1, r1⟩ := q.atI hz
    exact .inr (.inl ⟨p, xs, _, v, rfl, rv_int ry, h1, e1, h v r1.rv⟩)
  · obtain ⟨p, xs, rfl, h1, q⟩ := rv_list w rx rfl
    obtain ⟨v, e1, r1⟩ := q.atI hz
    exact .inl ⟨p, xs, _, v, rfl, rv_int ry, SqL.of h1, e1, h v r1.rv⟩
  · obtain ⟨p, xs, rfl, h1, q⟩ := rv_list w rx rfl
    obtain ⟨v, e1, r1⟩ := q.atI hz
    exact .inl ⟨p, xs, _, v, rfl, rv_int ry, SqL.of h1, e1, h v r1.rv⟩
  · cases rx with
    | rol h1 q =>
      obtain ⟨v, e1, r1⟩ := q.atI hz
      exact .inl ⟨_, _, _, v, rfl, rv_int ry, Same.seq w.sub h1, e1, h v r1.rv⟩
  · split at hz
    · rename_i n i ds hk
      cases rx with
      | obj ha =>
        obtain ⟨xs, h1, q⟩ := w.cell ha hk
        obtain ⟨v, e1, r1⟩ := q.atI hz
        exact .inl ⟨_, xs, _, v, rfl, rv_int ry, SqL.of h1, e1, h v r1.rv⟩
    · cases hz
  · split at hz
    · rename_i hl
      obtain ⟨c, e1, rfl⟩ := Option.map_eq_some_iff.mp hz
      exact .inr (.inr ⟨_, _, c, rv_str rx, rv_int ry, by rw [sizeLine_eq]; exact hl, e1, h _ (.str _)⟩)
    · cases hz
  · cases hz
theorem d_idx (ha : PD G W X a ma) (hb : PD G W X b mb) (hs : PlainIx b := by exact fun _ _ => rfl) : PD G W X (.Subscript a b pos) (eIdx ma mb) :=
  ⟨pe_imp (pe_ix ix_seq ha.run hb.run hs) fun σ H Q ⟨α, F, ρ, κ, Bs, w, sl, h⟩ =>
    tD_mono (fun x H1 ⟨α1, F1, κ1, d, g1, w1, sl1, r1, h1⟩ => tD_mono (fun y H2 ⟨α2, F2, κ2, e, g2, w2, sl2, r2, h2⟩ => by
      obtain ⟨z, hz, h2⟩ := PO.of h2
      exact idx_ok w2 (r1.gr g2) r2 hz fun v r => PO.now w2 h2 r) (tD_bind w1 sl1 h1)) (tD_bind w sl h)⟩
def POS (G : Gx) (W : XK) (K : PySem.W.Frag) (α : List Addr) (F H : Hp) (Q : Option Int → Hp → Prop) : Re (Option Int) → Prop
  | none => False
  | some (o, κ') => ∀ α' F' H', Gr α F H α' F' H' → Wd G K α' F' H' κ' → match o with
    | .ok d => Q d H'
    | .er c => W (.ref (G.exc c)) none H'
def tS1 (G : Gx) (W : XK) (K : PySem.W.Frag) (m : Ev (Option Int)) : TO := fun σ H Q => ∃ α F ρ κ Bs, Wd G K α F H κ ∧ Sls K α F H Bs ρ σ ∧ POS G W K α F H Q (m ρ κ)
structure PP (G : Gx) (W : XK) (X : Cx) (e : Option Expr) (m : Ev (Option Int)) : Prop where
  run : L2.PO X e (tS1 G W X.K m)
theorem po_imp {e : Option Expr} {t t' : TO} (h : L2.PO X e t) (hi : ∀ σ H Q, t' σ H Q → t σ H Q) : L2.PO X e t' := ⟨fun pins s σ H Q I q => h.run pins s σ H Q I (hi σ H Q q)⟩
theorem p_none : PP G W X none sNone := ⟨po_imp po_none fun σ H Q ⟨α, F, ρ, κ, Bs, w, sl, h⟩ => h α F H (Gr.refl _ _ _) w⟩
theorem p_some (ha : PD G W X a ma) : PP G W X (some a) (sSome ma) := ⟨po_imp (po_some ha.run) fun σ H Q ⟨α, F, ρ, κ, Bs, w, sl, h⟩ => by
  refine ⟨α, F, ρ, κ, Bs, w, sl, ?_⟩
  unfold sSome at h
  rcases hm : ma ρ κ with _ | ⟨o, κ'⟩
  · rw [hm] at h; exact h
  · rw [hm] at h
    cases o with
    | er c => exact h
    | ok d =>
      intro α' F' H' g w' v r
      cases d with
      | int i => exact ⟨i, rv_int r, h α' F' H' g w'⟩
      | _ => exact h.elim⟩
theorem tS1_bind {σ : L2.St} {ρ : List Sl} {Bs : Hp} {m : Ev (Option Int)} {f : Option Int → Ka → Re D} (w : Wd G K α F H κ) (sl : Sls K α F H Bs ρ σ) {R : Option Int → Hp → Prop} (h : PO G W K α F H Q ((m ρ κ).bind f))
    (hR : ∀ b H1 α1 F1 κ1, Gr α F H α1 F1 H1 → Wd G K α1 F1 H1 κ1 → Sls K α1 F1 H1 Bs ρ σ → PO G W K α1 F1 H1 Q (f b κ1) → R b H1) : tS1 G W K m σ H R := by
  refine ⟨α, F, ρ, κ, Bs, w, sl, ?_⟩
  rcases hm : m ρ κ with _ | ⟨o, κ'⟩
  · rw [hm] at h; exact h
  · rw [hm] at h
    cases o with
    | ok d => exact fun α' F' H' g w' => hR d H' α' F' κ' g w' (sl.gr g) (PO.gr g h)
    | er c => exact h
theorem RpL.cut (r : RpL K α F ds vs) (lo hi : Option Int) : RpL K α F (cutD ds lo hi) (cutV vs lo hi) := by
  unfold cutD cutV
  rw [← r.length]
  exact (r.drop _).take _
theorem op_cutX : SlR X (fun x lo hi H Q => rSlA X.K x lo hi H Q ∨ (rSlL X.K x lo hi H Q ∨ rSlS x lo hi H Q)) := sl_tupA.or (sl_list.or sl_str)
theorem cutD_all {lo hi : Option Int} (h : HT.sIx ds.length 0 lo = 0 ∧ HT.sIx ds.length ds.length hi = ds.length) : cutD ds lo hi = ds := by
  unfold cutD
  rw [h.1, h.2]
  simp
theorem cut_ok {d r : D} {x : V} {lo hi : Option Int} (w : Wd G K α F H κ) (rx : Rv K α F H d x) (hz : oCut d lo hi = some r) (h : PO G W K α F H Q (ret r κ)) : rSlA K x lo hi H Q ∨ (rSlL K x lo hi H Q ∨ rSlS x lo hi H Q) := by
  unfold oCut at hz
  split at hz
  · cases hz
    obtain ⟨p, xs, rfl, h1, q⟩ := rv_tup w rx
    refine .inl ⟨p, xs, rfl, h1, fun e => ?_, fun _ p hp => PO.tupNew w h (q.cut lo hi) hp⟩
    rw [← q.length] at e
    rw [cutD_all e] at h
    exact PO.now w h rx
  · cases hz
    obtain ⟨p, xs, rfl, h1, q⟩ := rv_list w rx rfl
    exact .inr (.inl ⟨p, xs, rfl, SqL.of h1, fun p hp => PO.lstNew w h (q.cut lo hi) hp⟩)
  · cases hz
    obtain ⟨p, xs, rfl, h1, q⟩ := rv_list w rx rfl
    exact .inr (.inl ⟨p, xs, rfl, SqL.of h1, fun p hp => PO.lstNew w h (q.cut lo hi) hp⟩)
  · split at hz
    · rename_i hl
      cases hz
      exact .inr (.inr ⟨_, rv_str rx, by rw [sizeLine_eq]; exact hl, PO.now w h (.str _)⟩)
    · cases hz
  · cases hz
theorem d_cut {lo hi : Option Expr} {l u : Ev (Option Int)} {p2 : Pos} (ha : PD G W X a ma) (hl : PP G W X lo l) (hu : PP G W X hi u) : PD G W X (.Subscript a (.Slice lo hi none p2) pos) (eCut ma l u) :=
  ⟨pe_imp (pe_slice op_cutX ha.run hl.run hu.run) fun σ H Q ⟨α, F, ρ, κ, Bs, w, sl, h⟩ =>
    tD_mono (fun x H1 ⟨α1, F1, κ1, d, g1, w1, sl1, r1, h1⟩ => tS1_bind w1 sl1 h1 fun i H2 α2 F2 κ2 g2 w2 sl2 h2 => tS1_bind w2 sl2 h2 fun j H3 α3 F3 κ3 g3 w3 sl3 h3 => by
      obtain ⟨z, hz, h3⟩ := PO.of h3
      exact cut_ok w3 ((r1.gr g2).gr g3) hz h3) (tD_bind w sl h)⟩
end
end DL
set_option Elab.async false
set_option linter.all false
set_option maxRecDepth 100000
set_option maxHeartbeats 4000000
/-! DL4: built-in calls, what is walked, targets, comprehensions. -/
namespace DL
open PySem PySem.Spec PyProof.Rows L2

/-! ### built-in calls -/
def eBi (f : Ka → List D → Option D) (n : Ev (List D)) : Ev D := fun ρ κ => (n ρ κ).bind fun ds κ1 => rOf (f κ1 ds) κ1
/-- .. that makes a new list -/
def fBi (f : Ka → List D → Option (List D)) (n : Ev (List D)) : Ev (List D) := fun ρ κ => (n ρ κ).bind fun ds κ1 => match f κ1 ds with
  | some ys => some (.ok ys, κ1)
  | none => none
def intsOf : List D → Option (List Int)
  | [] => some []
  | .int i :: ds => (intsOf ds).map (i :: ·)
  | _ :: _ => none
theorem intsOf_eq : ∀ {ds : List D} {ns : List Int}, intsOf ds = some ns → ds = ns.map D.int
  | [], ns, h => by cases h; rfl
  | .int i :: ds, ns, h => by
    simp only [intsOf] at h
    obtain ⟨ms, h1, rfl⟩ := Option.map_eq_some_iff.mp h
    rw [intsOf_eq h1]; rfl
  | .non :: _, _, h => by cases h
  | .bl _ :: _, _, h => by cases h
  | .str _ :: _, _, h => by cases h
  | .tup _ :: _, _, h => by cases h
  | .lst _ :: _, _, h => by cases h
  | .bor _ :: _, _, h => by cases h
  | .obj _ :: _, _, h => by cases h
  | .rol _ :: _, _, h => by cases h
theorem intsOf_map (ns : List Int) : intsOf (ns.map D.int) = some ns := by
  induction ns with
  | nil => rfl
  | cons n ns ih => simp [intsOf, ih]
def bLen (κ : Ka) (ds : List D) : Option D := match ds with
  | [.str x] => if x.length ≤ 16777216 then some (.int x.length) else none
  | [.tup xs] => some (.int xs.length)
  | [.lst xs] => some (.int xs.length)
  | [.bor xs] => some (.int xs.length)
  | [.rol xs] => some (.int xs.length)
  | [.obj n] => match κ[n]? with
    | some (.lst xs) => some (.int xs.length)
    | _ => none
  | _ => none
def listK (κ : Ka) (d : D) : Option (List D) := match d with
  | .lst ds => some ds
  | .bor ds => some ds
  | .obj n => match κ[n]? with
    | some (.lst ds) => some ds
    | _ => none
  | _ => none
def itemsK (κ : Ka) (d : D) : Option (List D) := match d with
  | .tup ds => some ds
  | d => listK κ d
def maxL : List Int → Option Int
  | [] => none
  | n :: ns => some (ns.foldl (fun a b => if b > a then b else a) n)
def minL : List Int → Option Int
  | [] => none
  | n :: ns => some (ns.foldl (fun a b => if b < a then b else a) n)
def bMax (κ : Ka) (ds : List D) : Option D := match ds with
  | [.int i, .int j] => some (.int (if j > i then j else i))
  | [d] => ((listK κ d).bind intsOf).bind fun ns => (maxL ns).map D.int
  | _ => none
def bMin (κ : Ka) (ds : List D) : Option D := match ds with
  | [.int i, .int j] => some (.int (if j < i then j else i))
  | [d] => ((listK κ d).bind intsOf).bind fun ns => (minL ns).map D.int
  | _ => none
def bSum (κ : Ka) (ds : List D) : Option D := match ds with
  | [d] => ((listK κ d).bind intsOf).map fun ns => .int ns.sum
  | _ => none
def bAbs (_ : Ka) (ds : List D) : Option D := match ds with
  | [.int i] => some (.int (if i < 0 then -i else i))
  | _ => none
def bInt (_ : Ka) (ds : List D) : Option D := match ds with
  | [.int i] => some (.int i)
  | [.bl b] => some (.int (if b then 1 else 0))
  | _ => none
def bTuple (κ : Ka) (ds : List D) : Option D := match ds with
  | [d] => (itemsK κ d).map D.tup
  | _ => none
def bList (κ : Ka) (ds : List D) : Option (List D) := match ds with
  | [d] => itemsK κ d
  | _ => none
def tyName (κ : Ka) : D → Option String
  | .non => some "NoneType" | .bl _ => some "bool" | .int _ => some "int" | .str _ => some "str" | .tup _ => some "tuple" | .lst _ => some "list" | .bor _ => some "list" | .rol _ => none
  | .obj n => match κ[n]? with
    | some (.lst _) => some "list"
    | _ => none
def eIsi (T : String) (m : Ev D) : Ev D := fun ρ κ => (m ρ κ).bind fun d κ1 => rOf (((tyName κ1 d).bind fun a => kitB a T).map D.bl) κ1
theorem maxL_mem : ∀ {ns : List Int} {m : Int}, maxL ns = some m → m ∈ ns ∧ ∀ y ∈ ns, y ≤ m := by
  have key : ∀ (ns : List Int) (n : Int), (ns.foldl (fun a b => if b > a then b else a) n) ∈ n :: ns ∧ ∀ y ∈ n :: ns, y ≤ ns.foldl (fun a b => if b > a then b else a) n := by
    intro ns
    induction ns with
    | nil => intro n; simp
    | cons k ns ih =>
      intro n
      obtain ⟨h1, h2⟩ := ih (if k > n then k else n)
      simp only [List.foldl_cons]
      generalize hz : List.foldl (fun a b => if b > a then b else a) (if k > n then k else n) ns = z at h1 h2 ⊢
      have h3 := h2 (if k > n then k else n) (by simp)
      refine ⟨?_, fun y hy => ?_⟩
      · rcases List.mem_cons.mp h1 with e | e
        · rw [e]; split <;> simp
        · simp [e]
      · simp only [List.mem_cons] at hy
        rcases hy with rfl | rfl | hy
        · split at h3 <;> omega
        · split at h3 <;> omega
        · exact h2 y (by simp [hy])
  intro ns m h
  cases ns with
  | nil => cases h
  | cons n ns => cases h; exact key ns n
theorem minL_mem : ∀ {ns : List Int} {m : Int}, minL ns = some m → m ∈ ns ∧ ∀ y ∈ ns, m ≤ y := by
  have key : ∀ (ns : List Int) (n : Int), (ns.foldl (fun a b => if b < a then b else a) n) ∈ n :: ns ∧ ∀ y ∈ n :: ns, ns.foldl (fun a b => if b < a then b else a) n ≤ y := by
    intro ns
    induction ns with
    | nil => intro n; simp
    | cons k ns ih =>
      intro n
      obtain ⟨h1, h2⟩ := ih (if k < n then k else n)
      simp only [List.foldl_cons]
      generalize hz : List.foldl (fun a b => if b < a then b else a) (if k < n then k else n) ns = z at h1 h2 ⊢
      have h3 := h2 (if k < n then k else n) (by simp)
      refine ⟨?_, fun y hy => ?_⟩
      · rcases List.mem_cons.mp h1 with e | e
        · rw [e]; split <;> simp
        · simp [e]
      · simp only [List.mem_cons] at hy
        rcases hy with rfl | rfl | hy
        · split at h3 <;> omega
        · split at h3 <;> omega
        · exact h2 y (by simp [hy])
  intro ns m h
  cases ns with
  | nil => cases h
  | cons n ns => cases h; exact key ns n
theorem maxL_some {ns : List Int} (h : 0 < ns.length) : ∃ m, maxL ns = some m := by
  cases ns with
  | nil => simp at h
  | cons n ns => exact ⟨_, rfl⟩
theorem minL_some {ns : List Int} (h : 0 < ns.length) : ∃ m, minL ns = some m := by
  cases ns with
  | nil => simp at h
  | cons n ns => exact ⟨_, rfl⟩
section
variable {G : Gx} {W : XK} {X : Cx} {K : PySem.W.Frag} {α : List Addr} {F H : Hp} {κ : Ka} {Q : VK} {e a b c : Expr} {es : List Expr} {m ma mb mc : Ev D} {n : Ev (List D)} {pos p : Pos} {d : D} {ds : List D} {x : V} {vs : List V}
theorem rv_listK (w : Wd G K α F H κ) (r : Rv K α F H d x) (h : listK κ d = some ds) : ∃ a xs, x = .ref a ∧ H a = some (.lst xs) ∧ RpL K α F ds xs := by
  cases d with
  | obj n =>
    simp only [listK] at h
    split at h
    · rename_i hk
      cases h
      cases r with
      | obj ha => obtain ⟨xs, h1, q⟩ := w.cell ha hk; exact ⟨_, xs, rfl, h1, q⟩
    · cases h
  | lst ds => exact rv_list w r h
  | bor ds => exact rv_list w r h
  | _ => cases h
theorem rv_itemsK (w : Wd G K α F H κ) (r : Rv K α F H d x) (h : itemsK κ d = some ds) : ∃ a xs, x = .ref a ∧ (SqL K H a xs ∨ SqT K H a xs) ∧ RpL K α F ds xs := by
  cases d with
  | tup ds => cases h; obtain ⟨a, xs, e, h1, q⟩ := rv_tup w r; exact ⟨a, xs, e, .inr h1, q⟩
  | _ => obtain ⟨a, xs, e, h1, q⟩ := rv_listK w r h; exact ⟨a, xs, e, .inl (SqL.of h1), q⟩
/-- a built-in's call by what its meaning makes of data -/
def BiD (X : Cx) (r : List V → Hp → VK → Prop) (f : Ka → List D → Option D) : Prop := ∀ (G : Gx) (W : XK) (α : List Addr) (F H : Hp) (κ : Ka) (Q : VK) (ds : List D) (vs : List V), Wd G X.K α F H κ → RvL X.K α F H ds vs → PO G W X.K α F H Q (rOf (f κ ds) κ) → r vs H Q
theorem d_biB {id : String} {x : Str} {r : List V → Hp → VK → Prop} {f : Ka → List D → Option D} (hc : CallR X (.builtin id) r) (hf : BiD X r f) (hv : bootBuiltins x = some (.builtin id)) (hg : Gl X x) (hm : X.mg x = none) (ha : PDL G W X (e :: es) n)
    (hn : x ≠ "__name__" := by decide) (hdb : (x == ("__debug__" : Str)) = false := by decide)
    (he : starEach (e :: es) X.env = (false, eval e X.env) :: starEach es X.env := by rfl) (hpl : (backTo pos (starEach es X.env)).any (·.1) = false := by rfl) : PD G W X (.Call (.Name x p) (e :: es) [] pos) (eBi f n) :=
  ⟨pe_imp (pe_callB hc hg hm hv ha.run hn hdb he hpl) fun σ H Q ⟨α, F, ρ, κ, Bs, w, sl, h⟩ =>
    tL_mono (fun xs H1 ⟨α1, F1, κ1, ds, g1, w1, sl1, r1, h1⟩ => hf G W α1 F1 H1 κ1 Q ds xs w1 r1 h1) (tL_bind w sl h)⟩
theorem d_biT {T : String} {x : Str} {r : List V → Hp → VK → Prop} {f : Ka → List D → Option D} (hc : CallR X (.type T) r) (hf : BiD X r f) (hv : bootBuiltins x = some (.type T)) (hg : Gl X x) (hm : X.mg x = none) (ha : PDL G W X (e :: es) n)
    (hn : x ≠ "__name__" := by decide) (hdb : (x == ("__debug__" : Str)) = false := by decide)
    (he : starEach (e :: es) X.env = (false, eval e X.env) :: starEach es X.env := by rfl) (hpl : (backTo pos (starEach es X.env)).any (·.1) = false := by rfl) : PD G W X (.Call (.Name x p) (e :: es) [] pos) (eBi f n) :=
  ⟨pe_imp (pe_callTy hc hg hm hv ha.run hn hdb he hpl) fun σ H Q ⟨α, F, ρ, κ, Bs, w, sl, h⟩ =>
    tL_mono (fun xs H1 ⟨α1, F1, κ1, ds, g1, w1, sl1, r1, h1⟩ => hf G W α1 F1 H1 κ1 Q ds xs w1 r1 h1) (tL_bind w sl h)⟩
theorem rvl1 (r : RvL K α F H [d] vs) : ∃ x, vs = [x] ∧ Rv K α F H d x := by
  cases r with
  | cons h t => cases t; exact ⟨_, rfl, h⟩
theorem rvl2 {d e : D} (r : RvL K α F H [d, e] vs) : ∃ x y, vs = [x, y] ∧ Rv K α F H d x ∧ Rv K α F H e y := by
  cases r with
  | cons h t => cases t with | cons h2 t => cases t; exact ⟨_, _, rfl, h, h2⟩
theorem lenD : BiD X (fun xs H Q => ∃ x n, xs = [x] ∧ LenV X.K x H n ∧ Q (.int n) H) bLen := fun G W α F H κ Q ds vs w r h => by
  obtain ⟨z, hz, h⟩ := PO.of h
  unfold bLen at hz
  split at hz
  · split at hz
    · rename_i hl
      cases hz
      obtain ⟨x, rfl, rx⟩ := rvl1 r
      rw [rv_str rx]
      exact ⟨_, _, rfl, ⟨by rw [sizeLine_eq]; exact hl, rfl⟩, PO.now w h (.int _)⟩
    · cases hz
  · cases hz
    obtain ⟨x, rfl, rx⟩ := rvl1 r
    obtain ⟨a, xs, rfl, h1, q⟩ := rv_tup w rx
    exact ⟨_, _, rfl, .inr ⟨xs, h1, q.length⟩, PO.now w h (.int _)⟩
  · cases hz
    obtain ⟨x, rfl, rx⟩ := rvl1 r
    obtain ⟨a, xs, rfl, h1, q⟩ := rv_list w rx rfl
    exact ⟨_, _, rfl, .inl ⟨xs, SqL.of h1, q.length⟩, PO.now w h (.int _)⟩
  · cases hz
    obtain ⟨x, rfl, rx⟩ := rvl1 r
    obtain ⟨a, xs, rfl, h1, q⟩ := rv_list w rx rfl
    exact ⟨_, _, rfl, .inl ⟨xs, SqL.of h1, q.length⟩, PO.now w h (.int _)⟩
  · cases hz
    obtain ⟨x, rfl, rx⟩ := rvl1 r
    cases rx with
    | rol h1 q => exact ⟨_, _, rfl, .inl ⟨_, Same.seq w.sub h1, q.length⟩, PO.now w h (.int _)⟩
  · split at hz
    · rename_i n ds hk
      cases hz
      obtain ⟨x, rfl, rx⟩ := rvl1 r
      obtain ⟨a, xs, rfl, h1, q⟩ := rv_listK (ds := ds) w rx (by simp [listK, hk])
      exact ⟨_, _, rfl, .inl ⟨xs, SqL.of h1, q.length⟩, PO.now w h (.int _)⟩
    · cases hz
  · cases hz
theorem d_len (hg : Gl X "len") (hm : X.mg "len" = none) (ha : PDL G W X [e] n) (he : starEach [e] X.env = (false, eval e X.env) :: starEach [] X.env := by rfl) (hpl : (backTo pos (starEach [] X.env)).any (·.1) = false := by rfl) : PD G W X (.Call (.Name "len" p) [e] [] pos) (eBi bLen n) := d_biB call_len lenD PySem.boot_len hg hm ha (he := he) (hpl := hpl)
def rMaxX (K : PySem.W.Frag) : List V → Hp → VK → Prop := fun xs H Q => (∃ i j, xs = [.int i, .int j] ∧ Q (.int (if j > i then j else i)) H) ∨ rMax K xs H Q
def rMinX (K : PySem.W.Frag) : List V → Hp → VK → Prop := fun xs H Q => (∃ i j, xs = [.int i, .int j] ∧ Q (.int (if j < i then j else i)) H) ∨ rMin K xs H Q
theorem maxD : BiD X (rMaxX X.K) bMax := fun G W α F H κ Q ds vs w r h => by
  obtain ⟨z, hz, h⟩ := PO.of h
  unfold bMax at hz
  split at hz
  · cases hz
    obtain ⟨x, y, rfl, rx, ry⟩ := rvl2 r
    exact .inl ⟨_, _, by rw [rv_int rx, rv_int ry], PO.now w h (.int _)⟩
  · obtain ⟨ns, h1, h2⟩ := Option.bind_eq_some_iff.mp hz
    obtain ⟨us, h3, h4⟩ := Option.bind_eq_some_iff.mp h1
    obtain ⟨k, h5, rfl⟩ := Option.map_eq_some_iff.mp h2
    obtain ⟨x, rfl, rx⟩ := rvl1 r
    obtain ⟨a, xs, rfl, ha, q⟩ := rv_listK w rx h3
    rw [intsOf_eq h4] at q
    rw [q.ints] at ha
    obtain ⟨k1, k2⟩ := maxL_mem h5
    refine .inr ⟨a, ns, rfl, SqL.of ha, List.length_pos_of_mem k1, fun m hm hle => ?_⟩
    have e1 : m = k := Int.le_antisymm (k2 m hm) (hle k k1)
    rw [e1]
    exact PO.now w h (.int _)
  · cases hz
theorem minD : BiD X (rMinX X.K) bMin := fun G W α F H κ Q ds vs w r h => by
  obtain ⟨z, hz, h⟩ := PO.of h
  unfold bMin at hz
  split at hz
  · cases hz
    obtain ⟨x, y, rfl, rx, ry⟩ := rvl2 r
    exact .inl ⟨_, _, by rw [rv_int rx, rv_int ry], PO.now w h (.int _)⟩
  · obtain ⟨ns, h1, h2⟩ := Option.bind_eq_some_iff.mp hz
    obtain ⟨us, h3, h4⟩ := Option.bind_eq_some_iff.mp h1
    obtain ⟨k, h5, rfl⟩ := Option.map_eq_some_iff.mp h2
    obtain ⟨x, rfl, rx⟩ := rvl1 r
    obtain ⟨a, xs, rfl, ha, q⟩ := rv_listK w rx h3
    rw [intsOf_eq h4] at q
    rw [q.ints] at ha
    obtain ⟨k1, k2⟩ := minL_mem h5
    refine .inr ⟨a, ns, rfl, SqL.of ha, List.length_pos_of_mem k1, fun m hm hle => ?_⟩
    have e1 : m = k := Int.le_antisymm (hle k k1) (k2 m hm)
    rw [e1]
    exact PO.now w h (.int _)
  · cases hz
theorem sumD : BiD X (rSum X.K) bSum := fun G W α F H κ Q ds vs w r h => by
  obtain ⟨z, hz, h⟩ := PO.of h
  unfold bSum at hz
  split at hz
  · obtain ⟨ns, h1, rfl⟩ := Option.map_eq_some_iff.mp hz
    obtain ⟨us, h3, h4⟩ := Option.bind_eq_some_iff.mp h1
    obtain ⟨x, rfl, rx⟩ := rvl1 r
    obtain ⟨a, xs, rfl, ha, q⟩ := rv_listK w rx h3
    rw [intsOf_eq h4] at q
    rw [q.ints] at ha
    exact ⟨a, ns, rfl, SqL.of ha, PO.now w h (.int _)⟩
  · cases hz
theorem absD : BiD X (fun xs H Q => ∃ i, xs = [.int i] ∧ Q (.int (if i < 0 then -i else i)) H) bAbs := fun G W α F H κ Q ds vs w r h => by
  obtain ⟨z, hz, h⟩ := PO.of h
  unfold bAbs at hz
  split at hz
  · cases hz
    obtain ⟨x, rfl, rx⟩ := rvl1 r
    exact ⟨_, by rw [rv_int rx], PO.now w h (.int _)⟩
  · cases hz
theorem intBD : BiD X (fun xs H Q => (∃ i, xs = [.int i] ∧ Q (.int i) H) ∨ ∃ k, xs = [.bl k] ∧ Q (.int (if k then 1 else 0)) H) bInt := fun G W α F H κ Q ds vs w r h => by
  obtain ⟨z, hz, h⟩ := PO.of h
  unfold bInt at hz
  split at hz
  · cases hz
    obtain ⟨x, rfl, rx⟩ := rvl1 r
    exact .inl ⟨_, by rw [rv_int rx], PO.now w h (.int _)⟩
  · cases hz
    obtain ⟨x, rfl, rx⟩ := rvl1 r
    exact .inr ⟨_, by rw [rv_bl rx], PO.now w h (.int _)⟩
  · cases hz
theorem tupleD : BiD X (fun xs H Q => ∃ p ys, xs = [.ref p] ∧ ((SqL X.K H p ys ∧ ∀ l, H l = none → Q (.ref l) (upd H l (.tup ys))) ∨ (SqT X.K H p ys ∧ Q (.ref p) H))) bTuple := fun G W α F H κ Q ds vs w r h => by
  obtain ⟨z, hz, hh⟩ := PO.of h
  clear h
  unfold bTuple at hz
  split at hz
  · rename_i d
    obtain ⟨us, h3, rfl⟩ := Option.map_eq_some_iff.mp hz
    obtain ⟨x, rfl, rx⟩ := rvl1 r
    cases d with
    | tup ts =>
      cases h3
      obtain ⟨a, xs, rfl, h1, q⟩ := rv_tup w rx
      exact ⟨a, xs, rfl, .inr ⟨h1, PO.now w hh rx⟩⟩
    | _ =>
      obtain ⟨a, xs, rfl, ha, q⟩ := rv_listK w rx h3
      exact ⟨a, xs, rfl, .inl ⟨SqL.of ha, fun l hl => PO.tupNew w hh q hl⟩⟩
  · cases hz
theorem d_max (hc : X.calm = true) (hg : Gl X "max") (hm : X.mg "max" = none) (ha : PDL G W X (e :: es) n) (he : starEach (e :: es) X.env = (false, eval e X.env) :: starEach es X.env := by rfl) (hpl : (backTo pos (starEach es X.env)).any (·.1) = false := by rfl) :
    PD G W X (.Call (.Name "max" p) (e :: es) [] pos) (eBi bMax n) := d_biB (CallR.or (call_max2 hc) (cr_max hc)) maxD PyProof.Rows.boot_max hg hm ha (he := he) (hpl := hpl)
theorem d_min (hc : X.calm = true) (hg : Gl X "min") (hm : X.mg "min" = none) (ha : PDL G W X (e :: es) n) (he : starEach (e :: es) X.env = (false, eval e X.env) :: starEach es X.env := by rfl) (hpl : (backTo pos (starEach es X.env)).any (·.1) = false := by rfl) :
    PD G W X (.Call (.Name "min" p) (e :: es) [] pos) (eBi bMin n) := d_biB (CallR.or (call_min2 hc) (cr_min hc)) minD PyProof.Rows.boot_min hg hm ha (he := he) (hpl := hpl)
theorem d_sum (hc : X.calm = true) (hg : Gl X "sum") (hm : X.mg "sum" = none) (ha : PDL G W X [e] n) (he : starEach [e] X.env = (false, eval e X.env) :: starEach [] X.env := by rfl) (hpl : (backTo pos (starEach [] X.env)).any (·.1) = false := by rfl) :
    PD G W X (.Call (.Name "sum" p) [e] [] pos) (eBi bSum n) := d_biB (cr_sum hc) sumD PyProof.Rows.boot_sum hg hm ha (he := he) (hpl := hpl)
theorem d_abs (hg : Gl X "abs") (hm : X.mg "abs" = none) (ha : PDL G W X [e] n) (he : starEach [e] X.env = (false, eval e X.env) :: starEach [] X.env := by rfl) (hpl : (backTo pos (starEach [] X.env)).any (·.1) = false := by rfl) :
    PD G W X (.Call (.Name "abs" p) [e] [] pos) (eBi bAbs n) := d_biB call_abs absD PyProof.Rows.boot_abs hg hm ha (he := he) (hpl := hpl)
theorem d_int1 (hg : Gl X "int") (hm : X.mg "int" = none) (ha : PDL G W X [e] n) (he : starEach [e] X.env = (false, eval e X.env) :: starEach [] X.env := by rfl) (hpl : (backTo pos (starEach [] X.env)).any (·.1) = false := by rfl) :
    PD G W X (.Call (.Name "int" p) [e] [] pos) (eBi bInt n) := d_biT call_int1 intBD (by decide +kernel) hg hm ha (he := he) (hpl := hpl)
theorem d_tuple (hg : Gl X "tuple") (hm : X.mg "tuple" = none) (ha : PDL G W X [e] n) (he : starEach [e] X.env = (false, eval e X.env) :: starEach [] X.env := by rfl) (hpl : (backTo pos (starEach [] X.env)).any (·.1) = false := by rfl) :
    PD G W X (.Call (.Name "tuple" p) [e] [] pos) (eBi bTuple n) := d_biT call_tuple_of tupleD (by decide +kernel) hg hm ha (he := he) (hpl := hpl)
theorem d_list (hg : Gl X "list") (hm : X.mg "list" = none) (ha : PDL G W X [e] n) (he : starEach [e] X.env = (false, eval e X.env) :: starEach [] X.env := by rfl) (hpl : (backTo pos (starEach [] X.env)).any (·.1) = false := by rfl) :
    PF G W X (.Call (.Name "list" p) [e] [] pos) (fBi bList n) :=
  ⟨pe_imp (pe_callTy call_list_of hg hm (by decide +kernel) ha.run (he := he) (hpl := hpl)) fun σ H Q ⟨α, F, ρ, κ, Bs, w, sl, h⟩ =>
    tL_mono (fun xs H1 ⟨α1, F1, κ1, ds, g1, w1, sl1, r1, h1⟩ => by
      rcases hb : bList κ1 ds with _ | ys
      · rw [hb] at h1; exact h1.elim
      · rw [hb] at h1
        unfold bList at hb
        split at hb
        · obtain ⟨x, rfl, rx⟩ := rvl1 r1
          obtain ⟨a, xs, rfl, hs, q⟩ := rv_itemsK w1 rx hb
          exact ⟨a, xs, rfl, hs, fun l hl => POF.lstNew w1 h1 q hl⟩
        · cases hb) (tL_bindF w sl h)⟩
theorem ty_of (w : Wd G K α F H κ) (r : Rv K α F H d x) {T : String} (h : tyName κ d = some T) : TyX K H x (.type T) := by
  cases d with
  | non => cases r; cases h; exact .base .non
  | bl => cases r; cases h; exact .base (.bl _)
  | int => cases r; cases h; exact .base (.int _)
  | str => cases r; cases h; exact .base (.str _)
  | tup ds =>
    cases h
    obtain ⟨a, xs, rfl, h1, q⟩ := rv_tup w r
    rcases h1 with (h1 | ⟨o, h1⟩) | ⟨o, its, n, h1, h2, _⟩
    · exact .base (.tup h1)
    · exact .fTuple h1
    · exact .kTuple h1 h2
  | lst ds => cases h; obtain ⟨a, xs, rfl, h1, q⟩ := rv_list w r rfl; exact .base (.lst h1)
  | bor ds => cases h; obtain ⟨a, xs, rfl, h1, q⟩ := rv_list w r rfl; exact .base (.lst h1)
  | rol ds => cases h
  | obj n =>
    simp only [tyName] at h
    split at h
    · rename_i ds hk
      cases h
      obtain ⟨a, xs, rfl, h1, q⟩ := rv_listK (ds := ds) w r (by simp [listK, hk])
      exact .base (.lst h1)
    · cases h
theorem d_isi {T : Str} {Ts : String} {p2 : Pos} (hT : bootBuiltins T = some (.type Ts)) (hg2 : Gl X T) (hm2 : X.mg T = none) (hg : Gl X "isinstance") (hm : X.mg "isinstance" = none) (ha : PD G W X a ma)
    (hn : T ≠ "__name__" := by decide) (hdb : (T == ("__debug__" : Str)) = false := by decide)
    (hs : starEach [a, .Name T p2] X.env = (false, eval a X.env) :: starEach [.Name T p2] X.env := by rfl) (hs2 : starEach [.Name T p2] X.env = (false, eval (.Name T p2) X.env) :: starEach [] X.env := by rfl)
    (hpl : (backTo pos (starEach [.Name T p2] X.env)).any (·.1) = false := by rfl) :
    PD G W X (.Call (.Name "isinstance" p) [a, .Name T p2] [] pos) (eIsi Ts ma) :=
  ⟨pe_imp (pe_callB call_isi hg hm PyProof.Rows.boot_isinstance (pa_cons ha.run (pa_cons (pe_bltn hg2 hm2 hT (v := .ty Ts) rfl hn hdb) pa_nil hs2) hs) (hpl := hpl) (he := hs)) fun σ H Q ⟨α, F, ρ, κ, Bs, w, sl, h⟩ =>
    tD_mono (fun x H1 ⟨α1, F1, κ1, d, g1, w1, sl1, r1, h1⟩ => by
      obtain ⟨b, hb, q⟩ := PO.bl w1 h1
      obtain ⟨t, h2, h3⟩ := Option.bind_eq_some_iff.mp hb
      exact ⟨x, .ty Ts, _, _, b, rfl, .ty Ts, ty_of w1 r1 h2, kit_ty h3, q⟩) (tD_bind w sl h)⟩
end

/-! ### what is walked -/
structure Exn (α : List Addr) (F : Hp) (α' : List Addr) (F' : Hp) : Prop where
  al : ∃ β, α' = α ++ β
  fr : Same F F'
theorem Gr.exn {α α' : List Addr} {F F' H H' : Hp} (g : Gr α F H α' F' H') : Exn α F α' F' := ⟨let ⟨β, e, _⟩ := g.al; ⟨β, e⟩, g.fr⟩
theorem Exn.refl (α : List Addr) (F : Hp) : Exn α F α F := ⟨⟨[], by simp⟩, Same.refl _⟩
theorem Exn.trans {α α1 α2 : List Addr} {F F1 F2 : Hp} (a : Exn α F α1 F1) (b : Exn α1 F1 α2 F2) : Exn α F α2 F2 := by
  refine ⟨?_, a.fr.trans b.fr⟩
  obtain ⟨β, rfl⟩ := a.al
  obtain ⟨γ, rfl⟩ := b.al
  exact ⟨β ++ γ, by simp⟩
theorem RpL.exn {K : PySem.W.Frag} {α α' : List Addr} {F F' : Hp} {ds : List D} {vs : List V} (g : Exn α F α' F') (r : RpL K α F ds vs) : RpL K α' F' ds vs := by
  obtain ⟨β, rfl⟩ := g.al
  exact r.mono g.fr
/-- the worlds in which the walked thing stands: what grows only (l), or where what is not data may have changed too -/
def Later (l : Bool) (α : List Addr) (F H : Hp) (α1 : List Addr) (F1 H1 : Hp) : Prop := if l = true then Gr α F H α1 F1 H1 else Exn α F α1 F1
theorem Later.exn {l : Bool} {α α1 : List Addr} {F F1 H H1 : Hp} (h : Later l α F H α1 F1 H1) : Exn α F α1 F1 := by
  cases l with
  | true => exact Gr.exn h
  | false => exact h
theorem Gr.later {l : Bool} {α α1 : List Addr} {F F1 H H1 : Hp} (h : Gr α F H α1 F1 H1) : Later l α F H α1 F1 H1 := by
  cases l with
  | true => exact h
  | false => exact h.exn
structure ItOk (G : Gx) (K : PySem.W.Frag) (l : Bool) (α : List Addr) (F H : Hp) (J : It) (ds : List D) : Prop where
  go : ∀ α1 F1 H1 κ1, Later l α F H α1 F1 H1 → Wd G K α1 F1 H1 κ1 → ∀ (i : Nat) (d : D), ds[i]? = some d → J.go i H1 ∧ ∀ x H2, J.yld i H1 x H2 → ∃ F2, Gr α1 F1 H1 α1 F2 H2 ∧ Wd G K α1 F2 H2 κ1 ∧ Rp K α1 F2 d x
  stop : ∀ α1 F1 H1 κ1, Later l α F H α1 F1 H1 → Wd G K α1 F1 H1 κ1 → J.stop ds.length H1
def POI (G : Gx) (W : XK) (K : PySem.W.Frag) (l : Bool) (α : List Addr) (F H : Hp) (R : It → Hp → Prop) : Re (List D) → Prop
  | none => False
  | some (o, κ') => ∀ α' F' H', Gr α F H α' F' H' → Wd G K α' F' H' κ' → match o with
    | .ok ds => ∀ J, ItOk G K l α' F' H' J ds → R J H'
    | .er c => W (.ref (G.exc c)) none H'
def tI (G : Gx) (W : XK) (K : PySem.W.Frag) (l : Bool) (m : Ev (List D)) : TI := fun σ H R => ∃ α F ρ κ Bs, Wd G K α F H κ ∧ Sls K α F H Bs ρ σ ∧ POI G W K l α F H R (m ρ κ)
structure PDI (G : Gx) (W : XK) (X : Cx) (l : Bool) (tg e : Expr) (m : Ev (List D)) : Prop where
  run : PI X tg e (tI G W X.K l m)
theorem pi_imp {X : Cx} {tg e : Expr} {t t' : TI} (h : PI X tg e t) (hi : ∀ σ H Q, t' σ H Q → t σ H Q) : PI X tg e t' := ⟨fun pins s σ H Q I q => h.run pins s σ H Q I (hi σ H Q q)⟩
section
variable {G : Gx} {W : XK} {K : PySem.W.Frag} {α α' : List Addr} {F F' H H' : Hp} {κ : Ka} {σ : L2.St} {ρ : List Sl} {Bs : Hp} {l : Bool} {R : It → Hp → Prop}
theorem POI.gr {r : Re (List D)} (g : Gr α F H α' F' H') (h : POI G W K l α F H R r) : POI G W K l α' F' H' R r := by
  rcases r with _ | ⟨o, κ'⟩
  · exact h
  · exact fun α2 F2 H2 g2 w2 => h α2 F2 H2 (g.trans g2) w2
theorem tD_bindI {m : Ev D} {f : D → Ka → Re (List D)} (w : Wd G K α F H κ) (sl : Sls K α F H Bs ρ σ) (h : POI G W K l α F H R ((m ρ κ).bind f)) :
    tD G W K m σ H fun x H1 => ∃ α1 F1 κ1 d, Gr α F H α1 F1 H1 ∧ Wd G K α1 F1 H1 κ1 ∧ Sls K α1 F1 H1 Bs ρ σ ∧ Rv K α1 F1 H1 d x ∧ POI G W K l α1 F1 H1 R (f d κ1) := by
  refine ⟨α, F, ρ, κ, Bs, w, sl, ?_⟩
  rcases hm : m ρ κ with _ | ⟨o, κ'⟩
  · rw [hm] at h; exact h
  · rw [hm] at h
    cases o with
    | ok d => exact fun α' F' H' g w' v r => ⟨α', F', κ', d, g, w', sl.gr g, r, POI.gr g h⟩
    | er c => exact h
theorem tL_bindI {m : Ev (List D)} {f : List D → Ka → Re (List D)} (w : Wd G K α F H κ) (sl : Sls K α F H Bs ρ σ) (h : POI G W K l α F H R ((m ρ κ).bind f)) :
    tL G W K m σ H fun x H1 => ∃ α1 F1 κ1 d, Gr α F H α1 F1 H1 ∧ Wd G K α1 F1 H1 κ1 ∧ Sls K α1 F1 H1 Bs ρ σ ∧ RvL K α1 F1 H1 d x ∧ POI G W K l α1 F1 H1 R (f d κ1) := by
  refine ⟨α, F, ρ, κ, Bs, w, sl, ?_⟩
  rcases hm : m ρ κ with _ | ⟨o, κ'⟩
  · rw [hm] at h; exact h
  · rw [hm] at h
    cases o with
    | ok d => exact fun α' F' H' g w' v r => ⟨α', F', κ', d, g, w', sl.gr g, r, POI.gr g h⟩
    | er c => exact h
theorem POI.now {J : It} {ds : List D} (w : Wd G K α F H κ) (h : POI G W K l α F H R (some (.ok ds, κ))) (j : ItOk G K l α F H J ds) : R J H := h α F H (Gr.refl _ _ _) w J j
end
def rOfL (o : Option (List D)) (κ : Ka) : Re (List D) := match o with
  | some ds => some (.ok ds, κ)
  | none => none
def walkD (l : Bool) (d : D) : Option (List D) := match d with
  | .tup ds => some ds
  | .lst ds => some ds
  | .bor ds => if l = true then some ds else none
  | .str z => some (z.cps.toList.map fun c => .str ⟨#[c]⟩)
  | _ => none
def iAny (l : Bool) (m : Ev D) : Ev (List D) := fun ρ κ => (m ρ κ).bind fun d κ1 => rOfL (walkD l d) κ1
def rangeD (lo hi : Int) : List D := (List.range (hi - lo).toNat).map fun (k : Nat) => .int (lo + (k : Int))
def okR (i : Int) : Prop := -(4611686018427387904) ≤ i ∧ i < 4611686018427387904
instance (i : Int) : Decidable (okR i) := by unfold okR; infer_instance
def bRange1 (ds : List D) : Option (List D) := match ds with
  | [.int j] => if okR j then some (rangeD 0 j) else none
  | _ => none
def bRange2 (ds : List D) : Option (List D) := match ds with
  | [.int i, .int j] => if okR i ∧ okR j then some (rangeD i j) else none
  | _ => none
def rangeC (lo hi c : Int) : List D := (List.range (Builtin.Range.rangeSize lo hi c).toNat).map fun (k : Nat) => .int (lo + (k : Int) * c)
/-- range(i, j, -1) -/
def bRange3 (ds : List D) : Option (List D) := match ds with
  | [.int i, .int j, .int c] => if okR i ∧ okR j ∧ c = -1 then some ((List.range (i - j).toNat).map fun (k : Nat) => .int (i + (k : Int) * -1)) else none
  | _ => none
def iRange1 (n : Ev (List D)) : Ev (List D) := fun ρ κ => (n ρ κ).bind fun ds κ1 => rOfL (bRange1 ds) κ1
def iRange2 (n : Ev (List D)) : Ev (List D) := fun ρ κ => (n ρ κ).bind fun ds κ1 => rOfL (bRange2 ds) κ1
def iRange3 (n : Ev (List D)) : Ev (List D) := fun ρ κ => (n ρ κ).bind fun ds κ1 => rOfL (bRange3 ds) κ1
section
variable {G : Gx} {W : XK} {X : Cx} {K : PySem.W.Frag} {α : List Addr} {F H : Hp} {κ : Ka} {e a b c : Expr} {es : List Expr} {m ma mb mc : Ev D} {n : Ev (List D)} {pos p : Pos} {d : D} {ds : List D} {x : V} {vs : List V} {l : Bool} {tg : Expr}
/-- a walked list, tuple or text -/
def iAnyR (K : PySem.W.Frag) (te : TE) : TI := fun σ H R => te σ H fun x H1 => (∃ a xs, x = .ref a ∧ SqL K H1 a xs ∧ R (Itl K a) H1) ∨ (∃ a xs, x = .ref a ∧ SqT K H1 a xs ∧ R (Itt K a) H1) ∨ ∃ z, x = .str z ∧ R (Its z) H1
theorem pi_any {te : TE} (he : PE X e te) : PI X tg e (iAnyR X.K te) := by
  refine ⟨fun pins s σ H R I h => ?_⟩
  refine thn (he.run pins s σ H _ I h) fun v s1 ⟨x, H1, I1, r1, q1⟩ => ?_
  rcases q1 with ⟨a, xs, rfl, hq, q⟩ | ⟨a, xs, rfl, hq, q⟩ | ⟨z, rfl, q⟩
  · cases r1
    obtain ⟨its, rv, p, hz⟩ := I1.list hq
    refine wpAny_pyIter_list p.isList ?_
    refine ⟨s1.heap.objs.size, [s1.heap.objs.size], _, _, H1, rfl, I1.kept (t' := s1.toks) fun b o e => Heap.get?_push_of_some _ e, turn_list a _, ⟨_, Heap.get?_push_size _ rfl, rfl, rfl⟩, fun b hb => ?_, q⟩
    have e : b = s1.heap.objs.size := by simpa using hb
    subst e
    exact I1.fpOk (Nat.le_refl _) (I1.hok.fresh (Nat.le_refl _))
  · cases r1
    obtain ⟨its, rv, p, hz⟩ := I1.tuple hq
    refine wpAny_pyIter_tuple (show s1.heap.IsTuple a its.toArray from p) ?_
    refine ⟨s1.heap.objs.size, [s1.heap.objs.size], _, _, H1, rfl, I1.kept (t' := s1.toks) fun b o e => Heap.get?_push_of_some _ e, turn_tuple a _, ⟨_, Heap.get?_push_size _ rfl, rfl, rfl⟩, fun b hb => ?_, q⟩
    have e : b = s1.heap.objs.size := by simpa using hb
    subst e
    exact I1.fpOk (Nat.le_refl _) (I1.hok.fresh (Nat.le_refl _))
  · obtain ⟨t, rfl⟩ := r1
    cases ha : z.cps.all (· < 128)
    · exact wpAny_pyIter_wide ha (pi_one (tk := s1.toks) I1 _ (turn_str _ z t "str_iterator" (.inr rfl)) ⟨_, Heap.get?_push_size _ rfl, rfl, rfl⟩ q)
    · exact wpAny_pyIter_ascii ha (pi_one (tk := s1.toks) I1 _ (turn_str _ z t "str_ascii_iterator" (.inl rfl)) ⟨_, Heap.get?_push_size _ rfl, rfl, rfl⟩ q)
theorem Gr.stay (w : Wd G K α F H κ) {i : Nat} {d : D} {x : V} (h : Rp K α F d x) : ∃ F2, Gr α F H α F2 H ∧ Wd G K α F2 H κ ∧ Rp K α F2 d x := ⟨F, Gr.refl _ _ _, w, h⟩
theorem itOk_list {a : Addr} {xs : List V} (h : F a = some (.lst xs)) (r : RpL K α F ds xs) : ItOk G K l α F H (Itl K a) ds where
  go := fun α1 F1 H1 κ1 lt w i d hd => by
    have ha : SqL K H1 a xs := SqL.of_sub w.sub (lt.exn.fr _ _ h)
    obtain ⟨v, hv, rv⟩ := (r.exn lt.exn).get hd
    refine ⟨⟨xs, v, ha, hv⟩, fun x H2 hy => ?_⟩
    obtain ⟨rfl, fy⟩ := hy
    have e := fy xs ha
    rw [hv] at e; cases e
    exact ⟨F1, Gr.refl _ _ _, w, rv⟩
  stop := fun α1 F1 H1 κ1 lt w => ⟨xs, SqL.of_sub w.sub (lt.exn.fr _ _ h), by rw [r.length]; exact Nat.le_refl _⟩
theorem itOk_tup {a : Addr} {xs : List V} (h : SqT K F a xs) (r : RpL K α F ds xs) : ItOk G K l α F H (Itt K a) ds where
  go := fun α1 F1 H1 κ1 lt w i d hd => by
    have ha : SqT K H1 a xs := same_tup w.sub (same_tup lt.exn.fr h)
    obtain ⟨v, hv, rv⟩ := (r.exn lt.exn).get hd
    refine ⟨⟨xs, v, ha, hv⟩, fun x H2 hy => ?_⟩
    obtain ⟨rfl, fy⟩ := hy
    have e := fy xs ha
    rw [hv] at e; cases e
    exact ⟨F1, Gr.refl _ _ _, w, rv⟩
  stop := fun α1 F1 H1 κ1 lt w => ⟨xs, same_tup w.sub (same_tup lt.exn.fr h), by rw [r.length]; exact Nat.le_refl _⟩
theorem itOk_bor {a : Addr} {xs : List V} (h : H a = some (.lst xs)) (n : a ∉ α) (r : RpL K α F ds xs) : ItOk G K true α F H (Itl K a) ds where
  go := fun α1 F1 H1 κ1 lt w i d hd => by
    have lt : Gr α F H α1 F1 H1 := lt
    have ha : SqL K H1 a xs := SqL.of (lt.ke _ _ h n)
    obtain ⟨v, hv, rv⟩ := (r.exn lt.exn).get hd
    refine ⟨⟨xs, v, ha, hv⟩, fun x H2 hy => ?_⟩
    obtain ⟨rfl, fy⟩ := hy
    have e := fy xs ha
    rw [hv] at e; cases e
    exact ⟨F1, Gr.refl _ _ _, w, rv⟩
  stop := fun α1 F1 H1 κ1 lt w => ⟨xs, SqL.of (Gr.ke (show Gr α F H α1 F1 H1 from lt) _ _ h n), by rw [r.length]; exact Nat.le_refl _⟩
theorem itOk_str (z : Str) : ItOk G K l α F H (Its z) (z.cps.toList.map fun c => .str ⟨#[c]⟩) where
  go := fun α1 F1 H1 κ1 lt w i d hd => by
    rw [List.getElem?_map] at hd
    obtain ⟨c, hc, rfl⟩ := Option.map_eq_some_iff.mp hd
    have hc' : z.cps[i]? = some c := by simpa using hc
    refine ⟨(Array.getElem?_eq_some_iff.mp hc').1, fun x H2 hy => ?_⟩
    obtain ⟨rfl, c', e, rfl⟩ := hy
    rw [hc'] at e; cases e
    exact ⟨F1, Gr.refl _ _ _, w, .str _⟩
  stop := fun α1 F1 H1 κ1 lt w => by show z.cps.size ≤ _; simp
theorem itOk_range (lo : Int) (n : Nat) : ItOk G K l α F H (Itr lo n) ((List.range n).map fun (k : Nat) => .int (lo + (k : Int))) where
  go := fun α1 F1 H1 κ1 lt w i d hd => by
    rw [List.getElem?_map] at hd
    obtain ⟨c, hc, rfl⟩ := Option.map_eq_some_iff.mp hd
    obtain ⟨h1, h2⟩ := List.getElem?_eq_some_iff.mp hc
    have h3 : i < n := by simpa using h1
    have h4 : c = i := by rw [List.getElem_range] at h2; exact h2.symm
    subst h4
    refine ⟨h3, fun x H2 hy => ?_⟩
    obtain ⟨rfl, rfl⟩ := hy
    exact ⟨F1, Gr.refl _ _ _, w, .int _⟩
  stop := fun α1 F1 H1 κ1 lt w => by show n ≤ _; simp
theorem d_iter (ha : PD G W X a ma) : PDI G W X l tg a (iAny l ma) :=
  ⟨pi_imp (pi_any ha.run) fun σ H R ⟨α, F, ρ, κ, Bs, w, sl, h⟩ =>
    tD_mono (fun x H1 ⟨α1, F1, κ1, d, g1, w1, sl1, r1, h1⟩ => by
      cases d with
      | tup ds =>
        cases r1 with
        | tup hs q => exact .inr (.inl ⟨_, _, rfl, same_tup w1.sub hs, POI.now w1 h1 (itOk_tup hs q)⟩)
      | lst ds =>
        cases r1 with
        | lst hs q => exact .inl ⟨_, _, rfl, SqL.of_sub w1.sub hs, POI.now w1 h1 (itOk_list hs q)⟩
      | bor ds =>
        obtain ⟨p, xs, rfl, h2, h3, h4, q⟩ := r1
        cases l with
        | false => exact h1.elim
        | true => exact .inl ⟨_, _, rfl, SqL.of h2, POI.now w1 h1 (itOk_bor h2 h3 q)⟩
      | str z => exact .inr (.inr ⟨z, rv_str r1, POI.now w1 h1 (itOk_str z)⟩)
      | non => exact h1.elim
      | bl => exact h1.elim
      | int => exact h1.elim
      | obj => exact h1.elim
      | rol => exact h1.elim) (tD_bindI w sl h)⟩
theorem itOk_rangeC (lo c : Int) (n : Nat) : ItOk G K l α F H (Itc lo c n) ((List.range n).map fun (k : Nat) => .int (lo + (k : Int) * c)) where
  go := fun α1 F1 H1 κ1 lt w i d hd => by
    rw [List.getElem?_map] at hd
    obtain ⟨k, hc, rfl⟩ := Option.map_eq_some_iff.mp hd
    obtain ⟨h1, h2⟩ := List.getElem?_eq_some_iff.mp hc
    have h3 : i < n := by simpa using h1
    have h4 : k = i := by rw [List.getElem_range] at h2; exact h2.symm
    subst h4
    refine ⟨h3, fun x H2 hy => ?_⟩
    obtain ⟨rfl, rfl⟩ := hy
    exact ⟨F1, Gr.refl _ _ _, w, .int _⟩
  stop := fun α1 F1 H1 κ1 lt w => by show n ≤ _; simp
theorem d_range1 (hg : Gl X "range") (hm : X.mg "range" = none) (ha : PDL G W X [a] n) (hs : starEach [a] X.env = [(false, eval a X.env)] := by rfl) : PDI G W X l tg (.Call (.Name "range" p) [a] [] pos) (iRange1 n) :=
  ⟨pi_imp (pi_range1 hg hm ha.run hs) fun σ H R ⟨α, F, ρ, κ, Bs, w, sl, h⟩ =>
    tL_mono (fun xs H1 ⟨α1, F1, κ1, ds, g1, w1, sl1, r1, h1⟩ => by
      rcases hb : bRange1 ds with _ | ys
      · rw [hb] at h1; exact h1.elim
      · rw [hb] at h1
        unfold bRange1 at hb
        split at hb
        · split at hb
          · rename_i j hj
            cases hb
            obtain ⟨x, rfl, rx⟩ := rvl1 r1
            refine ⟨j, by rw [rv_int rx], hj.1, hj.2, POI.now w1 h1 ?_⟩
            have := itOk_range (G := G) (K := X.K) (l := l) (α := α1) (F := F1) (H := H1) 0 j.toNat
            unfold rangeD
            rw [Int.sub_zero]
            exact this
          · cases hb
        · cases hb) (tL_bindI w sl h)⟩
theorem d_range2 (hg : Gl X "range") (hm : X.mg "range" = none) (ha : PDL G W X [a, b] n) (hs : starEach [a, b] X.env = [(false, eval a X.env), (false, eval b X.env)] := by rfl) (hs2 : starEach [b] X.env = [(false, eval b X.env)] := by rfl) : PDI G W X l tg (.Call (.Name "range" p) [a, b] [] pos) (iRange2 n) :=
  ⟨pi_imp (pi_range2 hg hm ha.run hs hs2) fun σ H R ⟨α, F, ρ, κ, Bs, w, sl, h⟩ =>
    tL_mono (fun xs H1 ⟨α1, F1, κ1, ds, g1, w1, sl1, r1, h1⟩ => by
      rcases hb : bRange2 ds with _ | ys
      · rw [hb] at h1; exact h1.elim
      · rw [hb] at h1
        unfold bRange2 at hb
        split at hb
        · split at hb
          · rename_i i j hj
            cases hb
            obtain ⟨x, y, rfl, rx, ry⟩ := rvl2 r1
            exact ⟨i, j, by rw [rv_int rx, rv_int ry], ⟨hj.1.1, hj.1.2, hj.2.1, hj.2.2⟩, POI.now w1 h1 (itOk_range i (j - i).toNat)⟩
          · cases hb
        · cases hb) (tL_bindI w sl h)⟩
theorem rvl3 {d e f : D} (r : RvL K α F H [d, e, f] vs) : ∃ x y z, vs = [x, y, z] ∧ Rv K α F H d x ∧ Rv K α F H e y ∧ Rv K α F H f z := by
  cases r with
  | cons h t => cases t with | cons h2 t => cases t with | cons h3 t => cases t; exact ⟨_, _, _, rfl, h, h2, h3⟩
theorem d_range3 (hg : Gl X "range") (hm : X.mg "range" = none) (ha : PDL G W X [a, b, c] n) (hs : starEach [a, b, c] X.env = (false, eval a X.env) :: starEach [b, c] X.env := by rfl) (hpl : (backTo pos (starEach [b, c] X.env)).any (·.1) = false := by rfl) : PDI G W X l tg (.Call (.Name "range" p) [a, b, c] [] pos) (iRange3 n) :=
  ⟨pi_imp (pi_range3 hg hm ha.run hs hpl) fun σ H R ⟨α, F, ρ, κ, Bs, w, sl, h⟩ =>
    tL_mono (fun xs H1 ⟨α1, F1, κ1, ds, g1, w1, sl1, r1, h1⟩ => by
      rcases hb : bRange3 ds with _ | ys
      · rw [hb] at h1; exact h1.elim
      · rw [hb] at h1
        unfold bRange3 at hb
        split at hb
        · split at hb
          · rename_i i j c hj
            obtain ⟨hj1, hj2, rfl⟩ := hj
            cases hb
            obtain ⟨x, y, z, rfl, rx, ry, rz⟩ := rvl3 r1
            exact ⟨i, j, -1, _, by rw [rv_int rx, rv_int ry, rv_int rz], RgC.neg hj1.1 hj1.2 hj2.1 hj2.2, POI.now w1 h1 (itOk_rangeC i (-1) (i - j).toNat)⟩
          · cases hb
        · cases hb) (tL_bindI w sl h)⟩
end
end DL
set_option Elab.async false
set_option linter.all false
set_option maxRecDepth 100000
set_option maxHeartbeats 4000000
/-! DL5: targets, comprehensions, statements, defs. -/
namespace DL
open PySem PySem.Spec PyProof.Rows L2

/-! ### slots -/
section
variable {K : PySem.W.Frag} {α : List Addr} {F H Bs : Hp} {ρ : List Sl} {σ : L2.St} {d : D} {v : V} {G : Gx} {κ : Ka}
theorem Sls.set (h : Sls K α F H Bs ρ σ) (i : Nat) {s : Sl} {o : Option V} (so : SlOk K α F H Bs s o)
    (sp : ∀ ds, s = .own ds → ∀ (j : Nat) (es : List D) (a : Addr), ρ[j]? = some (.own es) → σ[j]? = some (some (.ref a)) → o ≠ some (.ref a)) : Sls K α F H Bs (ρ.set i s) (σ.set i o) := by
  refine ⟨by simp [h.len], fun j t e => ?_, fun j k a ds es e1 e2 e3 e4 => ?_⟩
  · by_cases hj : i = j
    · subst hj
      by_cases hi : i < ρ.length
      · rw [List.getElem?_set_self hi] at e; cases e
        exact ⟨o, List.getElem?_set_self (by rw [← h.len]; exact hi), so⟩
      · rw [List.getElem?_eq_none (by simpa using hi)] at e; cases e
    · rw [List.getElem?_set_ne hj] at e
      rw [List.getElem?_set_ne hj]
      exact h.at' j t e
  · by_cases hj : i = j
    · by_cases hk : i = k
      · exact hj.symm.trans hk
      · exfalso
        subst hj
        have hi : i < ρ.length := by
          refine Nat.lt_of_not_le fun q => ?_
          rw [List.getElem?_eq_none (by simpa using q)] at e1; cases e1
        rw [List.getElem?_set_self hi] at e1
        rw [List.getElem?_set_self (by rw [← h.len]; exact hi)] at e3
        rw [List.getElem?_set_ne hk] at e2 e4
        cases e1
        exact sp ds rfl k es a e2 e4 (Option.some.inj e3)
    · by_cases hk : i = k
      · exfalso
        subst hk
        have hi : i < ρ.length := by
          refine Nat.lt_of_not_le fun q => ?_
          rw [List.getElem?_eq_none (by simpa using q)] at e2; cases e2
        rw [List.getElem?_set_self hi] at e2
        rw [List.getElem?_set_self (by rw [← h.len]; exact hi)] at e4
        rw [List.getElem?_set_ne hj] at e1 e3
        cases e2
        exact sp es rfl j ds a e1 e3 (Option.some.inj e4)
      · rw [List.getElem?_set_ne hj] at e1 e3
        rw [List.getElem?_set_ne hk] at e2 e4
        exact h.sep j k a ds es e1 e2 e3 e4
theorem Sls.setVal (h : Sls K α F H Bs ρ σ) (i : Nat) (r : Rp K α F d v) : Sls K α F H Bs (ρ.set i (.val d)) (σ.set i (some v)) :=
  h.set i ⟨v, rfl, r.rv, fun b => by cases d <;> first | (cases b; done) | cases r⟩ (fun ds e => by cases e)
theorem Sls.setNo (h : Sls K α F H Bs ρ σ) (i : Nat) (o : Option V) : Sls K α F H Bs (ρ.set i .no) (σ.set i o) := h.set i trivial (fun ds e => by cases e)
def wipeR (ρ : List Sl) : List Nat → List Sl
  | [] => ρ
  | v :: vs => (wipeR ρ vs).set v .no
theorem Sls.wipe (h : Sls K α F H Bs ρ σ) : ∀ vs : List Nat, Sls K α F H Bs (wipeR ρ vs) (L2.wipe σ vs)
  | [] => h
  | v :: vs => (Sls.wipe h vs).setNo v none
/-- what is not data changes at D: the world stays -/
theorem Wd.out {D : Addr} {o : HO} (w : Wd G K α F H κ) (n : D ∉ α) (f : F D = none) : Wd G K α F (upd H D o) κ := by
  refine ⟨fun b u e => ?_, w.len, w.inj, w.fre, fun k a c e1 e2 => ?_⟩
  · rw [upd_ne (ne_of_none e f)]; exact w.sub _ _ e
  · have m := List.mem_of_getElem? e1
    have := (w.cel k a c e1 e2).keep (β := []) (F' := F) (H' := upd H D o) (Same.refl _) (upd_ne (fun (q : a = D) => n (q ▸ m)))
    rwa [List.append_nil] at this
theorem Gr.out {α0 : List Addr} {F0 H0 : Hp} {D : Addr} {o : HO} (g : Gr α0 F0 H0 α F H) (n : H0 D = none) : Gr α0 F0 H0 α F (upd H D o) := by
  refine ⟨g.al, g.fr, g.fn, fun a u e m => ?_, fun a e => ?_⟩
  · rw [upd_ne (ne_of_none e n)]; exact g.ke a u e m
  · rw [upd_ne (fun (q : a = D) => e (q ▸ n))]; exact g.dm a e
end

/-! ### targets -/
abbrev Tg := D → List Sl → Option (List Sl)
abbrev Tgs := List D → List Sl → Option (List Sl)
def gNm (i : Nat) : Tg := fun d ρ => if isBor d = true then none else some (ρ.set i (.val d))
def gsNil : Tgs := fun ds ρ => match ds with
  | [] => some ρ
  | _ => none
def gsCons (g : Tg) (r : Tgs) : Tgs := fun ds ρ => match ds with
  | d :: ds => (g d ρ).bind (r ds)
  | _ => none
def gTu (n : Nat) (r : Tgs) : Tg := fun d ρ => match d with
  | .tup ds => if ds.length = n then r ds ρ else none
  | _ => none
theorem wipe_set {σ : L2.St} {j : Nat} {o : Option V} : ∀ {vs : List Nat}, j ∈ vs → L2.wipe (σ.set j o) vs = L2.wipe σ vs
  | v :: vs, h => by
    show (L2.wipe (σ.set j o) vs).set v none = (L2.wipe σ vs).set v none
    by_cases hv : j ∈ vs
    · rw [wipe_set hv]
    · have e : j = v := by simpa [hv] using h
      subst e
      have key : ∀ (ws : List Nat) (τ : L2.St), j ∉ ws → L2.wipe (τ.set j o) ws = (L2.wipe τ ws).set j o := by
        intro ws
        induction ws with
        | nil => intro τ _; rfl
        | cons w ws ih =>
          intro τ hn
          have hw : j ≠ w := fun q => hn (by simp [q])
          have hws : j ∉ ws := fun q => hn (by simp [q])
          show (L2.wipe (τ.set j o) ws).set w none = ((L2.wipe τ ws).set w none).set j o
          rw [ih τ hws, List.set_comm _ _ hw]
      rw [key vs σ hv, List.set_set]
theorem wipe_wipe {σ : L2.St} : ∀ (us vs : List Nat), (∀ j ∈ us, j ∈ vs) → L2.wipe (L2.wipe σ us) vs = L2.wipe σ vs
  | [], vs, _ => rfl
  | u :: us, vs, h => by
    show L2.wipe ((L2.wipe σ us).set u none) vs = _
    rw [wipe_set (h u (by simp)), wipe_wipe us vs fun j hj => h j (by simp [hj])]
/-- a target: how it is stored, what it means, the slots that it writes -/
structure PGd (X : Cx) (tg : Expr) (t : TG) (g : Tg) (js : List Nat) : Prop where
  pg : PG X tg t
  ok : ∀ (G : Gx) (α : List Addr) (F H Bs : Hp) (κ : Ka) (ρ ρ' : List Sl) (σ : L2.St) (d : D) (v : V) (Q : L2.St → Hp → Prop), Wd G X.K α F H κ → Sls X.K α F H Bs ρ σ → Rp X.K α F d v → g d ρ = some ρ' →
    (∀ σ', Sls X.K α F H Bs ρ' σ' → (∀ vs : List Nat, (∀ j ∈ js, j ∈ vs) → L2.wipe σ' vs = L2.wipe σ vs) → Q σ' H) → t v σ H Q
structure PGsd (X : Cx) (tgs : List Expr) (t : TGs) (g : Tgs) (js : List Nat) : Prop where
  pg : PGs X tgs t
  ok : ∀ (G : Gx) (α : List Addr) (F H Bs : Hp) (κ : Ka) (ρ ρ' : List Sl) (σ : L2.St) (ds : List D) (vs : List V) (Q : L2.St → Hp → Prop), Wd G X.K α F H κ → Sls X.K α F H Bs ρ σ → RpL X.K α F ds vs → g ds ρ = some ρ' →
    (∀ σ', Sls X.K α F H Bs ρ' σ' → (∀ vs : List Nat, (∀ j ∈ js, j ∈ vs) → L2.wipe σ' vs = L2.wipe σ vs) → Q σ' H) → t vs σ H Q
section
variable {X : Cx} {pos : Pos} {e : Expr} {es : List Expr} {g : Tg} {gs : Tgs} {t : TG} {ts : TGs} {js ks : List Nat}
theorem t_name (i : Nat) {x : Str} (hN : X.N.Nodup) (hi : X.N[i]? = some x := by rfl) (hx : Loc X.env.scope x := by first | exact .inl rfl | exact .inr rfl) (hf : X.fn x = true ∨ X.env.scope.names.lookup x = some .local := by first | exact .inl rfl | exact .inr rfl | assumption) : PGd X (.Name x pos) (gName i) (gNm i) [i] :=
  ⟨pg_name hN hi hx hf, fun G α F H Bs κ ρ ρ' σ d v Q w sl r e h => by
    unfold gNm at e
    split at e
    · cases e
    · cases e
      exact h _ (sl.setVal i r) fun vs hv => wipe_set (hv i (by simp))⟩
theorem ts_nil : PGsd X [] gNil gsNil [] := ⟨pgs_nil, fun G α F H Bs κ ρ ρ' σ ds vs Q w sl r e h => by
  cases ds with
  | nil => cases r; cases e; exact ⟨rfl, h _ sl fun _ _ => rfl⟩
  | cons => cases e⟩
theorem ts_cons (h1 : PGd X e t g js) (h2 : PGsd X es ts gs ks) (hs : (assignEach (e :: es) X.env).map (·.2) = assign e X.env :: (assignEach es X.env).map (·.2) := by rfl) : PGsd X (e :: es) (gCons t ts) (gsCons g gs) (js ++ ks) := by
  refine ⟨pgs_cons h1.pg h2.pg hs, fun G α F H Bs κ ρ ρ' σ ds vs Q w sl r e h => ?_⟩
  cases ds with
  | nil => cases e
  | cons d ds =>
    cases r with
    | cons r1 r2 =>
      obtain ⟨ρ1, e1, e2⟩ := Option.bind_eq_some_iff.mp e
      exact ⟨_, _, rfl, h1.ok G α F H Bs κ ρ ρ1 σ d _ _ w sl r1 e1 fun σ1 sl1 w1 => h2.ok G α F H Bs κ ρ1 ρ' σ1 ds _ _ w sl1 r2 e2 fun σ2 sl2 w2 => h σ2 sl2 fun vs hv =>
        (w2 vs fun j hj => hv j (by simp [hj])).trans (w1 vs fun j hj => hv j (by simp [hj]))⟩
theorem t_tup {K : PySem.W.Frag} {k : Nat} {n : Nat} (hc : X.calm = true) (h : PGsd X es ts gs js) (hK : X.K = K := by rfl) (hn : (assignEach es X.env).length = n := by rfl) (hst : (assignEach es X.env).findIdx? (·.1) = none := by rfl) : PGd X (.Tuple es k pos) (gTup K n ts) (gTu n gs) js := by
  subst hK
  refine ⟨pg_tup hc h.pg hn hst, fun G α F H Bs κ ρ ρ' σ d v Q w sl r e hq => ?_⟩
  cases d with
  | tup ds =>
    simp only [gTu] at e
    split at e
    · rename_i hl
      cases r with
      | tup hs q => exact ⟨_, _, rfl, same_tup w.sub hs, by rw [← q.length]; exact hl, h.ok G α F H Bs κ ρ ρ' σ ds _ Q w sl q e hq⟩
    · cases e
  | _ => cases e
end

/-! ### comprehensions -/
def Re.bindN {α β : Type} (r : Re α) (f : α → Ka → Re β) : Re β :=
  match r with
  | some (.ok a, k) => f a k
  | _ => none
def cLoop (g : Tg) (t : Ev Bool) (e : Ev D) (ρw : List Sl) : List D → List D → Ka → Re (List D)
  | [], acc, κ => some (.ok acc, κ)
  | d :: ds, acc, κ => match g d ρw with
    | none => none
    | some ρ2 => (t ρ2 κ).bindN fun b κ1 => if b = true then (e ρ2 κ1).bindN fun y κ2 => if isBor y = true ∨ 16777216 ≤ acc.length then none else cLoop g t e ρw ds (acc ++ [y]) κ2 else cLoop g t e ρw ds acc κ1
def eComp (vs : List Nat) (n : Ev (List D)) (g : Tg) (t : Ev Bool) (e : Ev D) : Ev (List D) := fun ρ κ => (n ρ κ).bind fun ds κ1 => cLoop g t e (wipeR ρ vs) ds [] κ1
def bYes : Ev Bool := fun _ κ => some (.ok true, κ)
structure PTsd (G : Gx) (X : Cx) (ifs : List Expr) (t : Ev Bool) : Prop where
  run : PTs X ifs (tT G E0 X.K t)
theorem c_nil {G : Gx} {X : Cx} : PTsd G X [] bYes := ⟨⟨fun pins s σ H Q I ⟨α, F, ρ, κ, Bs, w, sl, h⟩ => pts_nil.run pins s σ H Q I (POB.now (W := E0) w h)⟩⟩
theorem c_one {G : Gx} {X : Cx} {c : Expr} {t : Ev Bool} (h : PB G E0 X c t) : PTsd G X [c] t := ⟨pts_one h.run⟩
section
variable {G : Gx} {W : XK} {K : PySem.W.Frag} {α α' α0 : List Addr} {F F' F0 H H' H0 : Hp} {κ : Ka} {Q : VK} {σ : L2.St} {ρ : List Sl} {Bs : Hp}
/-- in a block no error leaves -/
theorem tT_bindN {m : Ev Bool} {f : Bool → Ka → Re (List D)} (w : Wd G K α F H κ) (sl : Sls K α F H Bs ρ σ) (h : POF G W K α0 F0 H0 Q ((m ρ κ).bindN f)) :
    tT G E0 K m σ H fun b H1 => ∃ α1 F1 κ1, Gr α F H α1 F1 H1 ∧ Wd G K α1 F1 H1 κ1 ∧ Sls K α1 F1 H1 Bs ρ σ ∧ POF G W K α0 F0 H0 Q (f b κ1) := by
  refine ⟨α, F, ρ, κ, Bs, w, sl, ?_⟩
  rcases hm : m ρ κ with _ | ⟨o, κ'⟩
  · rw [hm] at h; exact h
  · rw [hm] at h
    cases o with
    | ok d => exact fun α' F' H' g w' => ⟨α', F', κ', g, w', sl.gr g, h⟩
    | er c => exact h.elim
theorem tD_bindN {m : Ev D} {f : D → Ka → Re (List D)} (w : Wd G K α F H κ) (sl : Sls K α F H Bs ρ σ) (h : POF G W K α0 F0 H0 Q ((m ρ κ).bindN f)) :
    tD G E0 K m σ H fun x H1 => ∃ α1 F1 κ1 d, Gr α F H α1 F1 H1 ∧ Wd G K α1 F1 H1 κ1 ∧ Sls K α1 F1 H1 Bs ρ σ ∧ Rv K α1 F1 H1 d x ∧ POF G W K α0 F0 H0 Q (f d κ1) := by
  refine ⟨α, F, ρ, κ, Bs, w, sl, ?_⟩
  rcases hm : m ρ κ with _ | ⟨o, κ'⟩
  · rw [hm] at h; exact h
  · rw [hm] at h
    cases o with
    | ok d => exact fun α' F' H' g w' v r => ⟨α', F', κ', d, g, w', sl.gr g, r, h⟩
    | er c => exact h.elim
theorem tI_bindF {l : Bool} {n : Ev (List D)} {f : List D → Ka → Re (List D)} {R : It → Hp → Prop} (w : Wd G K α F H κ) (sl : Sls K α F H Bs ρ σ) (h : POF G W K α F H Q ((n ρ κ).bind f))
    (hR : ∀ α1 F1 H1 κ1 ds J, Gr α F H α1 F1 H1 → Wd G K α1 F1 H1 κ1 → Sls K α1 F1 H1 Bs ρ σ → ItOk G K l α1 F1 H1 J ds → POF G W K α1 F1 H1 Q (f ds κ1) → R J H1) : tI G W K l n σ H R := by
  refine ⟨α, F, ρ, κ, Bs, w, sl, ?_⟩
  rcases hm : n ρ κ with _ | ⟨o, κ'⟩
  · rw [hm] at h; exact h
  · rw [hm] at h
    cases o with
    | ok d => exact fun α' F' H' g w' J j => hR α' F' H' κ' d J g w' (sl.gr g) j (POF.gr g h)
    | er c => exact h
end
section
variable {G : Gx} {W : XK} {X : Cx} {vs : List Nat} {n : Ev (List D)} {g : Tg} {t : Ev Bool} {e : Ev D} {tg elt iter : Expr} {ifs : List Expr} {scope : Scope} {own : List (Str × Nat)} {pos : Pos}
/-- the reading of a comprehension -/
theorem comp_reads {K : PySem.W.Frag} {gt : TG}
    (hg : ∀ (α : List Addr) (F H Bs : Hp) (κ : Ka) (ρ ρ' : List Sl) (σ : L2.St) (d : D) (v : V) (Q : L2.St → Hp → Prop), Wd G K α F H κ → Sls K α F H Bs ρ σ → Rp K α F d v → g d ρ = some ρ' → (∀ σ', Sls K α F H Bs ρ' σ' → L2.wipe σ' vs = L2.wipe σ vs → Q σ' H) → gt v σ H Q)
    (hw : ∀ σ : L2.St, L2.wipe (L2.wipe σ vs) vs = L2.wipe σ vs) {σ : L2.St} {H : Hp} {Q : VK} (h : tF G W K (eComp vs n g t e) σ H Q) : tLc (tI G W K true n) gt (tT G E0 K t) (tD G E0 K e) vs σ H Q := by
  obtain ⟨α, F, ρ, κ, Bs, w, sl, h⟩ := h
  refine tI_bindF w sl h fun α1 F1 H1 κ1 ds J g1 w1 sl1 j1 h1 => fun D hD => ?_
  have fD : F1 D = none := w1.sub.free hD
  have nD : D ∉ α1 := fun m => w1.dom m hD
  refine ⟨fun i m H => m = ds.length - i ∧ i ≤ ds.length ∧ ∃ α2 F2 κ2 acc accV, Gr α1 F1 H1 α2 F2 H ∧ Wd G K α2 F2 H κ2 ∧ Sls K α2 F2 H Bs ρ σ ∧ H D = some (.lst accV) ∧ D ∉ α2 ∧ F2 D = none ∧ RpL K α2 F2 acc accV ∧
      POF G W K α1 F1 H1 Q (cLoop g t e (wipeR ρ vs) (ds.drop i) acc κ2), ⟨ds.length, by simp, Nat.zero_le _, ?_⟩, ?_⟩
  · obtain ⟨g2, w2⟩ := Gr.newH (o := .lst []) w1 hD
    exact ⟨α1, F1, κ1, [], [], g2, w2, sl1.gr g2, upd_same, nD, fD, .nil, h1⟩
  · rintro i m H2 ⟨rfl, hi, α2, F2, κ2, acc, accV, g2, w2, sl2, e2, n2, f2, r2, h2⟩
    by_cases hlt : i < ds.length
    · have hd : ds[i]? = some ds[i] := List.getElem?_eq_getElem hlt
      have hdr : ds.drop i = ds[i] :: ds.drop (i + 1) := List.drop_eq_getElem_cons hlt
      rw [hdr] at h2
      simp only [cLoop] at h2
      obtain ⟨go, yl⟩ := j1.go α2 F2 H2 κ2 g2.later w2 i _ hd
      rcases hgd : g ds[i] (wipeR ρ vs) with _ | ρ2
      · rw [hgd] at h2; exact h2.elim
      · rw [hgd] at h2
        refine .inr ⟨go, fun H' => ∃ m', m' < ds.length - i ∧ (m' = ds.length - (i + 1) ∧ i + 1 ≤ ds.length ∧ ∃ α2 F2 κ2 acc accV, Gr α1 F1 H1 α2 F2 H' ∧ Wd G K α2 F2 H' κ2 ∧ Sls K α2 F2 H' Bs ρ σ ∧ H' D = some (.lst accV) ∧ D ∉ α2 ∧ F2 D = none ∧ RpL K α2 F2 acc accV ∧
          POF G W K α1 F1 H1 Q (cLoop g t e (wipeR ρ vs) (ds.drop (i + 1)) acc κ2)), fun H' h => h, fun x H3 hy => ?_⟩
        obtain ⟨F3, g3, w3, r3⟩ := yl x H3 hy
        have e3 : H3 D = some (.lst accV) := g3.ke _ _ e2 n2
        have f3 : F3 D = none := g3.fn _ f2 (by rw [e2]; simp)
        refine hg α2 F3 H3 Bs κ2 _ ρ2 _ _ x _ w3 ((sl2.gr g3).wipe vs) r3 hgd fun σ3 sl3 hw3 => ⟨hw3.trans (hw σ), ?_⟩
        refine tT_mono (fun b H4 hb => ?_) (tT_bindN w3 sl3 h2)
        obtain ⟨α4, F4, κ4, g4, w4, sl4, h4⟩ := hb
        have e4 : H4 D = some (.lst accV) := g4.ke _ _ e3 n2
        have n4 : D ∉ α4 := g4.notin (by rw [e3]; simp) n2
        have f4 : F4 D = none := g4.fn _ f3 (by rw [e3]; simp)
        cases b with
        | false =>
          rw [if_neg Bool.false_ne_true]
          exact ⟨_, by omega, rfl, hlt, α4, F4, κ4, acc, accV, (g2.trans g3).trans g4, w4, (sl2.gr g3).gr g4, e4, n4, f4, (r2.gr g3).gr g4, h4⟩
        | true =>
          rw [if_pos rfl]
          refine tD_mono (fun y H5 hy5 => ?_) (tD_bindN w4 sl4 h4)
          obtain ⟨α5, F5, κ5, d5, g5, w5, sl5, r5, h5⟩ := hy5
          split at h5
          · exact h5.elim
          · rename_i hnb
            have hnb1 : isBor d5 = false := by
              cases q : isBor d5 with
              | false => rfl
              | true => exact absurd (.inl q) hnb
            have hnb2 : acc.length < 16777216 := Nat.lt_of_not_le fun q => hnb (.inr q)
            have e5 : H5 D = some (.lst accV) := g5.ke _ _ e4 n4
            have n5 : D ∉ α5 := g5.notin (by rw [e4]; simp) n4
            have f5 : F5 D = none := g5.fn _ f4 (by rw [e4]; simp)
            have r5' := ((r2.gr g3).gr g4).gr g5
            have g15 := ((g2.trans g3).trans g4).trans g5
            refine ⟨accV, e5, by rw [sizeLine_eq, ← r5'.length]; exact hnb2, _, by omega, rfl, hlt, α5, F5, κ5, acc ++ [d5], accV ++ [y], g15.out hD, w5.out n5 f5, ?_, upd_same, n5, f5, r5'.append (.cons (r5.rp hnb1) .nil), h5⟩
            exact sl1.gr (g15.out hD)
    · have ei : i = ds.length := by omega
      subst ei
      rw [List.drop_length] at h2
      exact .inl ⟨j1.stop α2 F2 H2 κ2 g2.later w2, h2 α2 F2 H2 g2 w2 D accV e2 f2 n2 hD r2⟩
theorem f_comp {gt : TG} {js : List Nat} (hc : X.calm = true) (hN : X.N.Nodup) (hi : PDI G W X true tg iter n) (ok : BlkOk X.N X.env.scope scope own)
    (hg : ∀ (s : Shared) (H : Hp) (C : Addr) (cl : List (Str × Addr)) (fp : List Addr), PGd (X.blk s H scope (compEnvC scope cl C X.env) fp) tg gt g js) (hj : ∀ j ∈ js, j ∈ own.map (·.2))
    (ht : ∀ (s : Shared) (H : Hp) (C : Addr) (cl : List (Str × Addr)) (fp : List Addr), PTsd G (X.blk s H scope (compEnvC scope cl C X.env) fp) ifs t)
    (he : ∀ (s : Shared) (H : Hp) (C : Addr) (cl : List (Str × Addr)) (fp : List Addr), PD G E0 (X.blk s H scope (compEnvC scope cl C X.env) fp) elt e) (hs : ∀ x, foldedSetIterable iter X.env x = pure x := by intro _; rfl) :
    PF G W X (.ListComp elt [⟨tg, iter, ifs, 0⟩] scope pos) (eComp (own.map (·.2)) n g t e) :=
  ⟨⟨fun pins s σ H Q I h => (pe_lc (g := gt) (tt := tT G E0 X.K t) (te := tD G E0 X.K e) hc hN hi.run ok (fun s H C cl fp => (hg s H C cl fp).pg) (fun s H C cl fp => (ht s H C cl fp).run) (fun s H C cl fp => (he s H C cl fp).run) hs).run pins s σ H Q I
    (comp_reads (fun α F H Bs κ ρ ρ' σ d v Q w sl r e hq => (hg s H 0 [] []).ok G α F H Bs κ ρ ρ' σ d v Q w sl r e fun σ' sl' hw => hq σ' sl' (hw _ hj)) (fun σ => wipe_wipe _ _ fun j hj => hj) h)⟩⟩

/-! ### statements -/
inductive Out where
  | nx (ρ : List Sl) | rt (d : D) | bk (ρ : List Sl) | ct (ρ : List Sl) | er (c : Nat)
abbrev Es := List Sl → Ka → Option (Out × Ka)
end
def PSt (G : Gx) (W : XK) (K : PySem.W.Frag) (α0 : List Addr) (F0 Bs : Hp) (α : List Addr) (F : Hp) (Dn : Ends) : Option (Out × Ka) → Prop
  | none => False
  | some (o, κ') => ∀ α' F' H', Gr α0 F0 Bs α' F' H' → Exn α F α' F' → Wd G K α' F' H' κ' → match o with
    | .nx ρ' => ∀ σ', Sls K α' F' H' Bs ρ' σ' → Dn.nx σ' H'
    | .rt d => ∀ v, Rp K α' F' d v → Dn.rt v H'
    | .bk ρ' => ∀ σ', Sls K α' F' H' Bs ρ' σ' → Dn.bk σ' H'
    | .ct ρ' => ∀ σ', Sls K α' F' H' Bs ρ' σ' → Dn.ct σ' H'
    | .er c => W (.ref (G.exc c)) none H'
def tS (G : Gx) (W : XK) (K : PySem.W.Frag) (m : Es) : TS := fun Dn σ H => ∃ α0 F0 Bs α F ρ κ, Gr α0 F0 Bs α F H ∧ Wd G K α F H κ ∧ Sls K α F H Bs ρ σ ∧ PSt G W K α0 F0 Bs α F Dn (m ρ κ)
theorem PSt.ex {G : Gx} {W : XK} {K : PySem.W.Frag} {α0 α α1 : List Addr} {F0 Bs F F1 : Hp} {Dn : Ends} {r : Option (Out × Ka)} (e : Exn α F α1 F1) (h : PSt G W K α0 F0 Bs α F Dn r) : PSt G W K α0 F0 Bs α1 F1 Dn r := by
  rcases r with _ | ⟨o, κ'⟩
  · exact h
  · exact fun α' F' H' g x w => h α' F' H' g (e.trans x) w
structure PSd (G : Gx) (W : XK) (X : Cx) (st : Stmt) (m : Es) : Prop where
  run : PS X st (tS G W X.K m)
structure PSsd (G : Gx) (W : XK) (X : Cx) (sts : List Stmt) (m : Es) : Prop where
  run : PSs X sts (tS G W X.K m)
theorem ps_imp {X : Cx} {st : Stmt} {t t' : TS} (h : PS X st t) (hi : ∀ D σ H, t' D σ H → t D σ H) : PS X st t' := ⟨fun pins s σ H D I q => h.run pins s σ H D I (hi D σ H q)⟩
theorem pss_imp {X : Cx} {st : List Stmt} {t t' : TS} (h : PSs X st t) (hi : ∀ D σ H, t' D σ H → t D σ H) : PSs X st t' := ⟨fun pins s σ H D I q => h.run pins s σ H D I (hi D σ H q)⟩
def sNext : Es := fun ρ κ => some (.nx ρ, κ)
def sBrk : Es := fun ρ κ => some (.bk ρ, κ)
def sCt : Es := fun ρ κ => some (.ct ρ, κ)
def sSeq (m n : Es) : Es := fun ρ κ => match m ρ κ with
  | some (.nx ρ1, κ1) => n ρ1 κ1
  | r => r
def Re.bindS {α : Type} (r : Re α) (f : α → Ka → Option (Out × Ka)) : Option (Out × Ka) :=
  match r with
  | none => none
  | some (.ok a, k) => f a k
  | some (.er c, k) => some (.er c, k)
def sRet (m : Ev D) : Es := fun ρ κ => (m ρ κ).bindS fun d κ1 => if isBor d = true then none else some (.rt d, κ1)
def sRetN : Es := fun ρ κ => some (.rt .non, κ)
def sIf (c : Ev Bool) (m n : Es) : Es := fun ρ κ => (c ρ κ).bindS fun b κ1 => if b = true then m ρ κ1 else n ρ κ1
def sAsg (g : Tg) (m : Ev D) : Es := fun ρ κ => (m ρ κ).bindS fun d κ1 => if isBor d = true then none else match g d ρ with
  | some ρ1 => some (.nx ρ1, κ1)
  | none => none
/-- a new list that the frame keeps as its own -/
def sOwn (i : Nat) (m : Ev (List D)) : Es := fun ρ κ => (m ρ κ).bindS fun ds κ1 => some (.nx (ρ.set i (.own ds)), κ1)
def sExp (m : Ev D) : Es := fun ρ κ => (m ρ κ).bindS fun _ κ1 => some (.nx ρ, κ1)
/-- an own list becomes data -/
def frz (i : Nat) (ρ : List Sl) : List Sl := match ρ[i]? with
  | some (.own ds) => ρ.set i (.val (.lst ds))
  | _ => ρ
def sFrz (i : Nat) (m : Es) : Es := fun ρ κ => m (frz i ρ) κ
def sFor (g : Tg) (m : Es) : List D → Es
  | [] => sNext
  | d :: ds => fun ρ κ => match g d ρ with
    | none => none
    | some ρ1 => match m ρ1 κ with
      | some (.nx ρ2, κ2) => sFor g m ds ρ2 κ2
      | some (.ct ρ2, κ2) => sFor g m ds ρ2 κ2
      | some (.bk ρ2, κ2) => some (.nx ρ2, κ2)
      | r => r
def sForE (n : Ev (List D)) (g : Tg) (m : Es) : Es := fun ρ κ => (n ρ κ).bindS fun ds κ1 => sFor g m ds ρ κ1
def sWhl (c : Ev Bool) (m : Es) : Nat → Es
  | 0 => fun _ _ => none
  | k + 1 => fun ρ κ => (c ρ κ).bindS fun b κ1 => if b = true then match m ρ κ1 with
      | some (.nx ρ2, κ2) => sWhl c m k ρ2 κ2
      | some (.ct ρ2, κ2) => sWhl c m k ρ2 κ2
      | some (.bk ρ2, κ2) => some (.nx ρ2, κ2)
      | r => r
    else some (.nx ρ, κ1)
end DL
set_option Elab.async false
set_option linter.all false
set_option maxRecDepth 100000
set_option maxHeartbeats 4000000
/-! DL6: statements and defs. -/
namespace DL
open PySem PySem.Spec PyProof.Rows L2
section
variable {G : Gx} {W : XK} {K : PySem.W.Frag} {α α' α0 : List Addr} {F F' F0 H H' Bs : Hp} {κ : Ka} {σ : L2.St} {ρ : List Sl} {Dn : Ends}
theorem tD_bindS {m : Ev D} {f : D → Ka → Option (Out × Ka)} (gb : Gr α0 F0 Bs α F H) (w : Wd G K α F H κ) (sl : Sls K α F H Bs ρ σ) (h : PSt G W K α0 F0 Bs α F Dn ((m ρ κ).bindS f)) :
    tD G W K m σ H fun x H1 => ∃ α1 F1 κ1 d, Gr α F H α1 F1 H1 ∧ Gr α0 F0 Bs α1 F1 H1 ∧ Wd G K α1 F1 H1 κ1 ∧ Sls K α1 F1 H1 Bs ρ σ ∧ Rv K α1 F1 H1 d x ∧ PSt G W K α0 F0 Bs α1 F1 Dn (f d κ1) := by
  refine ⟨α, F, ρ, κ, Bs, w, sl, ?_⟩
  rcases hm : m ρ κ with _ | ⟨o, κ'⟩
  · rw [hm] at h; exact h
  · rw [hm] at h
    cases o with
    | ok d => exact fun α' F' H' g w' v r => ⟨α', F', κ', d, g, gb.trans g, w', sl.gr g, r, h.ex g.exn⟩
    | er c => exact fun α' F' H' g w' => h α' F' H' (gb.trans g) g.exn w'
theorem tT_bindS {m : Ev Bool} {f : Bool → Ka → Option (Out × Ka)} (gb : Gr α0 F0 Bs α F H) (w : Wd G K α F H κ) (sl : Sls K α F H Bs ρ σ) (h : PSt G W K α0 F0 Bs α F Dn ((m ρ κ).bindS f)) :
    tT G W K m σ H fun b H1 => ∃ α1 F1 κ1, Gr α0 F0 Bs α1 F1 H1 ∧ Wd G K α1 F1 H1 κ1 ∧ Sls K α1 F1 H1 Bs ρ σ ∧ PSt G W K α0 F0 Bs α1 F1 Dn (f b κ1) := by
  refine ⟨α, F, ρ, κ, Bs, w, sl, ?_⟩
  rcases hm : m ρ κ with _ | ⟨o, κ'⟩
  · rw [hm] at h; exact h
  · rw [hm] at h
    cases o with
    | ok d => exact fun α' F' H' g w' => ⟨α', F', κ', gb.trans g, w', sl.gr g, h.ex g.exn⟩
    | er c => exact fun α' F' H' g w' => h α' F' H' (gb.trans g) g.exn w'
theorem tL_bindS {m : Ev (List D)} {f : List D → Ka → Option (Out × Ka)} (gb : Gr α0 F0 Bs α F H) (w : Wd G K α F H κ) (sl : Sls K α F H Bs ρ σ) (h : PSt G W K α0 F0 Bs α F Dn ((m ρ κ).bindS f)) :
    tL G W K m σ H fun x H1 => ∃ α1 F1 κ1 d, Gr α F H α1 F1 H1 ∧ Gr α0 F0 Bs α1 F1 H1 ∧ Wd G K α1 F1 H1 κ1 ∧ Sls K α1 F1 H1 Bs ρ σ ∧ RvL K α1 F1 H1 d x ∧ PSt G W K α0 F0 Bs α1 F1 Dn (f d κ1) := by
  refine ⟨α, F, ρ, κ, Bs, w, sl, ?_⟩
  rcases hm : m ρ κ with _ | ⟨o, κ'⟩
  · rw [hm] at h; exact h
  · rw [hm] at h
    cases o with
    | ok d => exact fun α' F' H' g w' v r => ⟨α', F', κ', d, g, gb.trans g, w', sl.gr g, r, h.ex g.exn⟩
    | er c => exact fun α' F' H' g w' => h α' F' H' (gb.trans g) g.exn w'
theorem tF_bindS {m : Ev (List D)} {f : List D → Ka → Option (Out × Ka)} (gb : Gr α0 F0 Bs α F H) (w : Wd G K α F H κ) (sl : Sls K α F H Bs ρ σ) (h : PSt G W K α0 F0 Bs α F Dn ((m ρ κ).bindS f)) :
    tF G W K m σ H fun x H1 => ∃ α1 F1 κ1 ds a xs, Gr α F H α1 F1 H1 ∧ Gr α0 F0 Bs α1 F1 H1 ∧ Wd G K α1 F1 H1 κ1 ∧ Sls K α1 F1 H1 Bs ρ σ ∧ x = .ref a ∧ H1 a = some (.lst xs) ∧ F1 a = none ∧ a ∉ α1 ∧ H a = none ∧ RpL K α1 F1 ds xs ∧ PSt G W K α0 F0 Bs α1 F1 Dn (f ds κ1) := by
  refine ⟨α, F, ρ, κ, Bs, w, sl, ?_⟩
  rcases hm : m ρ κ with _ | ⟨o, κ'⟩
  · rw [hm] at h; exact h
  · rw [hm] at h
    cases o with
    | ok d => exact fun α' F' H' g w' a xs h1 h2 h3 h4 r => ⟨α', F', κ', d, a, xs, g, gb.trans g, w', sl.gr g, rfl, h1, h2, h3, h4, r, h.ex g.exn⟩
    | er c => exact fun α' F' H' g w' => h α' F' H' (gb.trans g) g.exn w'
theorem PSt.nx {ρ' : List Sl} {σ' : L2.St} (gb : Gr α0 F0 Bs α F H) (w : Wd G K α F H κ) (sl : Sls K α F H Bs ρ' σ') (h : PSt G W K α0 F0 Bs α F Dn (some (.nx ρ', κ))) : Dn.nx σ' H := h α F H gb (Exn.refl _ _) w σ' sl
theorem frz_ok (gb : Gr α0 F0 Bs α F H) (w : Wd G K α F H κ) (sl : Sls K α F H Bs ρ σ) (i : Nat) : ∃ F2, Exn α F α F2 ∧ Gr α0 F0 Bs α F2 H ∧ Wd G K α F2 H κ ∧ Sls K α F2 H Bs (frz i ρ) σ := by
  unfold frz
  split
  · rename_i ds he
    obtain ⟨o, ho, a, xs, rfl, h1, h2, h3, h4, r⟩ := sl.at' i _ he
    obtain ⟨g2, w2⟩ := Gr.frz w h1 h3 h2 gb h4
    have sm : Same F (upd F a (.lst xs)) := fun b u e => by rw [upd_ne (ne_of_none e h2)]; exact e
    refine ⟨_, ⟨⟨[], by simp⟩, sm⟩, g2, w2, ?_⟩
    have rr : ∀ {d : D} {v : V}, Rp K α F d v → Rp K α (upd F a (.lst xs)) d v := fun {d v} r => by have := Rp.mono (β := []) sm r; rwa [List.append_nil] at this
    have rl : ∀ {ds : List D} {vs : List V}, RpL K α F ds vs → RpL K α (upd F a (.lst xs)) ds vs := fun {ds vs} r => by have := RpL.mono (β := []) sm r; rwa [List.append_nil] at this
    have hi : i < ρ.length := (List.getElem?_eq_some_iff.mp he).1
    refine ⟨by simp [sl.len], fun j s e => ?_, fun j k b ds es e1 e2 e3 e4 => ?_⟩
    · by_cases hj : i = j
      · subst hj
        rw [List.getElem?_set_self hi] at e; cases e
        exact ⟨_, ho, .ref a, rfl, Rp.rv (.lst upd_same (rl r)), fun q => by cases q⟩
      · rw [List.getElem?_set_ne hj] at e
        obtain ⟨o', ho', so⟩ := sl.at' j s e
        refine ⟨o', ho', ?_⟩
        cases s with
        | no => trivial
        | val d =>
          obtain ⟨v, e5, r5, b5⟩ := so
          refine ⟨v, e5, ?_, b5⟩
          cases d with
          | bor es =>
            obtain ⟨c, ys, rfl, k1, k2, k3, k4⟩ := r5
            obtain ⟨c', e6, k6⟩ := b5 rfl
            cases e6
            refine ⟨c, ys, rfl, k1, k2, ?_, rl k4⟩
            rw [upd_ne (fun (q : c = a) => k6 (q ▸ h4))]; exact k3
          | _ => exact rr r5
        | own es =>
          obtain ⟨c, ys, rfl, k1, k2, k3, k4, k5⟩ := so
          refine ⟨c, ys, rfl, k1, ?_, k3, k4, rl k5⟩
          rw [upd_ne ?_]; exact k2
          rintro rfl
          exact hj (sl.sep i j c _ _ he e ho ho')
    · by_cases hj : i = j
      · subst hj
        rw [List.getElem?_set_self hi] at e1; cases e1
      · rw [List.getElem?_set_ne hj] at e1
        by_cases hk : i = k
        · subst hk
          rw [List.getElem?_set_self hi] at e2; cases e2
        · rw [List.getElem?_set_ne hk] at e2
          exact sl.sep j k b _ _ e1 e2 e3 e4
  · exact ⟨F, Exn.refl _ _, gb, w, sl⟩
end
section
variable {G : Gx} {W : XK} {X : Cx} {e a b c : Expr} {es : List Expr} {m ma mb mc : Ev D} {n : Ev (List D)} {pos p : Pos} {st : Stmt} {sts rest : List Stmt} {s t u : Es} {k : Ev Bool} {tg : Expr} {g : Tg} {tgt : TG} {js : List Nat}
theorem s_nil : PSsd G W X [] sNext := ⟨pss_imp pss_nil fun D σ H ⟨α0, F0, Bs, α, F, ρ, κ, gb, w, sl, h⟩ => PSt.nx gb w sl h⟩
theorem s_cons (h1 : PSd G W X st s) (h2 : PSsd G W X rest t) : PSsd G W X (st :: rest) (sSeq s t) :=
  ⟨pss_imp (pss_cons h1.run h2.run) fun D σ H ⟨α0, F0, Bs, α, F, ρ, κ, gb, w, sl, h⟩ => by
    refine ⟨α0, F0, Bs, α, F, ρ, κ, gb, w, sl, ?_⟩
    unfold sSeq at h
    rcases hm : s ρ κ with _ | ⟨o, κ'⟩
    · rw [hm] at h; exact h
    · rw [hm] at h
      cases o with
      | nx ρ1 => exact fun α' F' H' g x w' σ' sl' => ⟨α0, F0, Bs, α', F', ρ1, κ', g, w', sl', h.ex x⟩
      | rt d => exact h
      | bk ρ1 => exact h
      | ct ρ1 => exact h
      | er c => exact h⟩
theorem s_one (h1 : PSd G W X st s) : PSsd G W X [st] s := ⟨pss_one h1.run⟩
theorem s_pass : PSd G W X (.Pass pos) sNext := ⟨ps_imp ps_pass fun D σ H ⟨α0, F0, Bs, α, F, ρ, κ, gb, w, sl, h⟩ => PSt.nx gb w sl h⟩
theorem s_break : PSd G W X (.Break pos) sBrk := ⟨ps_imp ps_break fun D σ H ⟨α0, F0, Bs, α, F, ρ, κ, gb, w, sl, h⟩ => h α F H gb (Exn.refl _ _) w σ sl⟩
theorem s_continue : PSd G W X (.Continue pos) sCt := ⟨ps_imp ps_continue fun D σ H ⟨α0, F0, Bs, α, F, ρ, κ, gb, w, sl, h⟩ => h α F H gb (Exn.refl _ _) w σ sl⟩
theorem s_doc {x : Str} {j : Nat} {pos' : Pos} : PSd G W X (.Expr (.Constant (.str x) j pos) pos') sNext := ⟨ps_imp ps_doc fun D σ H ⟨α0, F0, Bs, α, F, ρ, κ, gb, w, sl, h⟩ => PSt.nx gb w sl h⟩
theorem s_expr (h1 : PD G W X e m) (hs : swapsWith e none pos.line X.env = pure false := by rfl) : PSd G W X (.Expr e pos) (sExp m) :=
  ⟨ps_imp (ps_expr h1.run hs) fun D σ H ⟨α0, F0, Bs, α, F, ρ, κ, gb, w, sl, h⟩ =>
    tD_mono (fun x H1 ⟨α1, F1, κ1, d, g1, gb1, w1, sl1, r1, h1⟩ => PSt.nx gb1 w1 sl1 h1) (tD_bindS gb w sl h)⟩
theorem s_ret (h1 : PD G W X e m) : PSd G W X (.Return (some e) pos) (sRet m) :=
  ⟨ps_imp (ps_ret h1.run) fun D σ H ⟨α0, F0, Bs, α, F, ρ, κ, gb, w, sl, h⟩ =>
    tD_mono (fun x H1 ⟨α1, F1, κ1, d, g1, gb1, w1, sl1, r1, h1⟩ => by
      split at h1
      · exact h1.elim
      · rename_i hb
        exact h1 α1 F1 H1 gb1 (Exn.refl _ _) w1 x (r1.rp (by cases q : isBor d <;> simp_all))) (tD_bindS gb w sl h)⟩
theorem s_retN : PSd G W X (.Return none pos) sRetN := ⟨ps_imp ps_retN fun D σ H ⟨α0, F0, Bs, α, F, ρ, κ, gb, w, sl, h⟩ => h α F H gb (Exn.refl _ _) w _ .non⟩
theorem s_if {x y : List Stmt} (hc : PB G W X c k) (hx : PSsd G W X x s) (hy : PSsd G W X y t) : PSd G W X (.If c x y pos) (sIf k s t) :=
  ⟨ps_imp (ps_if hc.run hx.run hy.run) fun D σ H ⟨α0, F0, Bs, α, F, ρ, κ, gb, w, sl, h⟩ =>
    tT_mono (fun b H1 ⟨α1, F1, κ1, gb1, w1, sl1, h1⟩ => by
      cases b with
      | true => exact iteT ⟨α0, F0, Bs, α1, F1, ρ, κ1, gb1, w1, sl1, h1⟩
      | false => exact iteF ⟨α0, F0, Bs, α1, F1, ρ, κ1, gb1, w1, sl1, h1⟩) (tT_bindS gb w sl h)⟩
theorem asg_reads {K : PySem.W.Frag} {σ : L2.St} {H : Hp} {Dn : Ends}
    (hg : ∀ (α : List Addr) (F H Bs : Hp) (κ : Ka) (ρ ρ' : List Sl) (σ : L2.St) (d : D) (v : V) (Q : L2.St → Hp → Prop), Wd G K α F H κ → Sls K α F H Bs ρ σ → Rp K α F d v → g d ρ = some ρ' → (∀ σ', Sls K α F H Bs ρ' σ' → Q σ' H) → tgt v σ H Q)
    (h : tS G W K (sAsg g m) Dn σ H) : tAsg (tD G W K m) tgt Dn σ H := by
  obtain ⟨α0, F0, Bs, α, F, ρ, κ, gb, w, sl, h⟩ := h
  refine tD_mono (fun x H1 ⟨α1, F1, κ1, d, g1, gb1, w1, sl1, r1, h1⟩ => ?_) (tD_bindS gb w sl h)
  split at h1
  · exact h1.elim
  · rename_i hb
    split at h1
    · rename_i ρ1 hg1
      exact hg α1 F1 H1 Bs κ1 ρ ρ1 σ d x _ w1 sl1 (r1.rp (by cases q : isBor d <;> simp_all)) hg1 fun σ' sl' => PSt.nx gb1 w1 sl' h1
    · exact h1.elim
theorem s_asg (h1 : PD G W X e m) (hg : PGd X tg tgt g js) (hs : swapsWithSole [tg] e pos.line X.env = pure false := by rfl) (hw : swappedStores [tg] e X.env = pure none := by rfl) (hz : (assignEach [tg] X.env).map (·.2) = [assign tg X.env] := by rfl) :
    PSd G W X (.Assign [tg] e pos) (sAsg g m) :=
  ⟨ps_imp (ps_asg h1.run hg.pg hs hw hz) fun D σ H h => asg_reads (fun α F H Bs κ ρ ρ' σ d v Q w sl r e hq => hg.ok G α F H Bs κ ρ ρ' σ d v Q w sl r e fun σ' sl' _ => hq σ' sl') h⟩
theorem gNm_reads {K : PySem.W.Frag} (i : Nat) (α : List Addr) (F H Bs : Hp) (κ : Ka) (ρ ρ' : List Sl) (σ : L2.St) (d : D) (v : V) (Q : L2.St → Hp → Prop) (w : Wd G K α F H κ) (sl : Sls K α F H Bs ρ σ) (r : Rp K α F d v) (e : gNm i d ρ = some ρ') (h : ∀ σ', Sls K α F H Bs ρ' σ' → Q σ' H) : L2.gName i v σ H Q := by
  unfold gNm at e
  split at e
  · cases e
  · cases e; exact h _ (sl.setVal i r)
theorem s_set {i : Nat} {x : Str} {pos' : Pos} (hN : X.N.Nodup) (h1 : PD G W X e m) (hi : X.N[i]? = some x := by rfl) (hx : Loc X.env.scope x := by first | exact .inl rfl | exact .inr rfl) (hs : swapsWith e (some (.Name x pos')) pos.line X.env = pure false := by rfl)
    (hf : X.fn x = true ∨ X.env.scope.names.lookup x = some .local := by first | exact .inl rfl | exact .inr rfl | assumption) : PSd G W X (.Assign [.Name x pos'] e pos) (sAsg (gNm i) m) :=
  ⟨ps_imp (ps_set hN hi hx h1.run hs hf) fun D σ H h => asg_reads (gNm_reads i) h⟩
theorem own_reads {K : PySem.W.Frag} {σ : L2.St} {H : Hp} {Dn : Ends} {i : Nat} (h : tS G W K (sOwn i n) Dn σ H) : tAsg (tF G W K n) (L2.gName i) Dn σ H := by
  obtain ⟨α0, F0, Bs, α, F, ρ, κ, gb, w, sl, h⟩ := h
  have key := tF_bindS gb w sl h
  obtain ⟨α2, F2, ρ2, κ2, Bs2, w2, sl2, h2⟩ := key
  refine ⟨α2, F2, ρ2, κ2, Bs2, w2, sl2, ?_⟩
  revert h2
  rcases n ρ2 κ2 with _ | ⟨o, κ'⟩
  · exact id
  · cases o with
    | er c => exact id
    | ok ds =>
      intro h2 α' F' H' g w' a xs k1 k2 k3 k4 r
      obtain ⟨α1, F1, κ1, ds1, a1, xs1, g1, gb1, w1, sl1, e1, q1, q2, q3, q4, r1, h3⟩ := h2 α' F' H' g w' a xs k1 k2 k3 k4 r
      cases e1
      refine PSt.nx gb1 w1 (sl1.set i (s := .own ds1) (o := some (.ref a)) ⟨a, xs1, rfl, q1, q2, q3, ?_, r1⟩ fun ds e j es b e1 e2 e3 => ?_) h3
      · cases q : Bs a with
        | none => rfl
        | some o => exact absurd q4 (gb.dm a (by rw [q]; simp))
      · cases e3
        obtain ⟨o, ho, a', xs', e5, k6, _⟩ := sl.at' j _ e1
        rw [e2] at ho; cases ho; cases e5
        rw [q4] at k6; cases k6
/-- x = [..], a list that the frame keeps as its own -/
theorem s_own {i : Nat} {x : Str} {pos' : Pos} (hN : X.N.Nodup) (h1 : PF G W X e n) (hi : X.N[i]? = some x := by rfl) (hx : Loc X.env.scope x := by first | exact .inl rfl | exact .inr rfl) (hs : swapsWith e (some (.Name x pos')) pos.line X.env = pure false := by rfl)
    (hf : X.fn x = true ∨ X.env.scope.names.lookup x = some .local := by first | exact .inl rfl | exact .inr rfl | assumption) : PSd G W X (.Assign [.Name x pos'] e pos) (sOwn i n) :=
  ⟨ps_imp (ps_set hN hi hx h1.run hs hf) fun D σ H h => own_reads h⟩
theorem s_frz (i : Nat) (h : PSd G W X st s) : PSd G W X st (sFrz i s) := ⟨ps_imp h.run fun D σ H ⟨α0, F0, Bs, α, F, ρ, κ, gb, w, sl, h⟩ => by
  obtain ⟨F2, x2, gb2, w2, sl2⟩ := frz_ok gb w sl i
  exact ⟨α0, F0, Bs, α, F2, frz i ρ, κ, gb2, w2, sl2, h.ex x2⟩⟩
/-- y = [.. for ..] on one line -/
theorem setLc_reads {K : PySem.W.Frag} {σ : L2.St} {H : Hp} {Dn : Ends} {i : Nat} {τ : TE} (hτ : ∀ σ H Q, tF G W K n σ H Q → τ σ H Q) (h : tS G W K (sAsg (gNm i) (eFr n)) Dn σ H) : tAsg τ (L2.gName i) Dn σ H := by
  obtain ⟨α0, F0, Bs, α, F, ρ, κ, gb, w, sl, h⟩ := h
  refine hτ _ _ _ ⟨α, F, ρ, κ, Bs, w, sl, ?_⟩
  unfold sAsg eFr at h
  rcases hm : n ρ κ with _ | ⟨o, κ'⟩
  · rw [hm] at h; exact h
  · rw [hm] at h
    cases o with
    | er c => exact fun α' F' H' g w' => h α' F' H' (gb.trans g) g.exn w'
    | ok ds =>
      intro α' F' H' g w' a xs k1 k2 k3 k4 r
      have k5 : Bs a = none := by
        cases q : Bs a with
        | none => rfl
        | some o => exact absurd k4 (gb.dm a (by rw [q]; simp))
      obtain ⟨g2, w2⟩ := Gr.frz w' k1 k3 k2 g k4
      obtain ⟨g3, _⟩ := Gr.frz w' k1 k3 k2 (gb.trans g) k5
      have sm : Same F' (upd F' a (.lst xs)) := fun b u e => by rw [upd_ne (ne_of_none e k2)]; exact e
      have r2 : Rp K α' (upd F' a (.lst xs)) (.lst ds) (.ref a) := .lst upd_same (by have := RpL.mono (β := []) sm r; rwa [List.append_nil] at this)
      exact PSt.nx g3 w2 ((sl.gr g2).setVal i r2) (h.ex g2.exn)
theorem s_setLc {i : Nat} {y : Str} {py : Pos} {elt iter : Expr} {ifs : List Expr} {scope : Scope} {own : List (Str × Nat)} {spos : Pos} {q : Ev Bool} (hc : X.calm = true) (hN : X.N.Nodup) (hi : PDI G W X true tg iter n) (ok : BlkOk X.N X.env.scope scope own)
    (hg : ∀ (s : Shared) (H : Hp) (C : Addr) (cl : List (Str × Addr)) (fp : List Addr), PGd (X.blk s H scope (compEnvC scope cl C X.env) fp) tg tgt g js) (hj : ∀ j ∈ js, j ∈ own.map (·.2))
    (ht : ∀ (s : Shared) (H : Hp) (C : Addr) (cl : List (Str × Addr)) (fp : List Addr), PTsd G (X.blk s H scope (compEnvC scope cl C X.env) fp) ifs q)
    (he : ∀ (s : Shared) (H : Hp) (C : Addr) (cl : List (Str × Addr)) (fp : List Addr), PD G E0 (X.blk s H scope (compEnvC scope cl C X.env) fp) elt m)
    (hsw : swapsWith (.ListComp elt [⟨tg, iter, ifs, 0⟩] scope pos) (some (.Name y py)) spos.line X.env = pure true) (hy : X.N[i]? = some y := by rfl) (hyl : X.env.scope.names.lookup y = some .local := by rfl)
    (hs : ∀ x, foldedSetIterable iter X.env x = pure x := by intro _; rfl) :
    PSd G W X (.Assign [.Name y py] (.ListComp elt [⟨tg, iter, ifs, 0⟩] scope pos) spos) (sAsg (gNm i) (eFr (eComp (own.map (·.2)) n g q m))) :=
  ⟨⟨fun pins s σ H D I h => (ps_setLc (g := tgt) (tt := tT G E0 X.K q) (te := tD G E0 X.K m) hc hN hy hyl hsw hi.run ok (fun s H C cl fp => (hg s H C cl fp).pg) (fun s H C cl fp => (ht s H C cl fp).run) (fun s H C cl fp => (he s H C cl fp).run) hs).run pins s σ H D I
    (setLc_reads (fun σ H Q h => comp_reads (fun α F H Bs κ ρ ρ' σ d v Q w sl r e hq => (hg s H 0 [] []).ok G α F H Bs κ ρ ρ' σ d v Q w sl r e fun σ' sl' hw => hq σ' sl' (hw _ hj)) (fun σ => wipe_wipe _ _ fun j hj => hj) h) h)⟩⟩
end
end DL
set_option Elab.async false
set_option linter.all false
set_option maxRecDepth 100000
set_option maxHeartbeats 4000000
/-! DL7: loops, own lists, the store, defs. -/
namespace DL
open PySem PySem.Spec PyProof.Rows L2
section
variable {G : Gx} {W : XK} {K : PySem.W.Frag} {α α' α0 : List Addr} {F F' F0 H H' Bs : Hp} {κ : Ka} {σ : L2.St} {ρ : List Sl} {Dn : Ends}
theorem tI_bindS {l : Bool} {n : Ev (List D)} {f : List D → Ka → Option (Out × Ka)} {R : It → Hp → Prop} (gb : Gr α0 F0 Bs α F H) (w : Wd G K α F H κ) (sl : Sls K α F H Bs ρ σ) (h : PSt G W K α0 F0 Bs α F Dn ((n ρ κ).bindS f))
    (hR : ∀ α1 F1 H1 κ1 ds J, Gr α0 F0 Bs α1 F1 H1 → Wd G K α1 F1 H1 κ1 → Sls K α1 F1 H1 Bs ρ σ → ItOk G K l α1 F1 H1 J ds → PSt G W K α0 F0 Bs α1 F1 Dn (f ds κ1) → R J H1) : tI G W K l n σ H R := by
  refine ⟨α, F, ρ, κ, Bs, w, sl, ?_⟩
  rcases hm : n ρ κ with _ | ⟨o, κ'⟩
  · rw [hm] at h; exact h
  · rw [hm] at h
    cases o with
    | ok d => exact fun α' F' H' g w' J j => hR α' F' H' κ' d J (gb.trans g) w' (sl.gr g) j (h.ex g.exn)
    | er c => exact fun α' F' H' g w' => h α' F' H' (gb.trans g) g.exn w'
end
section
variable {G : Gx} {W : XK} {X : Cx} {e a b c : Expr} {es : List Expr} {m ma mb mc : Ev D} {n : Ev (List D)} {pos p : Pos} {st : Stmt} {sts rest : List Stmt} {s t u : Es} {k : Ev Bool} {tg : Expr} {g : Tg} {tgt : TG} {js : List Nat}
theorem s_for {iter : Expr} {body : List Stmt} (hp : PassesOwn (model X.prog X.w) X.A X.env X.xe) (hc : X.calm = true) (hi : PDI G W X false tg iter n) (hg : PGd X tg tgt g js) (hb : PSsd G W X body s)
    (hs : ∀ x, foldedSetIterable iter X.env x = pure x := by intro _; rfl) : PSd G W X (.For tg iter body [] pos) (sForE n g s) :=
  ⟨ps_imp (ps_for hp hc hi.run hg.pg hb.run hs) fun Dn σ H ⟨α0, F0, Bs, α, F, ρ, κ, gb, w, sl, h⟩ => by
    refine tI_bindS gb w sl h fun α1 F1 H1 κ1 ds J gb1 w1 sl1 j1 h1 => ?_
    refine ⟨fun i m σ H => m = ds.length - i ∧ i ≤ ds.length ∧ ∃ α2 F2 κ2 ρ2, Exn α1 F1 α2 F2 ∧ Gr α0 F0 Bs α2 F2 H ∧ Wd G X.K α2 F2 H κ2 ∧ Sls X.K α2 F2 H Bs ρ2 σ ∧ PSt G W X.K α0 F0 Bs α2 F2 Dn (sFor g s (ds.drop i) ρ2 κ2), ⟨ds.length, by simp, Nat.zero_le _, α1, F1, κ1, ρ, Exn.refl _ _, gb1, w1, sl1, h1⟩, ?_⟩
    rintro i m σ2 H2 ⟨rfl, hi, α2, F2, κ2, ρ2, ex2, gb2, w2, sl2, h2⟩
    by_cases hlt : i < ds.length
    · have hd : ds[i]? = some ds[i] := List.getElem?_eq_getElem hlt
      have hdr : ds.drop i = ds[i] :: ds.drop (i + 1) := List.drop_eq_getElem_cons hlt
      rw [hdr] at h2
      simp only [sFor] at h2
      obtain ⟨go, yl⟩ := j1.go α2 F2 H2 κ2 ex2 w2 i _ hd
      rcases hgd : g ds[i] ρ2 with _ | ρ3
      · rw [hgd] at h2; exact h2.elim
      · rw [hgd] at h2
        refine .inr ⟨go, fun σ' H' => i + 1 ≤ ds.length ∧ ∃ α2 F2 κ2 ρ2, Exn α1 F1 α2 F2 ∧ Gr α0 F0 Bs α2 F2 H' ∧ Wd G X.K α2 F2 H' κ2 ∧ Sls X.K α2 F2 H' Bs ρ2 σ' ∧ PSt G W X.K α0 F0 Bs α2 F2 Dn (sFor g s (ds.drop (i + 1)) ρ2 κ2),
          fun σ' H' ⟨q1, q2⟩ => ⟨ds.length - (i + 1), by omega, rfl, q1, q2⟩, fun x H3 hy => ?_⟩
        obtain ⟨F3, g3, w3, r3⟩ := yl x H3 hy
        have gb3 := gb2.trans g3
        have ex3 := ex2.trans g3.exn
        have h3 := h2.ex g3.exn
        refine hg.ok G α2 F3 H3 Bs κ2 ρ2 ρ3 σ2 _ x _ w3 (sl2.gr g3) r3 hgd fun σ3 sl3 _ => ?_
        refine ⟨α0, F0, Bs, α2, F3, ρ3, κ2, gb3, w3, sl3, ?_⟩
        rcases hm : s ρ3 κ2 with _ | ⟨o, κ4⟩
        · simp only [hm] at h3; exact h3
        · simp only [hm] at h3
          cases o with
          | nx ρ4 => exact fun α' F' H' g' x' w' σ' sl' => ⟨hlt, α', F', κ4, ρ4, ex3.trans x', g', w', sl', h3.ex x'⟩
          | ct ρ4 => exact fun α' F' H' g' x' w' σ' sl' => ⟨hlt, α', F', κ4, ρ4, ex3.trans x', g', w', sl', h3.ex x'⟩
          | bk ρ4 => exact fun α' F' H' g' x' w' σ' sl' => h3 α' F' H' g' x' w' σ' sl'
          | rt d => exact h3
          | er c => exact h3
    · have ei : i = ds.length := by omega
      subst ei
      rw [List.drop_length] at h2
      exact .inl ⟨j1.stop α2 F2 H2 κ2 ex2 w2, PSt.nx gb2 w2 sl2 h2⟩⟩
/-- the turns that a while may take at the most -/
def fuel : Nat := 18446744073709551616
theorem s_while {body : List Stmt} (hp : PassesOwn (model X.prog X.w) X.A X.env X.xe) (hc : PB G W X c k) (hb : PSsd G W X body s) : PSd G W X (.While c body [] pos) (sWhl k s fuel) :=
  ⟨ps_imp (ps_while hp hc.run hb.run) fun Dn σ H ⟨α0, F0, Bs, α, F, ρ, κ, gb, w, sl, h⟩ => by
    generalize fuel = fl at h
    refine ⟨fun m σ H => ∃ α2 F2 κ2 ρ2, Gr α0 F0 Bs α2 F2 H ∧ Wd G X.K α2 F2 H κ2 ∧ Sls X.K α2 F2 H Bs ρ2 σ ∧ PSt G W X.K α0 F0 Bs α2 F2 Dn (sWhl k s m ρ2 κ2), ⟨fl, α, F, κ, ρ, gb, w, sl, h⟩, ?_⟩
    rintro m σ2 H2 ⟨α2, F2, κ2, ρ2, gb2, w2, sl2, h2⟩
    cases m with
    | zero => exact h2.elim
    | succ m =>
      simp only [sWhl] at h2
      refine tT_mono (fun b H3 hb3 => ?_) (tT_bindS gb2 w2 sl2 h2)
      obtain ⟨α3, F3, κ3, gb3, w3, sl3, h3⟩ := hb3
      cases b with
      | false => rw [if_neg Bool.false_ne_true]; exact PSt.nx gb3 w3 sl3 h3
      | true =>
        rw [if_pos rfl]
        refine ⟨fun σ' H' => ∃ α2 F2 κ2 ρ2, Gr α0 F0 Bs α2 F2 H' ∧ Wd G X.K α2 F2 H' κ2 ∧ Sls X.K α2 F2 H' Bs ρ2 σ' ∧ PSt G W X.K α0 F0 Bs α2 F2 Dn (sWhl k s m ρ2 κ2), fun σ' H' q => ⟨m, Nat.lt_succ_self m, q⟩, ?_⟩
        refine ⟨α0, F0, Bs, α3, F3, ρ2, κ3, gb3, w3, sl3, ?_⟩
        rcases hm : s ρ2 κ3 with _ | ⟨o, κ4⟩
        · simp only [if_true, hm] at h3; exact h3
        · simp only [if_true, hm] at h3
          cases o with
          | nx ρ4 => exact fun α' F' H' g' x' w' σ' sl' => ⟨α', F', κ4, ρ4, g', w', sl', h3.ex x'⟩
          | ct ρ4 => exact fun α' F' H' g' x' w' σ' sl' => ⟨α', F', κ4, ρ4, g', w', sl', h3.ex x'⟩
          | bk ρ4 => exact fun α' F' H' g' x' w' σ' sl' => h3 α' F' H' g' x' w' σ' sl'
          | rt d => exact h3
          | er c => exact h3⟩

/-! ### own lists -/
def sApp (i : Nat) (m : Ev D) : Es := fun ρ κ => match ρ[i]? with
  | some (.own ds) => (m ρ κ).bindS fun d κ1 => if isBor d = true ∨ 16777216 ≤ ds.length then none else some (.nx (ρ.set i (.own (ds ++ [d]))), κ1)
  | _ => none
def sSetI (i : Nat) (mi m : Ev D) : Es := fun ρ κ => match ρ[i]? with
  | some (.own ds) => (m ρ κ).bindS fun d κ1 => (mi ρ κ1).bindS fun j κ2 => match j with
    | .int z => match ixN ds.length z with
      | some q => if isBor d = true then none else some (.nx (ρ.set i (.own (ds.set q d))), κ2)
      | none => none
    | _ => none
  | _ => none
/-- o[i] = e, o a list of the store -/
def sSetO (mo mi m : Ev D) : Es := fun ρ κ => (m ρ κ).bindS fun d κ1 => (mo ρ κ1).bindS fun o κ2 => (mi ρ κ2).bindS fun j κ3 => match o, j with
  | .obj n, .int z => match κ3[n]? with
    | some (.lst ds) => match ixN ds.length z with
      | some q => if isBor d = true then none else some (.nx ρ, κ3.set n (.lst (ds.set q d)))
      | none => none
    | _ => none
  | _, _ => none
/-- the own list at slot i is written -/
theorem own_write {α0 : List Addr} {F0 Bs : Hp} {α : List Addr} {F H : Hp} {κ : Ka} {ρ : List Sl} {σ : L2.St} {K : PySem.W.Frag} {i : Nat} {ds ds' : List D} {a : Addr} {xs' : List V} (gb : Gr α0 F0 Bs α F H) (w : Wd G K α F H κ) (sl : Sls K α F H Bs ρ σ)
    (he : ρ[i]? = some (.own ds)) (ha : σ[i]? = some (some (.ref a))) (r : RpL K α F ds' xs') : Gr α0 F0 Bs α F (upd H a (.lst xs')) ∧ Wd G K α F (upd H a (.lst xs')) κ ∧ Sls K α F (upd H a (.lst xs')) Bs (ρ.set i (.own ds')) σ := by
  obtain ⟨o, ho, a', xs, e, h1, h2, h3, h4, r0⟩ := sl.at' i _ he
  rw [ha] at ho; cases ho; cases e
  have hi : i < ρ.length := (List.getElem?_eq_some_iff.mp he).1
  refine ⟨gb.out h4, w.out h3 h2, by simp [sl.len], fun j s e => ?_, fun j k b ds1 es e1 e2 e3 e4 => ?_⟩
  · by_cases hj : i = j
    · subst hj
      rw [List.getElem?_set_self hi] at e; cases e
      exact ⟨_, ha, a, xs', rfl, upd_same, h2, h3, h4, r⟩
    · rw [List.getElem?_set_ne hj] at e
      obtain ⟨o', ho', so⟩ := sl.at' j s e
      refine ⟨o', ho', ?_⟩
      cases s with
      | no => trivial
      | val d =>
        obtain ⟨v, e5, r5, b5⟩ := so
        refine ⟨v, e5, ?_, b5⟩
        cases d with
        | bor es =>
          obtain ⟨c, ys, rfl, k1, k2, k3, k4⟩ := r5
          obtain ⟨c', e6, k6⟩ := b5 rfl
          cases e6
          refine ⟨c, ys, rfl, ?_, k2, k3, k4⟩
          rw [upd_ne (fun (q : c = a) => k6 (q ▸ h4))]; exact k1
        | _ => exact r5
      | own es =>
        obtain ⟨c, ys, rfl, k1, k2, k3, k4, k5⟩ := so
        refine ⟨c, ys, rfl, ?_, k2, k3, k4, k5⟩
        rw [upd_ne ?_]; exact k1
        rintro rfl
        exact hj (sl.sep i j c _ _ he e ha ho')
  · have f1 : ∃ ds2, ρ[j]? = some (.own ds2) := by
      by_cases hj : i = j
      · subst hj; exact ⟨_, he⟩
      · rw [List.getElem?_set_ne hj] at e1; exact ⟨_, e1⟩
    have f2 : ∃ ds2, ρ[k]? = some (.own ds2) := by
      by_cases hk : i = k
      · subst hk; exact ⟨_, he⟩
      · rw [List.getElem?_set_ne hk] at e2; exact ⟨_, e2⟩
    obtain ⟨d1, f1⟩ := f1
    obtain ⟨d2, f2⟩ := f2
    exact sl.sep j k b _ _ f1 f2 e3 e4
theorem own_at {K : PySem.W.Frag} {α : List Addr} {F H Bs : Hp} {ρ : List Sl} {σ : L2.St} {i : Nat} {ds : List D} (sl : Sls K α F H Bs ρ σ) (he : ρ[i]? = some (.own ds)) : ∃ a xs, σ[i]? = some (some (.ref a)) ∧ H a = some (.lst xs) ∧ a ∉ α ∧ RpL K α F ds xs := by
  obtain ⟨o, ho, a, xs, e, h1, h2, h3, h4, r0⟩ := sl.at' i _ he
  cases e
  exact ⟨a, xs, ho, h1, h3, r0⟩
theorem s_app {i : Nat} {x : Str} {px apos cpos : Pos} (h1 : PD G W X e m) (hN : X.N[i]? = some x := by rfl) (hv : Vis X.env.scope x := by first | exact Or.inl rfl | exact Or.inr (Or.inl rfl) | exact Or.inr (Or.inr rfl)) (hd : (x == ("__debug__" : Str)) = false := by decide) (hcd : (x == ("__classdict__" : Str)) = false := by decide)
    (hs : starEach [e] X.env = (false, eval e X.env) :: starEach [] X.env := by rfl)
    (hsw : swapsWith (.Call (.Attribute (.Name x px) "append" apos) [e] [] cpos) none pos.line X.env = pure false := by rfl)
    (hb : attributeBase (.Name x px) "append" X.env (eval (.Name x px) X.env) = eval (.Name x px) X.env := by rfl) (hline : (apos.endLine == cpos.line) = true := by rfl)
    (hfew : ((backTo cpos (starEach [e] X.env)).all (fun x => !x.1) && (backToKw cpos (keywordEach [] X.env)).all (fun x => x.1.isSome)
      && decide ([e].length + ([] : List Keyword).length + (if ([] : List Keyword).isEmpty then 0 else 1) < 30)) = true := by rfl) :
    PSd G W X (.Expr (.Call (.Attribute (.Name x px) "append" apos) [e] [] cpos) pos) (sApp i m) :=
  ⟨ps_imp (ps_expr (pe_bm PySem.F.plainAttrs_list PySem.F.slot_list_append PySem.F.type_list_append mt_append (pe_var hN hv hd hcd) (pa_cons h1.run pa_nil hs) hb hfew hline hs) hsw) fun Dn σ H ⟨α0, F0, Bs, α, F, ρ, κ, gb, w, sl, h⟩ => by
    unfold sApp at h
    split at h
    · rename_i ds he
      obtain ⟨a, xs, hσ, ha, na, r⟩ := own_at sl he
      refine ⟨.ref a, hσ, .inl ⟨rfl, xs, SqL.of ha⟩, ?_⟩
      refine tD_mono (fun y H1 ⟨α1, F1, κ1, d, g1, gb1, w1, sl1, r1, h1⟩ => ?_) (tD_bindS gb w sl h)
      split at h1
      · exact h1.elim
      · rename_i hnb
        have hnb1 : isBor d = false := by
          cases q : isBor d with
          | false => rfl
          | true => exact absurd (.inl q) hnb
        have hnb2 : ds.length < 16777216 := Nat.lt_of_not_le fun q => hnb (.inr q)
        have r2 := r.gr g1
        obtain ⟨k1, k2, k3⟩ := own_write gb1 w1 sl1 he hσ (r2.append (.cons (r1.rp hnb1) .nil))
        exact ⟨a, xs, y, rfl, rfl, g1.ke _ _ ha na, by rw [sizeLine_eq, ← r.length]; exact hnb2, PSt.nx k1 k2 k3 h1⟩
    · exact h.elim⟩
theorem s_seti {i : Nat} {x : Str} {px tpos : Pos} (h1 : PD G W X e m) (h2 : PD G W X b mb) (hN : X.N[i]? = some x := by rfl) (hv : Vis X.env.scope x := by first | exact Or.inl rfl | exact Or.inr (Or.inl rfl) | exact Or.inr (Or.inr rfl)) (hd : (x == ("__debug__" : Str)) = false := by decide) (hcd : (x == ("__classdict__" : Str)) = false := by decide)
    (ha : ∀ v, assign (.Subscript (.Name x px) b tpos) X.env v = (do
      let ov ← holding [v] (eval (.Name x px) X.env)
      let iv ← holding [v, ov] (eval b X.env)
      standAt tpos
      holding [v, ov, iv] (setItem ov iv v)
      release [v, ov, iv] []) := by intro _; rfl)
    (hs : swapsWithSole [.Subscript (.Name x px) b tpos] e pos.line X.env = pure false := by rfl) (hw : swappedStores [.Subscript (.Name x px) b tpos] e X.env = pure none := by rfl) (hz : (assignEach [.Subscript (.Name x px) b tpos] X.env).map (·.2) = [assign (.Subscript (.Name x px) b tpos) X.env] := by rfl) :
    PSd G W X (.Assign [.Subscript (.Name x px) b tpos] e pos) (sSetI i mb m) :=
  ⟨ps_imp (ps_asg h1.run (pg_sub (pe_var hN hv hd hcd) h2.run set_list ha) hs hw hz) fun Dn σ H ⟨α0, F0, Bs, α, F, ρ, κ, gb, w, sl, h⟩ => by
    unfold sSetI at h
    split at h
    · rename_i ds he
      refine tD_mono (fun y H1 ⟨α1, F1, κ1, d, g1, gb1, w1, sl1, r1, h1⟩ => ?_) (tD_bindS gb w sl h)
      obtain ⟨a, xs, hσ, ha, na, r⟩ := own_at sl1 he
      refine ⟨.ref a, hσ, ?_⟩
      refine tD_mono (fun z H2 ⟨α2, F2, κ2, j, g2, gb2, w2, sl2, r2, h2⟩ => ?_) (tD_bindS gb1 w1 sl1 h1)
      split at h2
      · rename_i z'
        split at h2
        · rename_i q hq
          split at h2
          · exact h2.elim
          · rename_i hb
            have rd := (r1.gr g2).rp (by cases q : isBor d <;> simp_all)
            have r3 := r.gr g2
            obtain ⟨k1, k2, k3⟩ := own_write gb2 w2 sl2 he hσ (r3.set rd q)
            exact ⟨a, xs, z', q, rfl, rv_int r2, g2.ke _ _ ha na, by rw [← r.length]; exact hq, PSt.nx k1 k2 k3 h2⟩
        · exact h2.elim
      · exact h2.elim
    · exact h.elim⟩
/-- a list of the store is written -/
theorem cell_write {α0 : List Addr} {F0 Bs : Hp} {α : List Addr} {F H : Hp} {κ : Ka} {ρ : List Sl} {σ : L2.St} {K : PySem.W.Frag} {n : Nat} {ds ds' : List D} {a : Addr} {xs' : List V} (gb : Gr α0 F0 Bs α F H) (w : Wd G K α F H κ) (sl : Sls K α F H Bs ρ σ)
    (ha : α[n]? = some a) (hk : κ[n]? = some (.lst ds)) (r : RpL K α F ds' xs') : Gr α0 F0 Bs α F (upd H a (.lst xs')) ∧ Wd G K α F (upd H a (.lst xs')) (κ.set n (.lst ds')) ∧ Sls K α F (upd H a (.lst xs')) Bs ρ σ := by
  have am : a ∈ α := List.mem_of_getElem? ha
  have fa : F a = none := w.fre a am
  refine ⟨⟨gb.al, gb.fr, gb.fn, fun b u e m => ?_, fun b e => ?_⟩, ⟨fun b u e => ?_, by simp [w.len], w.inj, w.fre, fun k b c e1 e2 => ?_⟩, ⟨sl.len, fun j s e => ?_, sl.sep⟩⟩
  · have h1 := gb.ke b u e m
    rw [upd_ne ?_]; exact h1
    rintro rfl
    obtain ⟨β, rfl, hβ⟩ := gb.al
    rcases List.mem_append.mp am with z | z
    · exact m z
    · rw [hβ _ z] at e; cases e
  · by_cases hb : b = a
    · subst hb; rw [upd_same]; simp
    · rw [upd_ne hb]; exact gb.dm b e
  · rw [upd_ne (ne_of_none e fa)]; exact w.sub _ _ e
  · by_cases hk' : k = n
    · subst hk'
      rw [ha] at e1; cases e1
      have hl : k < κ.length := (List.getElem?_eq_some_iff.mp hk).1
      rw [List.getElem?_set_self hl] at e2; cases e2
      exact ⟨xs', upd_same, r⟩
    · rw [List.getElem?_set_ne (Ne.symm hk')] at e2
      have := (w.cel k b c e1 e2).keep (β := []) (F' := F) (H' := upd H a (.lst xs')) (Same.refl _) (upd_ne (fun (q : b = a) => hk' (w.inj k n a (q ▸ e1) ha)))
      rwa [List.append_nil] at this
  · obtain ⟨o, ho, so⟩ := sl.at' j s e
    refine ⟨o, ho, ?_⟩
    cases s with
    | no => trivial
    | val d =>
      obtain ⟨v, e5, r5, b5⟩ := so
      refine ⟨v, e5, ?_, b5⟩
      cases d with
      | bor es =>
        obtain ⟨c, ys, rfl, k1, k2, k3, k4⟩ := r5
        exact ⟨c, ys, rfl, by rw [upd_ne (fun (q : c = a) => k2 (q ▸ am))]; exact k1, k2, k3, k4⟩
      | _ => exact r5
    | own es =>
      obtain ⟨c, ys, rfl, k1, k2, k3, k4, k5⟩ := so
      exact ⟨c, ys, rfl, by rw [upd_ne (fun (q : c = a) => k3 (q ▸ am))]; exact k1, k2, k3, k4, k5⟩
theorem s_seto {o i : Expr} {mo mi : Ev D} {tpos : Pos} (h1 : PD G W X e m) (ho : PD G W X o mo) (hi : PD G W X i mi)
    (ha : ∀ v, assign (.Subscript o i tpos) X.env v = (do
      let ov ← holding [v] (eval o X.env)
      let iv ← holding [v, ov] (eval i X.env)
      standAt tpos
      holding [v, ov, iv] (setItem ov iv v)
      release [v, ov, iv] []) := by intro _; rfl)
    (hs : swapsWithSole [.Subscript o i tpos] e pos.line X.env = pure false := by rfl) (hw : swappedStores [.Subscript o i tpos] e X.env = pure none := by rfl) (hz : (assignEach [.Subscript o i tpos] X.env).map (·.2) = [assign (.Subscript o i tpos) X.env] := by rfl) :
    PSd G W X (.Assign [.Subscript o i tpos] e pos) (sSetO mo mi m) :=
  ⟨ps_imp (ps_asg h1.run (pg_sub ho.run hi.run set_list ha) hs hw hz) fun Dn σ H ⟨α0, F0, Bs, α, F, ρ, κ, gb, w, sl, h⟩ => by
    refine tD_mono (fun y H1 ⟨α1, F1, κ1, d, g1, gb1, w1, sl1, r1, h1⟩ => ?_) (tD_bindS gb w sl h)
    refine tD_mono (fun x H2 ⟨α2, F2, κ2, q, g2, gb2, w2, sl2, r2, h2⟩ => ?_) (tD_bindS gb1 w1 sl1 h1)
    refine tD_mono (fun z H3 ⟨α3, F3, κ3, j, g3, gb3, w3, sl3, r3, h3⟩ => ?_) (tD_bindS gb2 w2 sl2 h2)
    have rq := r2.gr g3
    cases q with
    | obj n' =>
      cases j with
      | int z' =>
        simp only at h3
        split at h3
        · rename_i ds hk
          split at h3
          · rename_i q' hq
            split at h3
            · exact h3.elim
            · rename_i hb
              cases rq with
              | obj hα =>
                obtain ⟨xs, hx, r⟩ := w3.cell hα hk
                have rd := ((r1.gr g2).gr g3).rp (by cases q : isBor d <;> simp_all)
                obtain ⟨k1, k2, k3⟩ := cell_write gb3 w3 sl3 hα hk (r.set rd q')
                exact ⟨_, xs, z', q', rfl, rv_int r3, hx, by rw [← r.length]; exact hq, PSt.nx k1 k2 k3 h3⟩
          · exact h3.elim
        · exact h3.elim
      | _ => exact h3.elim
    | _ => exact h3.elim⟩
/-- [..] as a thing of the store -/
theorem d_st (h : PF G W X e n) : PD G W X e (eSt n) :=
  ⟨pe_imp h.run fun σ H Q ⟨α, F, ρ, κ, Bs, w, sl, h⟩ => by
    refine ⟨α, F, ρ, κ, Bs, w, sl, ?_⟩
    unfold eSt at h
    rcases hm : n ρ κ with _ | ⟨o, κ'⟩
    · rw [hm] at h; exact h
    · rw [hm] at h
      cases o with
      | er c => exact h
      | ok ds =>
        intro α' F' H' g w' a xs h1 h2 h3 h4 r
        have hs : H' a ≠ none := by rw [h1]; simp
        refine h (α' ++ [a]) F' H' ⟨?_, g.fr, g.fn, g.ke, g.dm⟩ ⟨w'.sub, by simp [w'.len], fun i j b e1 e2 => ?_, fun b m => ?_, fun k b c e1 e2 => ?_⟩ _ (Rp.rv (.obj (by rw [← w'.len]; simp)))
        · obtain ⟨β, rfl, hβ⟩ := g.al
          exact ⟨β ++ [a], by simp, fun b m => by rcases List.mem_append.mp m with z | z; exact hβ b z; simp at z; rw [z]; exact h4⟩
        · have key : ∀ i, (α' ++ [a])[i]? = some b → (i < α'.length ∧ α'[i]? = some b) ∨ (i = α'.length ∧ b = a) := fun i e => by
            by_cases hi : i < α'.length
            · rw [List.getElem?_append_left hi] at e; exact .inl ⟨hi, e⟩
            · rw [List.getElem?_append_right (Nat.le_of_not_lt hi)] at e
              have : i - α'.length = 0 := by
                refine Nat.eq_zero_of_not_pos fun q => ?_
                rw [List.getElem?_eq_none (by simp; omega)] at e; cases e
              rw [this] at e
              simp at e
              exact .inr ⟨by omega, e.symm⟩
          rcases key i e1 with ⟨p1, p2⟩ | ⟨p1, p2⟩ <;> rcases key j e2 with ⟨q1, q2⟩ | ⟨q1, q2⟩
          · exact w'.inj i j b p2 q2
          · subst q2; exact absurd (List.mem_of_getElem? p2) h3
          · subst p2; exact absurd (List.mem_of_getElem? q2) h3
          · rw [p1, q1]
        · rcases List.mem_append.mp m with z | z
          · exact w'.fre b z
          · simp at z; rw [z]; exact h2
        · by_cases hk : k < α'.length
          · rw [List.getElem?_append_left hk] at e1
            rw [List.getElem?_append_left (by rw [← w'.len]; exact hk)] at e2
            exact (w'.cel k b c e1 e2).keep (Same.refl _) rfl
          · rw [List.getElem?_append_right (Nat.le_of_not_lt hk)] at e1
            have k0 : k - α'.length = 0 := by
              refine Nat.eq_zero_of_not_pos fun q => ?_
              rw [List.getElem?_eq_none (by simp; omega)] at e1; cases e1
            rw [k0] at e1
            rw [List.getElem?_append_right (by rw [← w'.len]; exact Nat.le_of_not_lt hk)] at e2
            rw [← w'.len, k0] at e2
            simp at e1 e2
            subst e1 e2
            exact ⟨xs, h1, r.mono (Same.refl _)⟩⟩
/-! ### a, b = x, y; x op= e -/
def sPar (i j : Nat) (n : Ev (List D)) : Es := fun ρ κ => (n ρ κ).bindS fun ds κ1 => match ds with
  | [d, e] => if noBor ds = true then some (.nx ((ρ.set i (.val d)).set j (.val e)), κ1) else none
  | _ => none
theorem s_par {i j : Nat} {x y : Str} {px py pt : Pos} {kt k2 pt2} (hc : X.calm = true) (hN : X.N.Nodup) (ha : PDL G W X [a, b] n)
    (hw : swappedStores [.Tuple [.Name x px, .Name y py] kt pt] (.Tuple [a, b] k2 pt2) X.env = pure (some [x, y])) (hi : X.N[i]? = some x := by rfl) (hj : X.N[j]? = some y := by rfl) (hij : i ≠ j := by decide)
    (hx : X.env.scope.names.lookup x = some .local := by rfl) (hy : X.env.scope.names.lookup y = some .local := by rfl)
    (hs : swapsWithSole [.Tuple [.Name x px, .Name y py] kt pt] (.Tuple [a, b] k2 pt2) pos.line X.env = pure false := by rfl) :
    PSd G W X (.Assign [.Tuple [.Name x px, .Name y py] kt pt] (.Tuple [a, b] k2 pt2) pos) (sPar i j n) :=
  ⟨ps_imp (ps_par hc hN hi hj hij hx hy ha.run hw hs) fun Dn σ H ⟨α0, F0, Bs, α, F, ρ, κ, gb, w, sl, h⟩ =>
    tL_mono (fun vs H1 ⟨α1, F1, κ1, ds, g1, gb1, w1, sl1, r1, h1⟩ => by
      split at h1
      · rename_i d e
        split at h1
        · rename_i hb
          have r2 := r1.rpl hb
          cases r2 with
          | cons ra rt => cases rt with | cons rb rt => cases rt; exact ⟨_, _, rfl, PSt.nx gb1 w1 ((sl1.setVal i ra).setVal j rb) h1⟩
        · exact h1.elim
      · exact h1.elim) (tL_bindS gb w sl h)⟩
def sAug (i : Nat) (f : D → D → Option D) (m : Ev D) : Es := fun ρ κ => match ρ[i]? with
  | some (.val d) => (m ρ κ).bindS fun e κ1 => match f d e with
    | some r => if isBor r = true then none else some (.nx (ρ.set i (.val r)), κ1)
    | none => none
  | _ => none
def oAddI (x y : D) : Option D := match x, y with
  | .int i, .int j => some (.int (i + j))
  | _, _ => none
def oSubI (x y : D) : Option D := match x, y with
  | .int i, .int j => some (.int (i - j))
  | _, _ => none
theorem s_augI {i : Nat} {x : Str} {pos' : Pos} {op : Operator} {q : Int → Int → Int} {f : D → D → Option D} (hN : X.N.Nodup) (h1 : PD G W X e m) (ho : PIp X op (ipI q)) (hf : ∀ d e r, f d e = some r → ∃ i j, d = .int i ∧ e = .int j ∧ r = .int (q i j))
    (hi : X.N[i]? = some x := by rfl) (hx : Loc X.env.scope x := by first | exact .inl rfl | exact .inr rfl) (hfn : X.fn x = true ∨ X.env.scope.names.lookup x = some .local := by first | exact .inl rfl | exact .inr rfl | assumption) : PSd G W X (.AugAssign (.Name x pos') op e pos) (sAug i f m) :=
  ⟨ps_imp (ps_aug hN hi hx h1.run ho hfn) fun Dn σ H ⟨α0, F0, Bs, α, F, ρ, κ, gb, w, sl, h⟩ => by
    unfold sAug at h
    split at h
    · rename_i d he
      obtain ⟨o, ho, v, rfl, r0, _⟩ := sl.at' i _ he
      refine ⟨v, ho, ?_⟩
      refine tD_mono (fun y H1 ⟨α1, F1, κ1, e, g1, gb1, w1, sl1, r1, h1⟩ => ?_) (tD_bindS gb w sl h)
      rcases hr : f d e with _ | r
      · simp only [hr] at h1; exact h1.elim
      · simp only [hr] at h1
        obtain ⟨a, b, rfl, rfl, rfl⟩ := hf d e r hr
        rw [if_neg (show ¬ isBor (D.int (q a b)) = true from fun z => by cases z)] at h1
        exact ⟨a, b, rv_int r0, rv_int r1, PSt.nx gb1 w1 (sl1.setVal i (.int _)) h1⟩
    · exact h.elim⟩
theorem s_augAdd {i : Nat} {x : Str} {pos' : Pos} (hN : X.N.Nodup) (h1 : PD G W X e m)
    (hi : X.N[i]? = some x := by rfl) (hx : Loc X.env.scope x := by first | exact .inl rfl | exact .inr rfl) (hfn : X.fn x = true ∨ X.env.scope.names.lookup x = some .local := by first | exact .inl rfl | exact .inr rfl | assumption) : PSd G W X (.AugAssign (.Name x pos') .Add e pos) (sAug i oAddI m) :=
  s_augI hN h1 ip_add (fun d e r h => by unfold oAddI at h; split at h <;> first | (cases h; exact ⟨_, _, rfl, rfl, rfl⟩) | cases h) hi hx hfn
theorem s_augSub {i : Nat} {x : Str} {pos' : Pos} (hN : X.N.Nodup) (h1 : PD G W X e m)
    (hi : X.N[i]? = some x := by rfl) (hx : Loc X.env.scope x := by first | exact .inl rfl | exact .inr rfl) (hfn : X.fn x = true ∨ X.env.scope.names.lookup x = some .local := by first | exact .inl rfl | exact .inr rfl | assumption) : PSd G W X (.AugAssign (.Name x pos') .Sub e pos) (sAug i oSubI m) :=
  s_augI hN h1 ip_sub (fun d e r h => by unfold oSubI at h; split at h <;> first | (cases h; exact ⟨_, _, rfl, rfl, rfl⟩) | cases h) hi hx hfn
end
/-! ### defs -/
/-- an error is no end of a def that lets none out -/
def noEr {β : Type} (r : Re β) : Re β := match r with
  | some (.ok a, k) => some (.ok a, k)
  | _ => none
def slots (N : Nat) (ds : List D) : List Sl := ds.map Sl.val ++ List.replicate (N - ds.length) .no
/-- what a def means: its body over its slots -/
def mean (N : Nat) (body : Es) (ds : List D) (κ : Ka) : Re D := match body (slots N ds) κ with
  | some (.nx _, κ') => some (.ok .non, κ')
  | some (.rt d, κ') => some (.ok d, κ')
  | some (.er c, κ') => some (.er c, κ')
  | _ => none
theorem sls_start {K : PySem.W.Frag} {α : List Addr} {F H : Hp} {ds : List D} {vs : List V} {N : List Str} (r : RvL K α F H ds vs) : Sls K α F H H (slots N.length ds) (L2.start N vs) := by
  have el := r.length
  have key : ∀ (i : Nat) (s : Sl), (slots N.length ds)[i]? = some s → ∃ o, (L2.start N vs)[i]? = some o ∧ SlOk K α F H H s o ∧ ∀ es, s ≠ .own es := by
    intro i s e
    unfold slots at e
    unfold L2.start
    by_cases hi : i < ds.length
    · rw [List.getElem?_append_left (by simpa using hi), List.getElem?_map] at e
      obtain ⟨d, hd, rfl⟩ := Option.map_eq_some_iff.mp e
      have : ∃ v, vs[i]? = some v ∧ Rv K α F H d v := by
        clear e hi el
        induction r generalizing i with
        | nil => simp at hd
        | cons h t ih =>
          cases i with
          | zero => simp at hd; subst hd; exact ⟨_, by simp, h⟩
          | succ i => obtain ⟨v, a, b⟩ := ih i (by simpa using hd); exact ⟨v, by simpa using a, b⟩
      obtain ⟨v, hv, rv⟩ := this
      refine ⟨some v, ?_, ⟨v, rfl, rv, fun hb => ?_⟩, fun es q => by cases q⟩
      · rw [List.getElem?_append_left (by rw [List.length_map, ← el]; exact hi), List.getElem?_map, hv]; rfl
      · cases d with
        | bor es => obtain ⟨a, xs, rfl, h1, _⟩ := rv; exact ⟨a, rfl, by rw [h1]; simp⟩
        | _ => cases hb
    · rw [List.getElem?_append_right (by simpa using Nat.le_of_not_lt hi)] at e
      have e' := List.getElem?_eq_some_iff.mp e
      obtain ⟨h1, h2⟩ := e'
      simp at h1 h2
      subst h2
      refine ⟨none, ?_, trivial, fun es q => by cases q⟩
      rw [List.getElem?_append_right (by rw [List.length_map, ← el]; exact Nat.le_of_not_lt hi)]
      rw [List.length_map, ← el]
      rw [List.getElem?_replicate]
      rw [if_pos (by omega)]
  refine ⟨?_, fun i s e => let ⟨o, a, b, _⟩ := key i s e; ⟨o, a, b⟩, fun i j a ds' es e1 _ _ _ => ?_⟩
  · unfold slots L2.start; simp [el]
  · obtain ⟨_, _, _, q⟩ := key i _ e1
    exact absurd rfl (q ds')
/-- a def (no error leaves it) keeps the promise of its meaning -/
theorem fn_ok {P : Program} {w : World} {K : PySem.W.Frag} {mg : Str → Option Value} {base : Heap} {G : Gx} {x qual : Str} {st : Stmt} {f : Addr} {fd : FuncData} {N ps : List Str} {k : Nat} {s : Es} (F : Fun K x qual st f fd) (S : FnScope N ps (defScope st))
    (hb : ∀ (cdv : Value) (A : Around) (outer : List Env) (s0 : Shared) (H : Hp) (E : XK), Room k (A.deeper (envOfC qual (defScope st) s0.heap.objs.size f cdv)) → PSsd G E0 (cxOf CX0 P w K mg base N qual (defScope st) f cdv A outer s0 H E).nox (defBody st) s) :
    FnOk P w K mg base CX0 (k + 1) f fd ps (spD G K ps.length (fun ds κ => noEr (mean N.length s ds κ))) := by
  refine F.ok S (fun vs H Q E h => h.1) (fun cdv A outer s0 H vs Q E hr h => ?_)
  obtain ⟨hl, α, Fh, κ, ds, w0, r, h⟩ := h
  refine ⟨_, (hb cdv A outer s0 H E hr).run, α, Fh, H, α, Fh, slots N.length ds, κ, Gr.refl _ _ _, w0, sls_start r, ?_⟩
  unfold mean at h
  rcases hm : s (slots N.length ds) κ with _ | ⟨o, κ'⟩
  · simp only [hm, noEr] at h; exact h
  · simp only [hm] at h
    cases o with
    | nx ρ => exact fun α' F' H' g x w' σ' sl' => h α' F' H' g w' _ .non
    | rt d => exact fun α' F' H' g x w' v r' => h α' F' H' g w' _ r'.rv
    | bk ρ => exact h.elim
    | ct ρ => exact h.elim
    | er c => exact h.elim
end DL
set_option Elab.async false
set_option linter.all false
set_option maxRecDepth 100000
set_option maxHeartbeats 4000000
/-! DL8: defs that call one another, the law's end. -/
namespace DL
open PySem PySem.Spec PyProof.Rows L2
/-- the def called x means fm -/
structure FD (P : Program) (w : World) (K : PySem.W.Frag) (mg : Str → Option Value) (base : Heap) (G : Gx) (k : Nat) (x : Str) (ar : Nat) (fm : List D → Ka → Re D) : Prop where
  ex : ∃ f fd ps, FnOk P w K mg base CX0 k f fd ps (spD G K ar fm) ∧ mg x = some (.ref f) ∧ PySem.W.keepIn K (.ref f) = true ∧ Binds K fd ps []
section
variable {P : Program} {w : World} {K : PySem.W.Frag} {mg : Str → Option Value} {base : Heap} {G : Gx} {j k ar : Nat} {x : Str} {fm : List D → Ka → Re D}
theorem FD.mono (F : FD P w K mg base G j x ar fm) (h : j ≤ k) : FD P w K mg base G k x ar fm :=
  let ⟨f, fd, ps, a, b, c, d⟩ := F.ex
  ⟨f, fd, ps, a.mono h, b, c, d⟩
/-- a meaning that is never defined is kept by any def -/
theorem FD.zero {qual : Str} {st : Stmt} {f : Addr} {fd : FuncData} {ps : List Str} (F : Fun K x qual st f fd) (b : Binds K fd ps []) (m : mg x = some (.ref f)) (hl : ar = ps.length) : FD P w K mg base G k x ar (fun _ _ => none) := by
  subst hl
  exact ⟨f, fd, ps, ⟨fun vs H Q E h => h.1, fun A outer s H args us vs Q E hr he hb hv ⟨_, _, _, _, _, _, _, h⟩ => h.elim⟩, m, F.kp, b⟩
theorem fn_fd {qual : Str} {st : Stmt} {f : Addr} {fd : FuncData} {N ps : List Str} {s : Es} (F : Fun K x qual st f fd) (S : FnScope N ps (defScope st)) (b : Binds K fd ps []) (m : mg x = some (.ref f))
    (hb : ∀ (cdv : Value) (A : Around) (outer : List Env) (s0 : Shared) (H : Hp) (E : XK), Room k (A.deeper (envOfC qual (defScope st) s0.heap.objs.size f cdv)) → PSsd G E0 (cxOf CX0 P w K mg base N qual (defScope st) f cdv A outer s0 H E).nox (defBody st) s) :
    FD P w K mg base G (k + 1) x ps.length (fun ds κ => noEr (mean N.length s ds κ)) := ⟨f, fd, ps, fn_ok F S hb, m, F.kp, b⟩
end
section
variable {G : Gx} {W : XK} {X : Cx} {e a b c : Expr} {es : List Expr} {m ma mb mc : Ev D} {n : Ev (List D)} {pos p : Pos}
theorem d_call {j k ar : Nat} {x : Str} {fm : List D → Ka → Re D} (F : FD X.prog X.w X.K X.mg X.base G j x ar fm) (hr : Room k X.A) (ha : PDL G W X (e :: es) n) (hjk : j ≤ k := by decide) (hg : Gl X x := by rfl)
    (hdb : (x == ("__debug__" : Str)) = false := by decide) (he : starEach (e :: es) X.env = (false, eval e X.env) :: starEach es X.env := by rfl) (hpl : (backTo pos (starEach es X.env)).any (·.1) = false := by rfl) :
    PD G W X (.Call (.Name x p) (e :: es) [] pos) (eCall ar fm n) := by
  obtain ⟨f, fd, ps, h1, h2, h3, h4⟩ := F.ex
  exact pd_call h1 (hr.mono hjk) hg h2 h3 h4 (fun _ _ _ _ _ _ _ h => h.elim) ha hdb he hpl
theorem d_call0 {j k : Nat} {x : Str} {fm : List D → Ka → Re D} (F : FD X.prog X.w X.K X.mg X.base G j x 0 fm) (hr : Room k X.A) (hjk : j ≤ k := by decide) (hg : Gl X x := by rfl) (hdb : (x == ("__debug__" : Str)) = false := by decide) :
    PD G W X (.Call (.Name x p) [] [] pos) (eCall 0 fm aNil) := by
  obtain ⟨f, fd, ps, h1, h2, h3, h4⟩ := F.ex
  exact pd_call0 h1 (hr.mono hjk) hg h2 h3 h4 (fun _ _ _ _ _ _ _ h => h.elim) hdb
/-- constants of the top -/
theorem d_gint {x : Str} {i : Int} (hm : ∃ t, X.mg x = some (.int i t)) (hg : Gl X x := by rfl) (hdb : (x == ("__debug__" : Str)) = false := by decide) : PD G W X (.Name x pos) (eC (.int i)) :=
  let ⟨t, h⟩ := hm; pd_glob hg h (v := .int i) ⟨t, rfl⟩ (fun _ _ => .int i) hdb
theorem d_gstr {x : Str} {i : Str} (hm : ∃ t, X.mg x = some (.str i t)) (hg : Gl X x := by rfl) (hdb : (x == ("__debug__" : Str)) = false := by decide) : PD G W X (.Name x pos) (eC (.str i)) :=
  let ⟨t, h⟩ := hm; pd_glob hg h (v := .str i) ⟨t, rfl⟩ (fun _ _ => .str i) hdb
def eNeg (m : Ev D) : Ev D := eUn (fun d κ => rOf (oNeg d) κ) m
theorem d_neg' (ha : PD G W X a ma) : PD G W X (.UnaryOp .USub a pos) (eNeg ma) := d_neg ha
/-! short words, the names' facts by rfl -/
theorem w_len (hm : X.mg "len" = none) (ha : PD G W X e m) (hg : Gl X "len" := by rfl) (hs : starEach [e] X.env = (false, eval e X.env) :: starEach [] X.env := by rfl) (hpl : (backTo pos (starEach [] X.env)).any (·.1) = false := by rfl) : PD G W X (.Call (.Name "len" p) [e] [] pos) (eBi bLen (aCons m aNil)) := d_len hg hm (pl_cons ha pl_nil hs) hs hpl
theorem w_sum (hm : X.mg "sum" = none) (ha : PD G W X e m) (hc : X.calm = true := by rfl) (hg : Gl X "sum" := by rfl) (hs : starEach [e] X.env = (false, eval e X.env) :: starEach [] X.env := by rfl) (hpl : (backTo pos (starEach [] X.env)).any (·.1) = false := by rfl) : PD G W X (.Call (.Name "sum" p) [e] [] pos) (eBi bSum (aCons m aNil)) := d_sum hc hg hm (pl_cons ha pl_nil hs) hs hpl
theorem w_abs (hm : X.mg "abs" = none) (ha : PD G W X e m) (hg : Gl X "abs" := by rfl) (hs : starEach [e] X.env = (false, eval e X.env) :: starEach [] X.env := by rfl) (hpl : (backTo pos (starEach [] X.env)).any (·.1) = false := by rfl) : PD G W X (.Call (.Name "abs" p) [e] [] pos) (eBi bAbs (aCons m aNil)) := d_abs hg hm (pl_cons ha pl_nil hs) hs hpl
theorem w_int (hm : X.mg "int" = none) (ha : PD G W X e m) (hg : Gl X "int" := by rfl) (hs : starEach [e] X.env = (false, eval e X.env) :: starEach [] X.env := by rfl) (hpl : (backTo pos (starEach [] X.env)).any (·.1) = false := by rfl) : PD G W X (.Call (.Name "int" p) [e] [] pos) (eBi bInt (aCons m aNil)) := d_int1 hg hm (pl_cons ha pl_nil hs) hs hpl
theorem w_tuple (hm : X.mg "tuple" = none) (ha : PD G W X e m) (hg : Gl X "tuple" := by rfl) (hs : starEach [e] X.env = (false, eval e X.env) :: starEach [] X.env := by rfl) (hpl : (backTo pos (starEach [] X.env)).any (·.1) = false := by rfl) : PD G W X (.Call (.Name "tuple" p) [e] [] pos) (eBi bTuple (aCons m aNil)) := d_tuple hg hm (pl_cons ha pl_nil hs) hs hpl
theorem w_list (hm : X.mg "list" = none) (ha : PD G W X e m) (hg : Gl X "list" := by rfl) (hs : starEach [e] X.env = (false, eval e X.env) :: starEach [] X.env := by rfl) (hpl : (backTo pos (starEach [] X.env)).any (·.1) = false := by rfl) : PF G W X (.Call (.Name "list" p) [e] [] pos) (fBi bList (aCons m aNil)) := d_list hg hm (pl_cons ha pl_nil hs) hs hpl
theorem w_max1 (hm : X.mg "max" = none) (ha : PD G W X e m) (hc : X.calm = true := by rfl) (hg : Gl X "max" := by rfl) (hs : starEach [e] X.env = (false, eval e X.env) :: starEach [] X.env := by rfl) (hpl : (backTo pos (starEach [] X.env)).any (·.1) = false := by rfl) : PD G W X (.Call (.Name "max" p) [e] [] pos) (eBi bMax (aCons m aNil)) := d_max hc hg hm (pl_cons ha pl_nil hs) hs hpl
theorem w_min1 (hm : X.mg "min" = none) (ha : PD G W X e m) (hc : X.calm = true := by rfl) (hg : Gl X "min" := by rfl) (hs : starEach [e] X.env = (false, eval e X.env) :: starEach [] X.env := by rfl) (hpl : (backTo pos (starEach [] X.env)).any (·.1) = false := by rfl) : PD G W X (.Call (.Name "min" p) [e] [] pos) (eBi bMin (aCons m aNil)) := d_min hc hg hm (pl_cons ha pl_nil hs) hs hpl
theorem w_max2 (hm : X.mg "max" = none) (ha : PD G W X a ma) (hb : PD G W X b mb) (hc : X.calm = true := by rfl) (hg : Gl X "max" := by rfl) (hs : starEach [a, b] X.env = (false, eval a X.env) :: starEach [b] X.env := by rfl) (hs2 : starEach [b] X.env = (false, eval b X.env) :: starEach [] X.env := by rfl) (hpl : (backTo pos (starEach [b] X.env)).any (·.1) = false := by rfl) : PD G W X (.Call (.Name "max" p) [a, b] [] pos) (eBi bMax (aCons ma (aCons mb aNil))) := d_max hc hg hm (pl_cons ha (pl_cons hb pl_nil hs2) hs) hs hpl
theorem w_min2 (hm : X.mg "min" = none) (ha : PD G W X a ma) (hb : PD G W X b mb) (hc : X.calm = true := by rfl) (hg : Gl X "min" := by rfl) (hs : starEach [a, b] X.env = (false, eval a X.env) :: starEach [b] X.env := by rfl) (hs2 : starEach [b] X.env = (false, eval b X.env) :: starEach [] X.env := by rfl) (hpl : (backTo pos (starEach [b] X.env)).any (·.1) = false := by rfl) : PD G W X (.Call (.Name "min" p) [a, b] [] pos) (eBi bMin (aCons ma (aCons mb aNil))) := d_min hc hg hm (pl_cons ha (pl_cons hb pl_nil hs2) hs) hs hpl
theorem w_isi {T : Str} {Ts : String} {p2 : Pos} (hT : bootBuiltins T = some (.type Ts)) (hm : X.mg "isinstance" = none) (hm2 : X.mg T = none) (ha : PD G W X a ma) (hg : Gl X "isinstance" := by rfl) (hg2 : Gl X T := by rfl)
    (hn : T ≠ "__name__" := by decide) (hdb : (T == ("__debug__" : Str)) = false := by decide)
    (hs : starEach [a, .Name T p2] X.env = (false, eval a X.env) :: starEach [.Name T p2] X.env := by rfl) (hs2 : starEach [.Name T p2] X.env = (false, eval (.Name T p2) X.env) :: starEach [] X.env := by rfl)
    (hpl : (backTo pos (starEach [.Name T p2] X.env)).any (·.1) = false := by rfl) :
    PD G W X (.Call (.Name "isinstance" p) [a, .Name T p2] [] pos) (eIsi Ts ma) := d_isi hT hg2 hm2 hg hm ha hn hdb hs hs2 hpl
theorem bt_int : bootBuiltins "int" = some (.type "int") := by decide +kernel
theorem bt_bool : bootBuiltins "bool" = some (.type "bool") := by decide +kernel
theorem bt_str : bootBuiltins "str" = some (.type "str") := by decide +kernel
theorem bt_tuple : bootBuiltins "tuple" = some (.type "tuple") := by decide +kernel
theorem bt_list : bootBuiltins "list" = some (.type "list") := by decide +kernel
variable {l : Bool} {tg : Expr}
theorem w_range1 (hm : X.mg "range" = none) (ha : PD G W X a ma) (hg : Gl X "range" := by rfl) (hs : starEach [a] X.env = [(false, eval a X.env)] := by rfl) : PDI G W X l tg (.Call (.Name "range" p) [a] [] pos) (iRange1 (aCons ma aNil)) := d_range1 hg hm (pl_cons ha pl_nil hs) hs
theorem w_range2 (hm : X.mg "range" = none) (ha : PD G W X a ma) (hb : PD G W X b mb) (hg : Gl X "range" := by rfl) (hs : starEach [a, b] X.env = [(false, eval a X.env), (false, eval b X.env)] := by rfl) (hs2 : starEach [b] X.env = [(false, eval b X.env)] := by rfl) : PDI G W X l tg (.Call (.Name "range" p) [a, b] [] pos) (iRange2 (aCons ma (aCons mb aNil))) :=
  d_range2 hg hm (pl_cons ha (pl_cons hb pl_nil hs2) (by rw [hs, hs2])) hs hs2
theorem w_range3 (hm : X.mg "range" = none) (ha : PD G W X a ma) (hb : PD G W X b mb) (hc : PD G W X c mc) (hg : Gl X "range" := by rfl) (hs : starEach [a, b, c] X.env = (false, eval a X.env) :: starEach [b, c] X.env := by rfl) (hs2 : starEach [b, c] X.env = (false, eval b X.env) :: starEach [c] X.env := by rfl) (hs3 : starEach [c] X.env = (false, eval c X.env) :: starEach [] X.env := by rfl)
    (hpl : (backTo pos (starEach [b, c] X.env)).any (·.1) = false := by rfl) : PDI G W X l tg (.Call (.Name "range" p) [a, b, c] [] pos) (iRange3 (aCons ma (aCons mb (aCons mc aNil)))) :=
  d_range3 hg hm (pl_cons ha (pl_cons hb (pl_cons hc pl_nil hs3) hs2) hs) hs hpl
theorem w_comp {elt iter : Expr} {ifs : List Expr} {scope : Scope} {own : List (Str × Nat)} {g : Tg} {t : Ev Bool} {ev : Ev D} {gt : TG} {js : List Nat} (own' : own = own := rfl) (hN : X.N.Nodup) (hi : PDI G W X true tg iter n) (ok : blkC X.N X.env.scope scope own = true)
    (hg : ∀ (s : Shared) (H : Hp) (C : Addr) (cl : List (Str × Addr)) (fp : List Addr), PGd (X.blk s H scope (compEnvC scope cl C X.env) fp) tg gt g js)
    (ht : ∀ (s : Shared) (H : Hp) (C : Addr) (cl : List (Str × Addr)) (fp : List Addr), PTsd G (X.blk s H scope (compEnvC scope cl C X.env) fp) ifs t)
    (he : ∀ (s : Shared) (H : Hp) (C : Addr) (cl : List (Str × Addr)) (fp : List Addr), PD G E0 (X.blk s H scope (compEnvC scope cl C X.env) fp) elt ev) (hj : ∀ j ∈ js, j ∈ own.map (·.2) := by decide) (hc : X.calm = true := by rfl) (hs : ∀ x, foldedSetIterable iter X.env x = pure x := by intro _; rfl) :
    PF G W X (.ListComp elt [⟨tg, iter, ifs, 0⟩] scope pos) (eComp (own.map (·.2)) n g t ev) := f_comp hc hN hi (blkOk_by ok) hg hj ht he hs
theorem w_setLc {i : Nat} {y : Str} {py : Pos} {elt iter : Expr} {ifs : List Expr} {scope : Scope} {own : List (Str × Nat)} {spos : Pos} {g : Tg} {q : Ev Bool} {ev : Ev D} {gt : TG} {js : List Nat} (own' : own = own := rfl) (hN : X.N.Nodup) (hi : PDI G W X true tg iter n) (ok : blkC X.N X.env.scope scope own = true)
    (hg : ∀ (s : Shared) (H : Hp) (C : Addr) (cl : List (Str × Addr)) (fp : List Addr), PGd (X.blk s H scope (compEnvC scope cl C X.env) fp) tg gt g js)
    (ht : ∀ (s : Shared) (H : Hp) (C : Addr) (cl : List (Str × Addr)) (fp : List Addr), PTsd G (X.blk s H scope (compEnvC scope cl C X.env) fp) ifs q)
    (he : ∀ (s : Shared) (H : Hp) (C : Addr) (cl : List (Str × Addr)) (fp : List Addr), PD G E0 (X.blk s H scope (compEnvC scope cl C X.env) fp) elt ev) (hj : ∀ j ∈ js, j ∈ own.map (·.2) := by decide) (hc : X.calm = true := by rfl) (hs : ∀ x, foldedSetIterable iter X.env x = pure x := by intro _; rfl)
    (hsw : swapsWith (.ListComp elt [⟨tg, iter, ifs, 0⟩] scope pos) (some (.Name y py)) spos.line X.env = pure true := by exact sw_true rfl rfl rfl (by decide +kernel)) (hy : X.N[i]? = some y := by rfl) (hyl : X.env.scope.names.lookup y = some .local := by rfl) :
    PSd G W X (.Assign [.Name y py] (.ListComp elt [⟨tg, iter, ifs, 0⟩] scope pos) spos) (sAsg (gNm i) (eFr (eComp (own.map (·.2)) n g q ev))) := s_setLc hc hN hi (blkOk_by ok) hg hj ht he hsw hy hyl hs
end
/-- the law's end: its meaning gives True -/
theorem law_end {G : Gx} {K : PySem.W.Frag} {f : List D → Ka → Re D} (h : ∀ ns : List Int, ns.length ≤ 63 → ∃ κ, f [.rol (ns.map D.int)] [] = some (.ok (.bl true), κ)) (H : Hp) (a : Addr) (ns : List Int) (hl : ns.length ≤ 63) (hS : SqL K H a (ns.map V.int)) :
    spD G K 1 f [.ref a] H (fun v _ => v = .bl true) fun _ _ _ => False := by
  refine ⟨rfl, [], H, [], [.rol (ns.map D.int)], ⟨Same.refl _, rfl, fun i j a e => by simp at e, fun a m => by simp at m, fun n a c e => by simp at e⟩, .cons (Rp.rv (.rol hS (RpL.of_ints ns))) .nil, ?_⟩
  obtain ⟨κ, e⟩ := h ns hl
  rw [e]
  exact fun α' F' H' g w v r => rv_bl r
end DL
set_option Elab.async false
set_option linter.all false
set_option maxRecDepth 100000
set_option maxHeartbeats 4000000
/-! DL9: chains of three comparisons. -/
namespace DL
open PySem PySem.Spec PyProof.Rows L2
section
variable {X : Cx} {a b c d : Expr} {ta tb tc td : TE} {pos : Pos}
def tChain3 (r r' r'' : R2) (ta tb tc td : TE) : TE := fun σ H Q => ta σ H fun x H1 => tb σ H1 fun y H2 => r x y H2 fun z H3 => ∃ k, z = .bl k ∧
  (if k = true then tc σ H3 fun w H4 => r' y w H4 fun z' H5 => ∃ k', z' = .bl k' ∧ (if k' = true then td σ H5 fun u H6 => r'' w u H6 Q else Q (.bl false) H5) else Q (.bl false) H3)
theorem pe_chain3 {op op' op'' : CmpOp} {r r' r'' : R2} (ho : OpR X (compareOp op) r) (ho' : OpR X (compareOp op') r') (ho'' : OpR X (compareOp op'') r'') (ha : PE X a ta) (hb : PE X b tb) (hc : PE X c tc) (hd : PE X d td)
    (hm : lastMarks [op, op', op''] [b, c, d] = false := by with_unfolding_all rfl) : PE X (.Compare a [op, op', op''] [b, c, d] pos) (tChain3 r r' r'' ta tb tc td) := by
  refine ⟨fun pins s σ H Q I h => ?_⟩
  refine Compare_chain (thn (ha.run pins s σ H _ I h) fun v s1 ⟨x, H1, I1, r1, q1⟩ => chain_link (thn (hb.run pins s1 σ H1 _ I1 q1) fun u s2 ⟨y, H2, I2, r2, q2⟩ =>
    thn (ho pins s2 σ H2 x y v u _ I2 r1 r2 q2) fun d s3 ⟨z, H3, I3, r3, k, e, q3⟩ => ?_)) hm
  subst e
  cases r3
  refine wpAny_truthy_bool ?_
  cases k with
  | false => exact ite_ff ⟨.bl false, H3, I3, rfl, q3⟩
  | true =>
    refine ite_tt (chain_link (thn (hc.run pins s3 σ H3 _ I3 q3) fun w' s4 ⟨z', H4, I4, r4, q4⟩ => thn (ho' pins s4 σ H4 y z' u w' _ I4 r2 r4 q4) fun d' s5 ⟨z2, H5, I5, r5, k2, e2, q5⟩ => ?_))
    subst e2
    cases r5
    refine wpAny_truthy_bool ?_
    cases k2 with
    | false => exact ite_ff ⟨.bl false, H5, I5, rfl, q5⟩
    | true => exact ite_tt (chain_last (thn (hd.run pins s5 σ H5 _ I5 q5) fun w2 s6 ⟨z3, H6, I6, r6, q6⟩ => ho'' pins s6 σ H6 z' z3 w' w2 Q I6 r4 r6 q6))
theorem pt_chain3 {op op' op'' : CmpOp} {r r' r'' : R2} (ho : OpR X (compareOp op) r) (ho' : OpR X (compareOp op') r') (ho'' : OpR X (compareOp op'') r'') (ha : PE X a ta) (hb : PE X b tb) (hc : PE X c tc) (hd : PE X d td)
    (hm : lastMarks [op, op', op''] [b, c, d] = false := by with_unfolding_all rfl) : PT X (.Compare a [op, op', op''] [b, c, d] pos) (tTest (tChain3 r r' r'' ta tb tc td)) := by
  refine ⟨fun pins s σ H Q I h => ?_⟩
  refine isTrue_chain (thn (ha.run pins s σ H _ I h) fun v s1 ⟨x, H1, I1, r1, q1⟩ => test_link (thn (hb.run pins s1 σ H1 _ I1 q1) fun u s2 ⟨y, H2, I2, r2, q2⟩ =>
    thn (ho pins s2 σ H2 x y v u _ I2 r1 r2 q2) fun d s3 ⟨z, H3, I3, r3, k, e, q3⟩ => ?_)) hm
  subst e
  cases r3
  refine wpAny_truthy_bool ?_
  cases k with
  | false =>
    obtain ⟨k', e', q'⟩ := q3
    cases e'
    exact ite_ff ⟨H3, I3, q'⟩
  | true =>
    refine ite_tt (test_link (thn (hc.run pins s3 σ H3 _ I3 q3) fun w' s4 ⟨z', H4, I4, r4, q4⟩ => thn (ho' pins s4 σ H4 y z' u w' _ I4 r2 r4 q4) fun d' s5 ⟨z2, H5, I5, r5, k2, e2, q5⟩ => ?_))
    subst e2
    cases r5
    refine wpAny_truthy_bool ?_
    cases k2 with
    | false =>
      obtain ⟨k', e', q'⟩ := q5
      cases e'
      exact ite_ff ⟨H5, I5, q'⟩
    | true =>
      refine ite_tt (test_last (thn (hd.run pins s5 σ H5 _ I5 q5) fun w2 s6 ⟨z3, H6, I6, r6, q6⟩ => thn (ho'' pins s6 σ H6 z' z3 w' w2 _ I6 r4 r6 q6) fun d' s7 ⟨z4, H7, I7, r7, k3, e3, q7⟩ => ?_))
      subst e3
      cases r7
      exact wpAny_truthy_bool ⟨H7, I7, q7⟩
end
def eChain3 (c c' c'' : D → D → Option Bool) (ma mb mc md : Ev D) : Ev D := fun ρ κ => (ma ρ κ).bind fun x κ1 => (mb ρ κ1).bind fun y κ2 => match c x y with
  | some true => (mc ρ κ2).bind fun z κ3 => match c' y z with
    | some true => (md ρ κ3).bind fun u κ4 => rOf ((c'' z u).map D.bl) κ4
    | some false => ret (.bl false) κ3
    | none => none
  | some false => ret (.bl false) κ2
  | none => none
def bChain3 (c c' c'' : D → D → Option Bool) (ma mb mc md : Ev D) : Ev Bool := fun ρ κ => (ma ρ κ).bind fun x κ1 => (mb ρ κ1).bind fun y κ2 => match c x y with
  | some true => (mc ρ κ2).bind fun z κ3 => match c' y z with
    | some true => (md ρ κ3).bind fun u κ4 => rOfB (c'' z u) κ4
    | some false => some (.ok false, κ3)
    | none => none
  | some false => some (.ok false, κ2)
  | none => none
section
variable {G : Gx} {W : XK} {X : Cx} {a b c d : Expr} {ma mb mc md : Ev D} {pos : Pos} {op op' op'' : CmpOp} {f f' f'' : D → D → Option Bool}
theorem d_chain3 (k : Cm X op f) (k' : Cm X op' f') (k'' : Cm X op'' f'') (ha : PD G W X a ma) (hb : PD G W X b mb) (hc : PD G W X c mc) (hd : PD G W X d md) (hm : lastMarks [op, op', op''] [b, c, d] = false := by rfl) :
    PD G W X (.Compare a [op, op', op''] [b, c, d] pos) (eChain3 f f' f'' ma mb mc md) := by
  obtain ⟨r, ho, hf⟩ := k.ex
  obtain ⟨r', ho', hf'⟩ := k'.ex
  obtain ⟨r'', ho'', hf''⟩ := k''.ex
  exact ⟨pe_imp (pe_chain3 ho ho' ho'' ha.run hb.run hc.run hd.run hm) fun σ H Q ⟨α, F, ρ, κ, Bs, w, sl, h⟩ =>
    tD_mono (fun x H1 ⟨α1, F1, κ1, d, g1, w1, sl1, r1, h1⟩ => tD_mono (fun y H2 ⟨α2, F2, κ2, e, g2, w2, sl2, r2, h2⟩ => by
      rcases hfe : f d e with _ | k
      · rw [hfe] at h2; exact h2.elim
      · rw [hfe] at h2
        refine hf G α2 F2 H2 κ2 _ d e x y k w2 (r1.gr g2) r2 hfe ⟨k, rfl, ?_⟩
        cases k with
        | false => rw [if_neg Bool.false_ne_true]; exact PO.now w2 h2 (.bl false)
        | true =>
          rw [if_pos rfl]
          refine tD_mono (fun z H3 ⟨α3, F3, κ3, u, g3, w3, sl3, r3, h3⟩ => ?_) (tD_bind w2 sl2 h2)
          rcases hfe2 : f' e u with _ | k
          · rw [hfe2] at h3; exact h3.elim
          · rw [hfe2] at h3
            refine hf' G α3 F3 H3 κ3 _ e u y z k w3 (r2.gr g3) r3 hfe2 ⟨k, rfl, ?_⟩
            cases k with
            | false => rw [if_neg Bool.false_ne_true]; exact PO.now w3 h3 (.bl false)
            | true =>
              rw [if_pos rfl]
              refine tD_mono (fun z' H4 ⟨α4, F4, κ4, u', g4, w4, sl4, r4, h4⟩ => ?_) (tD_bind w3 sl3 h3)
              obtain ⟨k, e1, q⟩ := PO.bl w4 h4
              exact hf'' G α4 F4 H4 κ4 Q u u' z z' k w4 (r3.gr g4) r4 e1 q) (tD_bind w1 sl1 h1)) (tD_bind w sl h)⟩
theorem b_chain3 (k : Cm X op f) (k' : Cm X op' f') (k'' : Cm X op'' f'') (ha : PD G W X a ma) (hb : PD G W X b mb) (hc : PD G W X c mc) (hd : PD G W X d md) (hm : lastMarks [op, op', op''] [b, c, d] = false := by rfl) :
    PB G W X (.Compare a [op, op', op''] [b, c, d] pos) (bChain3 f f' f'' ma mb mc md) := by
  obtain ⟨r, ho, hf⟩ := k.ex
  obtain ⟨r', ho', hf'⟩ := k'.ex
  obtain ⟨r'', ho'', hf''⟩ := k''.ex
  exact ⟨pt_imp (pt_chain3 ho ho' ho'' ha.run hb.run hc.run hd.run hm) fun σ H Q ⟨α, F, ρ, κ, Bs, w, sl, h⟩ =>
    tD_mono (fun x H1 ⟨α1, F1, κ1, d, g1, w1, sl1, r1, h1⟩ => tD_mono (fun y H2 ⟨α2, F2, κ2, e, g2, w2, sl2, r2, h2⟩ => by
      rcases hfe : f d e with _ | k
      · rw [hfe] at h2; exact h2.elim
      · rw [hfe] at h2
        refine hf G α2 F2 H2 κ2 _ d e x y k w2 (r1.gr g2) r2 hfe ⟨k, rfl, ?_⟩
        cases k with
        | false => rw [if_neg Bool.false_ne_true]; exact ⟨false, rfl, POB.now w2 h2⟩
        | true =>
          rw [if_pos rfl]
          refine tD_mono (fun z H3 ⟨α3, F3, κ3, u, g3, w3, sl3, r3, h3⟩ => ?_) (tD_bindB w2 sl2 h2)
          rcases hfe2 : f' e u with _ | k
          · rw [hfe2] at h3; exact h3.elim
          · rw [hfe2] at h3
            refine hf' G α3 F3 H3 κ3 _ e u y z k w3 (r2.gr g3) r3 hfe2 ⟨k, rfl, ?_⟩
            cases k with
            | false => rw [if_neg Bool.false_ne_true]; exact ⟨false, rfl, POB.now w3 h3⟩
            | true =>
              rw [if_pos rfl]
              refine tD_mono (fun z' H4 ⟨α4, F4, κ4, u', g4, w4, sl4, r4, h4⟩ => ?_) (tD_bindB w3 sl3 h3)
              obtain ⟨k, e1, q⟩ := POB.bl w4 h4
              exact hf'' G α4 F4 H4 κ4 _ u u' z z' k w4 (r3.gr g4) r4 e1 ⟨k, rfl, q⟩) (tD_bindB w1 sl1 h1)) (tD_bindB w sl h)⟩
end
end DL
set_option Elab.async false
set_option linter.all false
set_option maxRecDepth 100000
set_option maxHeartbeats 4000000
/-! DLm: reckoning with meanings. -/
namespace DL
open PySem L2
/-- an expression's end: a value of which Q holds -/
def wpE0 {α : Type} (r : Re α) (Q : α → Ka → Prop) : Prop := match r with
  | some (.ok a, κ) => Q a κ
  | _ => False
structure wpE {α : Type} (r : Re α) (Q : α → Ka → Prop) : Prop where
  to : wpE0 r Q
/-- a statement's end -/
def wpS0 (r : Option (Out × Ka)) (Qn : List Sl → Ka → Prop) (Qr : D → Ka → Prop) (Qb Qc : List Sl → Ka → Prop) : Prop := match r with
  | some (.nx ρ, κ) => Qn ρ κ
  | some (.rt d, κ) => Qr d κ
  | some (.bk ρ, κ) => Qb ρ κ
  | some (.ct ρ, κ) => Qc ρ κ
  | _ => False
structure wpS (r : Option (Out × Ka)) (Qn : List Sl → Ka → Prop) (Qr : D → Ka → Prop) (Qb Qc : List Sl → Ka → Prop) : Prop where
  to : wpS0 r Qn Qr Qb Qc
section
variable {α β : Type} {Q : β → Ka → Prop} {Qn Qb Qc : List Sl → Ka → Prop} {Qr : D → Ka → Prop} {ρ : List Sl} {κ : Ka}
theorem wpE_ok {a : α} {Q : α → Ka → Prop} : wpE (some (.ok a, κ)) Q = Q a κ := propext ⟨fun h => h.to, fun h => ⟨h⟩⟩
theorem wpE_no {Q : α → Ka → Prop} (h : wpE none Q) : False := h.to
theorem wpE_er {Q : α → Ka → Prop} {c} (h : wpE (some (.er c, κ)) Q) : False := h.to
theorem wpE_bind {r : Re α} {f : α → Ka → Re β} : wpE (r.bind f) Q = wpE r fun a κ => wpE (f a κ) Q := by
  rcases r with _ | ⟨o, k⟩
  · exact propext ⟨fun h => ⟨h.to⟩, fun h => ⟨h.to⟩⟩
  · cases o
    · rw [wpE_ok]; rfl
    · exact propext ⟨fun h => ⟨h.to⟩, fun h => ⟨h.to⟩⟩
theorem wpE_bindN {r : Re α} {f : α → Ka → Re β} : wpE (r.bindN f) Q = wpE r fun a κ => wpE (f a κ) Q := by
  rcases r with _ | ⟨o, k⟩
  · exact propext ⟨fun h => ⟨h.to⟩, fun h => ⟨h.to⟩⟩
  · cases o
    · rw [wpE_ok]; rfl
    · exact propext ⟨fun h => ⟨h.to⟩, fun h => ⟨h.to⟩⟩
theorem wpS_bindS {r : Re α} {f : α → Ka → Option (Out × Ka)} : wpS (r.bindS f) Qn Qr Qb Qc = wpE r fun a κ => wpS (f a κ) Qn Qr Qb Qc := by
  rcases r with _ | ⟨o, k⟩
  · exact propext ⟨fun h => ⟨h.to⟩, fun h => ⟨h.to⟩⟩
  · cases o
    · rw [wpE_ok]; rfl
    · exact propext ⟨fun h => ⟨h.to⟩, fun h => ⟨h.to⟩⟩
theorem wpE_mono {r : Re α} {Q Q' : α → Ka → Prop} (h : wpE r Q) (hq : ∀ a κ, Q a κ → Q' a κ) : wpE r Q' := by
  rcases r with _ | ⟨o, k⟩
  · exact ⟨h.to⟩
  · cases o with
    | ok a => exact ⟨hq _ _ h.to⟩
    | er c => exact ⟨h.to⟩
theorem wpE_eq {r : Re α} {Q : α → Ka → Prop} : wpE r Q ↔ ∃ a κ, r = some (.ok a, κ) ∧ Q a κ := by
  rcases r with _ | ⟨o, k⟩
  · constructor
    · intro h; exact h.to.elim
    · rintro ⟨_, _, e, _⟩; cases e
  · cases o with
    | ok a =>
      constructor
      · intro h; exact ⟨a, k, rfl, h.to⟩
      · rintro ⟨a', k', e, h⟩; cases e; exact ⟨h⟩
    | er c =>
      constructor
      · intro h; exact h.to.elim
      · rintro ⟨_, _, e, _⟩; cases e
theorem wpS_nx : wpS (some (.nx ρ, κ)) Qn Qr Qb Qc = Qn ρ κ := propext ⟨fun h => h.to, fun h => ⟨h⟩⟩
theorem wpS_rt {d : D} : wpS (some (.rt d, κ)) Qn Qr Qb Qc = Qr d κ := propext ⟨fun h => h.to, fun h => ⟨h⟩⟩
theorem wpS_seq {a b : Es} : wpS (sSeq a b ρ κ) Qn Qr Qb Qc = wpS (a ρ κ) (fun ρ κ => wpS (b ρ κ) Qn Qr Qb Qc) Qr Qb Qc := by
  unfold sSeq
  rcases h : a ρ κ with _ | ⟨o, k⟩
  · exact propext ⟨fun h => ⟨h.to⟩, fun h => ⟨h.to⟩⟩
  · cases o
    · rw [wpS_nx]
    all_goals exact propext ⟨fun h => ⟨h.to⟩, fun h => ⟨h.to⟩⟩
theorem wpS_next : wpS (sNext ρ κ) Qn Qr Qb Qc = Qn ρ κ := wpS_nx
theorem wpS_if {c : Ev Bool} {a b : Es} : wpS (sIf c a b ρ κ) Qn Qr Qb Qc = wpE (c ρ κ) fun t κ => if t = true then wpS (a ρ κ) Qn Qr Qb Qc else wpS (b ρ κ) Qn Qr Qb Qc := by
  unfold sIf
  rw [wpS_bindS]
  congr 1
  funext t κ
  split <;> rfl
theorem wpS_mono {r : Option (Out × Ka)} {Qn' Qb' Qc' : List Sl → Ka → Prop} {Qr' : D → Ka → Prop} (h : wpS r Qn Qr Qb Qc) (hn : ∀ ρ κ, Qn ρ κ → Qn' ρ κ) (hr : ∀ d κ, Qr d κ → Qr' d κ) (hb : ∀ ρ κ, Qb ρ κ → Qb' ρ κ) (hc : ∀ ρ κ, Qc ρ κ → Qc' ρ κ) : wpS r Qn' Qr' Qb' Qc' := by
  rcases r with _ | ⟨o, k⟩
  · exact ⟨h.to⟩
  · cases o with
    | nx ρ => exact ⟨hn _ _ h.to⟩
    | rt d => exact ⟨hr _ _ h.to⟩
    | bk ρ => exact ⟨hb _ _ h.to⟩
    | ct ρ => exact ⟨hc _ _ h.to⟩
    | er c => exact ⟨h.to⟩
theorem wpS_for {g : Tg} {m : Es} (I : Nat → List Sl → Ka → Prop) : ∀ (ds : List D) (k : Nat) (ρ : List Sl) (κ : Ka), I k ρ κ →
    (∀ i d ρ κ, ds[i]? = some d → I (k + i) ρ κ → ∃ ρ1, g d ρ = some ρ1 ∧ wpS (m ρ1 κ) (fun ρ κ => I (k + i + 1) ρ κ) Qr Qn (fun ρ κ => I (k + i + 1) ρ κ)) → (∀ ρ κ, I (k + ds.length) ρ κ → Qn ρ κ) → wpS (sFor g m ds ρ κ) Qn Qr Qb Qc
  | [], k, ρ, κ, h0, _, hd => ⟨hd ρ κ h0⟩
  | d :: ds, k, ρ, κ, h0, hs, hd => by
    obtain ⟨ρ1, e, h⟩ := hs 0 d ρ κ rfl h0
    have next : ∀ ρ κ, I (k + 0 + 1) ρ κ → wpS (sFor g m ds ρ κ) Qn Qr Qb Qc := fun ρ κ h1 =>
      wpS_for I ds (k + 1) ρ κ h1 (fun i d ρ κ e h => by
        have := hs (i + 1) d ρ κ (by simpa using e) (by rw [show k + (i + 1) = k + 1 + i by omega]; exact h)
        rw [show k + (i + 1) = k + 1 + i by omega] at this
        exact this) (fun ρ κ h => hd ρ κ (by rw [List.length_cons, show k + (ds.length + 1) = k + 1 + ds.length by omega]; exact h))
    simp only [sFor, e]
    rcases hm : m ρ1 κ with _ | ⟨o, k'⟩
    · rw [hm] at h; exact h.to.elim
    · rw [hm] at h
      cases o with
      | nx ρ2 => exact next _ _ h.to
      | ct ρ2 => exact next _ _ h.to
      | bk ρ2 => exact ⟨h.to⟩
      | rt d => exact ⟨h.to⟩
      | er c => exact h.to.elim
/-- a loop, by what holds at its turns -/
theorem wpS_forE {g : Tg} {m : Es} {n : Ev (List D)} (ds : List D) {κ1 : Ka} (hn : n ρ κ = some (.ok ds, κ1)) (I : Nat → List Sl → Ka → Prop) (h0 : I 0 ρ κ1)
    (hs : ∀ i d ρ κ, ds[i]? = some d → I i ρ κ → ∃ ρ1, g d ρ = some ρ1 ∧ wpS (m ρ1 κ) (fun ρ κ => I (i + 1) ρ κ) Qr Qn (fun ρ κ => I (i + 1) ρ κ)) (hd : ∀ ρ κ, I ds.length ρ κ → Qn ρ κ) : wpS (sForE n g m ρ κ) Qn Qr Qb Qc := by
  unfold sForE
  rw [hn]
  show wpS (sFor g m ds ρ κ1) Qn Qr Qb Qc
  exact wpS_for I ds 0 ρ κ1 h0 (fun i d ρ κ e h => by rw [Nat.zero_add] at h ⊢; exact hs i d ρ κ e h) (fun ρ κ h => hd ρ κ (by rw [Nat.zero_add] at h; exact h))
/-- a def's end -/
theorem mean_wp {N : Nat} {s : Es} {ds : List D} {Q : D → Ka → Prop} (h : wpS (s (slots N ds) κ) (fun _ κ => Q .non κ) Q (fun _ _ => False) (fun _ _ => False)) : wpE (noEr (mean N s ds κ)) Q := by
  unfold mean
  rcases hm : s (slots N ds) κ with _ | ⟨o, k⟩
  · rw [hm] at h; exact ⟨h.to⟩
  · rw [hm] at h
    cases o with
    | nx ρ => exact ⟨h.to⟩
    | rt d => exact ⟨h.to⟩
    | bk ρ => exact ⟨h.to⟩
    | ct ρ => exact ⟨h.to⟩
    | er c => exact ⟨h.to⟩
theorem eq_of_wp {α : Type} {r : Re α} {a : α} {κ : Ka} (h : wpE r fun x κ' => x = a ∧ κ' = κ) : r = some (.ok a, κ) := by
  obtain ⟨a', κ', e, rfl, rfl⟩ := wpE_eq.mp h
  exact e
theorem wp_of_eq {α : Type} {r : Re α} {a : α} {κ : Ka} {Q : α → Ka → Prop} (e : r = some (.ok a, κ)) (h : Q a κ) : wpE r Q := by rw [e]; exact ⟨h⟩
end
/-- a comprehension without errors: each item gives an optional value -/
theorem cLoop_eq {g : Tg} {t : Ev Bool} {e : Ev D} {ρw : List Sl} {κ : Ka} (f : D → Option D) : ∀ (ds acc : List D), acc.length + ds.length ≤ 16777216 →
    (∀ d ∈ ds, ∃ ρ2, g d ρw = some ρ2 ∧ ((f d = none ∧ t ρ2 κ = some (.ok false, κ)) ∨ ∃ y, f d = some y ∧ isBor y = false ∧ t ρ2 κ = some (.ok true, κ) ∧ e ρ2 κ = some (.ok y, κ))) →
    cLoop g t e ρw ds acc κ = some (.ok (acc ++ ds.filterMap f), κ)
  | [], acc, _, _ => by simp [cLoop]
  | d :: ds, acc, hl, h => by
    obtain ⟨ρ2, e1, h1⟩ := h d (by simp)
    have hl' : acc.length + ds.length + 1 ≤ 16777216 := by simpa [Nat.add_assoc] using hl
    rcases h1 with ⟨e2, e3⟩ | ⟨y, e2, e3, e4, e5⟩
    · simp only [cLoop, e1, e3, Re.bindN, if_neg Bool.false_ne_true, List.filterMap_cons, e2]
      exact cLoop_eq f ds acc (by omega) fun d hd => h d (by simp [hd])
    · simp only [cLoop, e1, e4, e5, Re.bindN, if_true, List.filterMap_cons, e2, e3]
      rw [if_neg (by simp; omega)]
      rw [cLoop_eq f ds (acc ++ [y]) (by simp; omega) fun d hd => h d (by simp [hd])]
      simp
theorem eComp_eq {vs : List Nat} {n : Ev (List D)} {g : Tg} {t : Ev Bool} {e : Ev D} {ρ : List Sl} {κ κ1 : Ka} {ds : List D} (f : D → Option D) (hn : n ρ κ = some (.ok ds, κ1)) (hl : ds.length ≤ 16777216)
    (h : ∀ d ∈ ds, ∃ ρ2, g d (wipeR ρ vs) = some ρ2 ∧ ((f d = none ∧ t ρ2 κ1 = some (.ok false, κ1)) ∨ ∃ y, f d = some y ∧ isBor y = false ∧ t ρ2 κ1 = some (.ok true, κ1) ∧ e ρ2 κ1 = some (.ok y, κ1))) :
    eComp vs n g t e ρ κ = some (.ok (ds.filterMap f), κ1) := by
  unfold eComp
  rw [hn]
  show cLoop g t e (wipeR ρ vs) ds [] κ1 = _
  rw [cLoop_eq f ds [] (by simpa using hl) h]
  simp
/-- .. without a test -/
theorem eComp_map {vs : List Nat} {n : Ev (List D)} {g : Tg} {e : Ev D} {ρ : List Sl} {κ κ1 : Ka} {ds : List D} (f : D → D) (hn : n ρ κ = some (.ok ds, κ1)) (hl : ds.length ≤ 16777216)
    (h : ∀ d ∈ ds, ∃ ρ2, g d (wipeR ρ vs) = some ρ2 ∧ isBor (f d) = false ∧ e ρ2 κ1 = some (.ok (f d), κ1)) :
    eComp vs n g bYes e ρ κ = some (.ok (ds.map f), κ1) := by
  rw [eComp_eq (fun d => some (f d)) hn hl fun d hd => let ⟨ρ2, a, b, c⟩ := h d hd; ⟨ρ2, a, .inr ⟨f d, rfl, b, rfl, c⟩⟩]
  simp
end DL
set_option Elab.async false
set_option linter.all false
set_option maxRecDepth 100000
set_option maxHeartbeats 4000000
/-! DLe: the rows by which simp reckons meanings. -/
namespace DL
open PySem L2
section
variable {α β : Type} {ρ : List Sl} {κ : Ka} {m ma mb mc md : Ev D} {n : Ev (List D)} {c na nb : Ev Bool} {f f' f'' : D → D → Option D} {p p' p'' : D → D → Option Bool}
@[simp] theorem bind_ok {a : α} {f : α → Ka → Re β} : Re.bind (some (.ok a, κ)) f = f a κ := rfl
@[simp] theorem bind_none {f : α → Ka → Re β} : Re.bind (none : Re α) f = none := rfl
@[simp] theorem bindN_ok {a : α} {f : α → Ka → Re β} : Re.bindN (some (.ok a, κ)) f = f a κ := rfl
@[simp] theorem bindS_ok {a : α} {f : α → Ka → Option (Out × Ka)} : Re.bindS (some (.ok a, κ)) f = f a κ := rfl
@[simp] theorem rOf_some {d : D} : rOf (some d) κ = some (.ok d, κ) := rfl
@[simp] theorem rOfB_some {d : Bool} : rOfB (some d) κ = some (.ok d, κ) := rfl
@[simp] theorem rOfL_some {d : List D} : rOfL (some d) κ = some (.ok d, κ) := rfl
@[simp] theorem ret_def {d : D} : ret d κ = some (.ok d, κ) := rfl
theorem eVar_def {i : Nat} : eVar i ρ κ = match ρ[i]? with
  | some (.val d) => some (.ok d, κ)
  | some (.own ds) => some (.ok (.bor ds), κ)
  | _ => none := rfl
@[simp] theorem eVar_z {d : D} {r : List Sl} : eVar 0 (.val d :: r) κ = some (.ok d, κ) := rfl
@[simp] theorem eVar_zo {ds : List D} {r : List Sl} : eVar 0 (.own ds :: r) κ = some (.ok (.bor ds), κ) := rfl
@[simp] theorem eVar_s {i : Nat} {s : Sl} {r : List Sl} : eVar (i + 1) (s :: r) κ = eVar i r κ := by simp [eVar]
@[simp] theorem eC_def {d : D} : eC d ρ κ = some (.ok d, κ) := rfl
@[simp] theorem eOp_def : eOp f ma mb ρ κ = (ma ρ κ).bind fun x κ1 => (mb ρ κ1).bind fun y κ2 => rOf (f x y) κ2 := rfl
@[simp] theorem eNeg_def : eNeg m ρ κ = (m ρ κ).bind fun x κ1 => rOf (oNeg x) κ1 := rfl
@[simp] theorem eCmp_def : eCmp p ma mb ρ κ = (ma ρ κ).bind fun x κ1 => (mb ρ κ1).bind fun y κ2 => rOf ((p x y).map D.bl) κ2 := rfl
@[simp] theorem bCmp_def : bCmp p ma mb ρ κ = (ma ρ κ).bind fun x κ1 => (mb ρ κ1).bind fun y κ2 => rOfB (p x y) κ2 := rfl
@[simp] theorem eChain_def : eChain p p' ma mb mc ρ κ = (ma ρ κ).bind fun x κ1 => (mb ρ κ1).bind fun y κ2 => match p x y with
  | some true => (mc ρ κ2).bind fun z κ3 => rOf ((p' y z).map D.bl) κ3
  | some false => ret (.bl false) κ2
  | none => none := rfl
@[simp] theorem bChain_def : bChain p p' ma mb mc ρ κ = (ma ρ κ).bind fun x κ1 => (mb ρ κ1).bind fun y κ2 => match p x y with
  | some true => (mc ρ κ2).bind fun z κ3 => rOfB (p' y z) κ3
  | some false => some (.ok false, κ2)
  | none => none := rfl
@[simp] theorem eChain3_def : eChain3 p p' p'' ma mb mc md ρ κ = (ma ρ κ).bind fun x κ1 => (mb ρ κ1).bind fun y κ2 => match p x y with
  | some true => (mc ρ κ2).bind fun z κ3 => match p' y z with
    | some true => (md ρ κ3).bind fun u κ4 => rOf ((p'' z u).map D.bl) κ4
    | some false => ret (.bl false) κ3
    | none => none
  | some false => ret (.bl false) κ2
  | none => none := rfl
@[simp] theorem bOf_def : bOf m ρ κ = (m ρ κ).bind fun d κ1 => rOfB (truth d) κ1 := rfl
@[simp] theorem bAnd_def : bAnd na nb ρ κ = (na ρ κ).bind fun b κ1 => if b = true then nb ρ κ1 else some (.ok false, κ1) := rfl
@[simp] theorem bOr_def : bOr na nb ρ κ = (na ρ κ).bind fun b κ1 => if b = true then some (.ok true, κ1) else nb ρ κ1 := rfl
@[simp] theorem bNot_def : bNot na ρ κ = (na ρ κ).bind fun b κ1 => some (.ok (!b), κ1) := rfl
@[simp] theorem eAnd_def : eAnd ma mb ρ κ = (ma ρ κ).bind fun d κ1 => match truth d with
  | some true => mb ρ κ1
  | some false => ret d κ1
  | none => none := rfl
@[simp] theorem eOr_def : eOr ma mb ρ κ = (ma ρ κ).bind fun d κ1 => match truth d with
  | some true => ret d κ1
  | some false => mb ρ κ1
  | none => none := rfl
@[simp] theorem eNot_def : eNot m ρ κ = (m ρ κ).bind fun d κ1 => rOf ((truth d).map fun b => .bl (!b)) κ1 := rfl
@[simp] theorem eIf_def : eIf c ma mb ρ κ = (c ρ κ).bind fun b κ1 => if b = true then ma ρ κ1 else mb ρ κ1 := rfl
@[simp] theorem aNil_def : aNil ρ κ = some (.ok [], κ) := rfl
@[simp] theorem aCons_def : aCons m n ρ κ = (m ρ κ).bind fun d κ1 => (n ρ κ1).bind fun ds κ2 => some (.ok (d :: ds), κ2) := rfl
@[simp] theorem eTup_def : eTup n ρ κ = (n ρ κ).bind fun ds κ1 => if noBor ds = true ∧ ds.length ≤ 16777216 then ret (.tup ds) κ1 else none := rfl
@[simp] theorem fLst_def : fLst n ρ κ = (n ρ κ).bind fun ds κ1 => if noBor ds = true ∧ ds.length ≤ 16777216 then some (.ok ds, κ1) else none := rfl
@[simp] theorem eFr_def : eFr n ρ κ = (n ρ κ).bind fun ds κ1 => ret (.lst ds) κ1 := rfl
@[simp] theorem eSt_def : eSt n ρ κ = (n ρ κ).bind fun ds κ1 => some (.ok (.obj κ1.length), κ1 ++ [.lst ds]) := rfl
@[simp] theorem eCall_def {ar : Nat} {g : List D → Ka → Re D} : eCall ar g n ρ κ = (n ρ κ).bind fun ds κ1 => if ds.length = ar then g ds κ1 else none := rfl
@[simp] theorem eBi_def {g : Ka → List D → Option D} : eBi g n ρ κ = (n ρ κ).bind fun ds κ1 => rOf (g κ1 ds) κ1 := rfl
@[simp] theorem fBi_def {g : Ka → List D → Option (List D)} : fBi g n ρ κ = (n ρ κ).bind fun ds κ1 => rOfL (g κ1 ds) κ1 := by
  unfold fBi
  first | rfl | skip
@[simp] theorem eIdx_def : eIdx ma mb ρ κ = (ma ρ κ).bind fun x κ1 => (mb ρ κ1).bind fun y κ2 => rOf (oIdx κ2 x y) κ2 := rfl
@[simp] theorem sNone_def : sNone ρ κ = some (.ok none, κ) := rfl
@[simp] theorem sSome_def : sSome m ρ κ = (m ρ κ).bind fun d κ1 => match d with
  | .int i => some (.ok (some i), κ1)
  | _ => none := rfl
@[simp] theorem eCut_def {l h : Ev (Option Int)} : eCut m l h ρ κ = (m ρ κ).bind fun d κ1 => (l ρ κ1).bind fun i κ2 => (h ρ κ2).bind fun j κ3 => rOf (oCut d i j) κ3 := rfl
@[simp] theorem eIsi_def {T : String} : eIsi T m ρ κ = (m ρ κ).bind fun d κ1 => rOf (((tyName κ1 d).bind fun a => kitB a T).map D.bl) κ1 := rfl
@[simp] theorem iAny_def {l : Bool} : iAny l m ρ κ = (m ρ κ).bind fun d κ1 => rOfL (walkD l d) κ1 := rfl
@[simp] theorem iRange1_def : iRange1 n ρ κ = (n ρ κ).bind fun ds κ1 => rOfL (bRange1 ds) κ1 := rfl
@[simp] theorem iRange2_def : iRange2 n ρ κ = (n ρ κ).bind fun ds κ1 => rOfL (bRange2 ds) κ1 := rfl
@[simp] theorem iRange3_def : iRange3 n ρ κ = (n ρ κ).bind fun ds κ1 => rOfL (bRange3 ds) κ1 := rfl
@[simp] theorem bYes_def : bYes ρ κ = some (.ok true, κ) := rfl
/-! statements -/
variable {s t : Es} {g : Tg}
@[simp] theorem sNext_def : sNext ρ κ = some (.nx ρ, κ) := rfl
@[simp] theorem sSeq_def : sSeq s t ρ κ = match s ρ κ with
  | some (.nx ρ1, κ1) => t ρ1 κ1
  | r => r := rfl
@[simp] theorem sRet_def : sRet m ρ κ = (m ρ κ).bindS fun d κ1 => if isBor d = true then none else some (.rt d, κ1) := rfl
@[simp] theorem sIf_def : sIf c s t ρ κ = (c ρ κ).bindS fun b κ1 => if b = true then s ρ κ1 else t ρ κ1 := rfl
@[simp] theorem sAsg_def : sAsg g m ρ κ = (m ρ κ).bindS fun d κ1 => if isBor d = true then none else match g d ρ with
  | some ρ1 => some (.nx ρ1, κ1)
  | none => none := rfl
@[simp] theorem sOwn_def {i : Nat} : sOwn i n ρ κ = (n ρ κ).bindS fun ds κ1 => some (.nx (ρ.set i (.own ds)), κ1) := rfl
@[simp] theorem sExp_def : sExp m ρ κ = (m ρ κ).bindS fun _ κ1 => some (.nx ρ, κ1) := rfl
@[simp] theorem sFrz_def {i : Nat} : sFrz i s ρ κ = s (frz i ρ) κ := rfl
@[simp] theorem sPar_def {i j : Nat} : sPar i j n ρ κ = (n ρ κ).bindS fun ds κ1 => match ds with
  | [d, e] => if noBor ds = true then some (.nx ((ρ.set i (.val d)).set j (.val e)), κ1) else none
  | _ => none := rfl
@[simp] theorem sApp_def {i : Nat} : sApp i m ρ κ = match ρ[i]? with
  | some (.own ds) => (m ρ κ).bindS fun d κ1 => if isBor d = true ∨ 16777216 ≤ ds.length then none else some (.nx (ρ.set i (.own (ds ++ [d]))), κ1)
  | _ => none := rfl
@[simp] theorem gNm_def {i : Nat} {d : D} : gNm i d ρ = if isBor d = true then none else some (ρ.set i (.val d)) := rfl
@[simp] theorem gsNil_def : gsNil [] ρ = some ρ := rfl
@[simp] theorem gsCons_def {r : Tgs} {d : D} {ds : List D} : gsCons g r (d :: ds) ρ = (g d ρ).bind (r ds) := rfl
@[simp] theorem gTu_def {k : Nat} {r : Tgs} {ds : List D} : gTu k r (.tup ds) ρ = if ds.length = k then r ds ρ else none := rfl
/-! data -/
@[simp] theorem isBor_int {i : Int} : isBor (.int i) = false := rfl
@[simp] theorem isBor_bl {i : Bool} : isBor (.bl i) = false := rfl
@[simp] theorem isBor_str {i : Str} : isBor (.str i) = false := rfl
@[simp] theorem isBor_non : isBor .non = false := rfl
@[simp] theorem isBor_tup {ds : List D} : isBor (.tup ds) = false := rfl
@[simp] theorem isBor_lst {ds : List D} : isBor (.lst ds) = false := rfl
@[simp] theorem isBor_obj {k : Nat} : isBor (.obj k) = false := rfl
@[simp] theorem isBor_bor {ds : List D} : isBor (.bor ds) = true := rfl
@[simp] theorem noBor_nil : noBor [] = true := rfl
@[simp] theorem noBor_cons {d : D} {ds : List D} : noBor (d :: ds) = (!isBor d && noBor ds) := rfl
@[simp] theorem oAdd_int {i j : Int} : oAdd (.int i) (.int j) = some (.int (i + j)) := rfl
@[simp] theorem oSub_int {i j : Int} : oSub (.int i) (.int j) = some (.int (i - j)) := rfl
@[simp] theorem oNeg_int {i : Int} : oNeg (.int i) = some (.int (-i)) := rfl
@[simp] theorem cLt_int {i j : Int} : cLt (.int i) (.int j) = some (decide (i < j)) := rfl
@[simp] theorem cLe_int {i j : Int} : cLe (.int i) (.int j) = some (decide (i ≤ j)) := rfl
@[simp] theorem cGt_int {i j : Int} : cGt (.int i) (.int j) = some (decide (j < i)) := rfl
@[simp] theorem cGe_int {i j : Int} : cGe (.int i) (.int j) = some (decide (j ≤ i)) := rfl
@[simp] theorem fit_int {i : Int} : D.fit (.int i) = true := rfl
@[simp] theorem fit_bl {i : Bool} : D.fit (.bl i) = true := rfl
@[simp] theorem fit_non : D.fit .non = true := rfl
@[simp] theorem cEq_int {i j : Int} : cEq (.int i) (.int j) = some (i == j) := by simp [cEq, eqD, D.py, PyData.eqv]
@[simp] theorem cNe_int {i j : Int} : cNe (.int i) (.int j) = some (!(i == j)) := by simp [cNe, eqD, D.py, PyData.eqv]
@[simp] theorem cEq_bl {i j : Bool} : cEq (.bl i) (.bl j) = some (i == j) := by simp [cEq, eqD, D.py, PyData.eqv]
@[simp] theorem truth_bl {b : Bool} : truth (.bl b) = some b := rfl
@[simp] theorem truth_int {i : Int} : truth (.int i) = some (i != 0) := rfl
@[simp] theorem truth_tup {ds : List D} : truth (.tup ds) = some (!ds.isEmpty) := rfl
@[simp] theorem oIdx_tup {ds : List D} {i : Int} : oIdx κ (.tup ds) (.int i) = atI ds i := rfl
@[simp] theorem oIdx_lst {ds : List D} {i : Int} : oIdx κ (.lst ds) (.int i) = atI ds i := rfl
@[simp] theorem oIdx_bor {ds : List D} {i : Int} : oIdx κ (.bor ds) (.int i) = atI ds i := rfl
@[simp] theorem oIdx_rol {ds : List D} {i : Int} : oIdx κ (.rol ds) (.int i) = atI ds i := rfl
@[simp] theorem bLen_tup {ds : List D} : bLen κ [.tup ds] = some (.int ds.length) := rfl
@[simp] theorem bLen_lst {ds : List D} : bLen κ [.lst ds] = some (.int ds.length) := rfl
@[simp] theorem bLen_bor {ds : List D} : bLen κ [.bor ds] = some (.int ds.length) := rfl
@[simp] theorem bLen_rol {ds : List D} : bLen κ [.rol ds] = some (.int ds.length) := rfl
@[simp] theorem bTuple_lst {ds : List D} : bTuple κ [.lst ds] = some (.tup ds) := rfl
@[simp] theorem bTuple_bor {ds : List D} : bTuple κ [.bor ds] = some (.tup ds) := rfl
@[simp] theorem bTuple_tup {ds : List D} : bTuple κ [.tup ds] = some (.tup ds) := rfl
@[simp] theorem bMin_2 {i j : Int} : bMin κ [.int i, .int j] = some (.int (if j < i then j else i)) := rfl
@[simp] theorem bMax_2 {i j : Int} : bMax κ [.int i, .int j] = some (.int (if j > i then j else i)) := rfl
@[simp] theorem bAbs_int {i : Int} : bAbs κ [.int i] = some (.int (if i < 0 then -i else i)) := rfl
@[simp] theorem bInt_int {i : Int} : bInt κ [.int i] = some (.int i) := rfl
@[simp] theorem walkD_lst {b : Bool} {ds : List D} : walkD b (.lst ds) = some ds := rfl
@[simp] theorem walkD_tup {b : Bool} {ds : List D} : walkD b (.tup ds) = some ds := rfl
@[simp] theorem walkD_bor {ds : List D} : walkD true (.bor ds) = some ds := rfl
@[simp] theorem oCut_tup {ds : List D} {l h : Option Int} : oCut (.tup ds) l h = some (.tup (cutD ds l h)) := rfl
@[simp] theorem ty_int {i : Int} : tyName κ (.int i) = some "int" := rfl
@[simp] theorem ty_bl {i : Bool} : tyName κ (.bl i) = some "bool" := rfl
@[simp] theorem ty_str {i : Str} : tyName κ (.str i) = some "str" := rfl
@[simp] theorem ty_non : tyName κ .non = some "NoneType" := rfl
@[simp] theorem ty_tup {ds : List D} : tyName κ (.tup ds) = some "tuple" := rfl
@[simp] theorem ty_lst {ds : List D} : tyName κ (.lst ds) = some "list" := rfl
@[simp] theorem kit_int_int : kitB "int" "int" = some true := by decide +kernel
@[simp] theorem kit_int_bool : kitB "int" "bool" = some false := by decide +kernel
@[simp] theorem kit_int_str : kitB "int" "str" = some false := by decide +kernel
@[simp] theorem kit_int_tuple : kitB "int" "tuple" = some false := by decide +kernel
@[simp] theorem kit_int_list : kitB "int" "list" = some false := by decide +kernel
@[simp] theorem kit_bool_int : kitB "bool" "int" = some true := by decide +kernel
@[simp] theorem kit_bool_bool : kitB "bool" "bool" = some true := by decide +kernel
@[simp] theorem kit_bool_str : kitB "bool" "str" = some false := by decide +kernel
@[simp] theorem kit_bool_tuple : kitB "bool" "tuple" = some false := by decide +kernel
@[simp] theorem kit_bool_list : kitB "bool" "list" = some false := by decide +kernel
@[simp] theorem kit_str_int : kitB "str" "int" = some false := by decide +kernel
@[simp] theorem kit_str_bool : kitB "str" "bool" = some false := by decide +kernel
@[simp] theorem kit_str_str : kitB "str" "str" = some true := by decide +kernel
@[simp] theorem kit_str_tuple : kitB "str" "tuple" = some false := by decide +kernel
@[simp] theorem kit_str_list : kitB "str" "list" = some false := by decide +kernel
@[simp] theorem kit_tuple_int : kitB "tuple" "int" = some false := by decide +kernel
@[simp] theorem kit_tuple_bool : kitB "tuple" "bool" = some false := by decide +kernel
@[simp] theorem kit_tuple_str : kitB "tuple" "str" = some false := by decide +kernel
@[simp] theorem kit_tuple_tuple : kitB "tuple" "tuple" = some true := by decide +kernel
@[simp] theorem kit_tuple_list : kitB "tuple" "list" = some false := by decide +kernel
@[simp] theorem kit_list_int : kitB "list" "int" = some false := by decide +kernel
@[simp] theorem kit_list_bool : kitB "list" "bool" = some false := by decide +kernel
@[simp] theorem kit_list_str : kitB "list" "str" = some false := by decide +kernel
@[simp] theorem kit_list_tuple : kitB "list" "tuple" = some false := by decide +kernel
@[simp] theorem kit_list_list : kitB "list" "list" = some true := by decide +kernel
@[simp] theorem kit_non_int : kitB "NoneType" "int" = some false := by decide +kernel
@[simp] theorem kit_non_bool : kitB "NoneType" "bool" = some false := by decide +kernel
@[simp] theorem kit_non_str : kitB "NoneType" "str" = some false := by decide +kernel
@[simp] theorem kit_non_tuple : kitB "NoneType" "tuple" = some false := by decide +kernel
@[simp] theorem kit_non_list : kitB "NoneType" "list" = some false := by decide +kernel
@[simp] theorem noEr_ok {a : α} : noEr (some (.ok a, κ)) = some (.ok a, κ) := rfl
/-! slots of few data -/
@[simp] theorem atI_0 (a : α) (l : List α) : atI (a :: l) 0 = some a := by
  have : ixN (a :: l).length 0 = some 0 := by unfold ixN; simp
  unfold atI; rw [this]; rfl
@[simp] theorem atI_1 (a b : α) (l : List α) : atI (a :: b :: l) 1 = some b := by
  have : ixN (a :: b :: l).length 1 = some 1 := by unfold ixN; simp; omega
  unfold atI; rw [this]; rfl
@[simp] theorem atI_2 (a b c : α) (l : List α) : atI (a :: b :: c :: l) 2 = some c := by
  have : ixN (a :: b :: c :: l).length 2 = some 2 := by unfold ixN; simp; omega
  unfold atI; rw [this]; rfl
@[simp] theorem atI_3 (a b c d : α) (l : List α) : atI (a :: b :: c :: d :: l) 3 = some d := by
  have : ixN (a :: b :: c :: d :: l).length 3 = some 3 := by unfold ixN; simp; omega
  unfold atI; rw [this]; rfl
end
theorem oMul_int {i j : Int} (h : mulOk i j = true) : oMul (.int i) (.int j) = some (.int (i * j)) := by simp [oMul, h]
theorem oFdiv_int {i j : Int} (h : j ≠ 0) (h2 : j.natAbs < 1073741824) : oFdiv (.int i) (.int j) = some (.int (i.fdiv j)) := by simp [oFdiv, h, h2]
theorem oMod_int {i j : Int} (h : j ≠ 0) : oMod (.int i) (.int j) = some (.int (i.fmod j)) := by simp [oMod, h]
theorem mulOk_l {i j : Int} (h1 : -18446744073709551616 < i) (h2 : i < 18446744073709551616) : mulOk i j = true := by simp [mulOk, h1, h2]
theorem mulOk_r {i j : Int} (h1 : -18446744073709551616 < j) (h2 : j < 18446744073709551616) : mulOk i j = true := by simp [mulOk, h1, h2]
end DL
set_option Elab.async false
set_option linter.all false
set_option maxRecDepth 100000
set_option maxHeartbeats 4000000
/-! DLd: the laws' own drawing of numbers (the same in each law), and their sameness. -/
namespace DL
open PySem L2
/-- _law_deal: slots 0 script, 1 row, 2 k, 3 cell, 4 turn, 5 total -/
def m__law_deal : Es := (sSeq (sOwn 1 (fLst aNil))
      (sSeq (sForE (iRange1 (aCons (eBi bMin (aCons (eBi bLen (aCons (eVar 0) aNil)) (aCons (eC (.int 63)) aNil))) aNil)) (gNm 2) (sSeq (sAsg (gNm 3) (eBi bAbs (aCons (eBi bInt (aCons (eIdx (eVar 0) (eVar 2)) aNil)) aNil)))
      (sIf (bCmp cGe (eVar 3) (eOp oPow (eC (.int 10)) (eC (.int 18)))) (sForE (iRange1 (aCons (eC (.int 40)) aNil)) (gNm 4) (sIf (bCmp cGt (eVar 3) (eC (.int 0))) (sSeq (sApp 1 (eOp oMod (eVar 3) (eC (.int 1009))))
      (sAsg (gNm 3) (eOp oFdiv (eVar 3) (eC (.int 1009))))) sNext)) (sSeq (sAsg (gNm 3) (eOp oAdd (eOp oAdd (eOp oMul (eOp oMod (eVar 3) (eC (.int 2147483629))) (eC (.int 48271))) (eOp oMul (eVar 2) (eC (.int 69621)))) (eC (.int 11))))
      (sForE (iRange1 (aCons (eC (.int 5)) aNil)) (gNm 4) (sSeq (sAsg (gNm 3) (eOp oMod (eOp oAdd (eOp oAdd (eOp oMul (eVar 3) (eC (.int 16807))) (eC (.int 12345))) (eVar 4)) (eC (.int 2147483647))))
      (sApp 1 (eOp oMod (eOp oFdiv (eVar 3) (eC (.int 7))) (eC (.int 1009))))))))))
      (sSeq (sAsg (gNm 5) (eOp oAdd (eBi bSum (aCons (eVar 1) aNil)) (eBi bLen (aCons (eVar 0) aNil))))
      (sFrz 1 (sRet (eFr (fLst (aCons (eVar 1) (aCons (eSt (fLst (aCons (eC (.int 0)) aNil))) (aCons (eVar 5) aNil))))))))))
def f__law_deal (ds : List DL.D) (κ : Ka) : Re DL.D := noEr (mean 6 m__law_deal ds κ)
/-- _law_take: slots 0 deal, 1 many, 2 at, 3 cell, 4 turn -/
def m__law_take : Es := (sSeq (sAsg (gNm 2) (eIdx (eIdx (eVar 0) (eC (.int 1))) (eC (.int 0))))
      (sSeq (sSetO (eIdx (eVar 0) (eC (.int 1))) (eC (.int 0)) (eOp oAdd (eVar 2) (eC (.int 1))))
      (sSeq (sIf (bCmp cLt (eVar 2) (eBi bLen (aCons (eIdx (eVar 0) (eC (.int 0))) aNil))) (sRet (eOp oMod (eIdx (eIdx (eVar 0) (eC (.int 0))) (eVar 2)) (eVar 1))) sNext)
      (sSeq (sAsg (gNm 3) (eOp oMod (eOp oAdd (eOp oAdd (eOp oMul (eVar 2) (eC (.int 7919))) (eOp oMul (eIdx (eVar 0) (eC (.int 2))) (eC (.int 31)))) (eC (.int 17))) (eC (.int 2147483629))))
      (sSeq (sForE (iRange1 (aCons (eC (.int 3)) aNil)) (gNm 4) (sAsg (gNm 3) (eOp oMod (eOp oAdd (eOp oAdd (eOp oMul (eVar 3) (eVar 3)) (eOp oMul (eC (.int 48271)) (eVar 2))) (eC (.int 12345))) (eC (.int 2147483647)))))
      (sRet (eOp oMod (eOp oFdiv (eVar 3) (eC (.int 7))) (eVar 1))))))))
def f__law_take (ds : List DL.D) (κ : Ka) : Re DL.D := noEr (mean 5 m__law_take ds κ)
/-- _law_same: slots 0 a, 1 b, 2 k -/
def m__law_same (self : List DL.D → Ka → Re DL.D) : Es := (sSeq (sIf (bOr (bOf (eIsi "tuple" (eVar 1))) (bOf (eIsi "list" (eVar 1)))) (sSeq (sIf (bOr (bAnd (bOf (eIsi "tuple" (eVar 1))) (bNot (bOf (eIsi "tuple" (eVar 0))))) (bAnd (bOf (eIsi "list" (eVar 1))) (bNot (bOf (eIsi "list" (eVar 0)))))) (sRet (eC (.bl false))) sNext)
      (sSeq (sIf (bCmp cNe (eBi bLen (aCons (eVar 0) aNil)) (eBi bLen (aCons (eVar 1) aNil))) (sRet (eC (.bl false))) sNext)
      (sSeq (sForE (iRange1 (aCons (eBi bLen (aCons (eVar 1) aNil)) aNil)) (gNm 2) (sIf (bNot (bOf (eCall 2 self (aCons (eIdx (eVar 0) (eVar 2)) (aCons (eIdx (eVar 1) (eVar 2)) aNil))))) (sRet (eC (.bl false))) sNext))
      (sRet (eC (.bl true)))))) sNext)
      (sSeq (sIf (bOr (bOf (eIsi "bool" (eVar 0))) (bOf (eIsi "bool" (eVar 1)))) (sRet (eAnd (eIsi "bool" (eVar 0)) (eAnd (eIsi "bool" (eVar 1)) (eCmp cEq (eVar 0) (eVar 1))))) sNext)
      (sSeq (sIf (bOf (eIsi "int" (eVar 1))) (sRet (eAnd (eIsi "int" (eVar 0)) (eCmp cEq (eVar 0) (eVar 1)))) sNext)
      (sSeq (sIf (bOf (eIsi "str" (eVar 1))) (sRet (eAnd (eIsi "str" (eVar 0)) (eCmp cEq (eVar 0) (eVar 1)))) sNext)
      (sRet (eAnd (eCmp cIs (eVar 0) (eC .non)) (eCmp cIs (eVar 1) (eC .non))))))))
def f__law_sameN : Nat → List DL.D → Ka → Re DL.D
  | 0 => fun _ _ => none
  | k + 1 => fun ds κ => noEr (mean 3 (m__law_same (f__law_sameN k)) ds κ)
def f__law_same : List DL.D → Ka → Re DL.D := f__law_sameN 12
/-- _law_bool: slots 0 answer, 1 due -/
def m__law_bool : Es := (sRet (eAnd (eIsi "bool" (eVar 0)) (eCmp cEq (eVar 0) (eVar 1))))
def f__law_bool (ds : List DL.D) (κ : Ka) : Re DL.D := noEr (mean 2 m__law_bool ds κ)
section
variable {κ : Ka} {ρ : List Sl} {α : Type}
@[simp] theorem oIdx_obj {ds : List D} {i : Int} {k : Ka} : oIdx (.lst ds :: k) (.obj 0) (.int i) = atI ds i := rfl
@[simp] theorem sSetO_def {mo mi m : Ev D} : sSetO mo mi m ρ κ = (m ρ κ).bindS fun d κ1 => (mo ρ κ1).bindS fun o κ2 => (mi ρ κ2).bindS fun j κ3 => match o, j with
  | .obj n, .int z => match κ3[n]? with
    | some (.lst ds) => match ixN ds.length z with
      | some q => if isBor d = true then none else some (.nx ρ, κ3.set n (.lst (ds.set q d)))
      | none => none
    | _ => none
  | _, _ => none := rfl
theorem wpE_atom {α : Type} {r : Re α} {a : α} {k : Ka} {Q : α → Ka → Prop} (e : r = some (.ok a, k)) (h : Q a k) : wpE r Q := by rw [e]; exact ⟨h⟩
theorem wpS_atom {r : Option (Out × Ka)} {ρ' : List Sl} {k : Ka} {Qn Qb Qc : List Sl → Ka → Prop} {Qr : D → Ka → Prop} (e : r = some (.nx ρ', k)) (h : Qn ρ' k) : wpS r Qn Qr Qb Qc := by rw [e]; exact ⟨h⟩
theorem wpS_atomR {r : Option (Out × Ka)} {d : D} {k : Ka} {Qn Qb Qc : List Sl → Ka → Prop} {Qr : D → Ka → Prop} (e : r = some (.rt d, k)) (h : Qr d k) : wpS r Qn Qr Qb Qc := by rw [e]; exact ⟨h⟩
theorem fmod_bd (a : Int) {b : Int} (h : 0 < b) : 0 ≤ a.fmod b ∧ a.fmod b < b := ⟨Int.fmod_nonneg_of_pos _ h, Int.fmod_lt_of_pos _ h⟩
theorem atI_get? {l : List α} {i : Int} (h0 : 0 ≤ i) (h1 : i < l.length) : atI l i = l[i.toNat]? := by
  unfold atI ixN
  rw [if_pos h0, if_pos h1]; rfl
end
/-- what is drawn from -/
def dealD (r : List Int) (t : Int) : D := .lst [.lst (r.map D.int), .obj 0, .int t]
def at_ (i : Int) : Ka := [.lst [.int i]]
theorem range3 : rangeD 0 3 = [.int 0, .int 1, .int 2] := by rfl
theorem take_ok (r : List Int) (t at' many : Int) (h0 : 0 ≤ at') (hm : 0 < many) : ∃ v, f__law_take [dealD r t, .int many] (at_ at') = some (.ok (.int v), at_ (at' + 1)) ∧ 0 ≤ v ∧ v < many := by
  suffices h : wpE (f__law_take [dealD r t, .int many] (at_ at')) fun d κ => ∃ v, d = .int v ∧ κ = at_ (at' + 1) ∧ 0 ≤ v ∧ v < many by
    obtain ⟨d, κ, e, v, rfl, rfl, h1, h2⟩ := wpE_eq.mp h
    exact ⟨v, e, h1, h2⟩
  unfold f__law_take
  refine mean_wp ?_
  have hs : slots 5 [dealD r t, .int many] = [.val (dealD r t), .val (.int many), .no, .no, .no] := rfl
  rw [hs]
  unfold m__law_take dealD
  simp only [wpS_seq]
  refine wpS_atom (ρ' := [.val (dealD r t), .val (.int many), .val (.int at'), .no, .no]) (k := at_ at') (by simp [at_, dealD]) ?_
  refine wpS_atom (ρ' := [.val (dealD r t), .val (.int many), .val (.int at'), .no, .no]) (k := at_ (at' + 1)) (by simp [at_, dealD, ixN]) ?_
  rw [wpS_if]
  refine wpE_atom (a := decide (at' < r.length)) (k := at_ (at' + 1)) (by simp [at_, dealD]) ?_
  have hmod : many ≠ 0 := by omega
  by_cases hlt : at' < r.length
  · rw [if_pos (decide_eq_true hlt)]
    have e1 : atI (r.map D.int) at' = some (.int (r[at'.toNat]'(by omega))) := by
      rw [atI_get? h0 (by simpa using hlt), List.getElem?_map, List.getElem?_eq_getElem (by omega)]; rfl
    refine wpS_atomR (d := .int ((r[at'.toNat]'(by omega)).fmod many)) (k := at_ (at' + 1)) (by simp [at_, dealD, e1, oMod_int hmod]) ?_
    exact ⟨_, rfl, rfl, (fmod_bd _ hm).1, (fmod_bd _ hm).2⟩
  · rw [if_neg (by simp [hlt])]
    rw [wpS_next]
    refine wpS_atom (ρ' := [.val (dealD r t), .val (.int many), .val (.int at'), .val (.int ((at' * 7919 + t * 31 + 17).fmod 2147483629)), .no]) (k := at_ (at' + 1)) ?_ ?_
    · simp [at_, dealD, oMul_int (mulOk_r (i := at') (j := 7919) (by omega) (by omega)), oMul_int (mulOk_r (i := t) (j := 31) (by omega) (by omega)), oMod_int]
    · refine wpS_forE (κ1 := at_ (at' + 1)) (rangeD 0 3) (by simp [at_, bRange1, okR, rOfL]) (fun _ ρ κ => κ = at_ (at' + 1) ∧ ∃ c s, ρ = [.val (dealD r t), .val (.int many), .val (.int at'), .val (.int c), s] ∧ 0 ≤ c ∧ c < 2147483647) ⟨rfl, _, _, rfl, (fmod_bd _ (by omega)).1, by have := (fmod_bd (at' * 7919 + t * 31 + 17) (b := 2147483629) (by omega)).2; omega⟩ ?_ ?_
      · rintro i d ρ κ hd ⟨rfl, c, s, rfl, c0, c1⟩
        have hb : ∃ j, d = .int j := by
          unfold rangeD at hd
          rw [List.getElem?_map] at hd
          obtain ⟨j, _, rfl⟩ := Option.map_eq_some_iff.mp hd
          exact ⟨_, rfl⟩
        obtain ⟨j, rfl⟩ := hb
        refine ⟨_, rfl, ?_⟩
        refine wpS_atom (ρ' := [.val (dealD r t), .val (.int many), .val (.int at'), .val (.int ((c * c + 48271 * at' + 12345).fmod 2147483647)), .val (.int j)]) (k := at_ (at' + 1)) ?_ ⟨rfl, _, _, rfl, (fmod_bd _ (by omega)).1, (fmod_bd _ (by omega)).2⟩
        simp [oMul_int (mulOk_r (i := c) (j := c) (by omega) (by omega)), oMul_int (mulOk_l (i := 48271) (j := at') (by omega) (by omega)), oMod_int]
      · rintro ρ κ ⟨rfl, c, s, rfl, c0, c1⟩
        refine wpS_atomR (d := .int ((c.fdiv 7).fmod many)) (k := at_ (at' + 1)) (by simp [oFdiv_int, oMod_int hmod]) ?_
        exact ⟨_, rfl, rfl, (fmod_bd _ hm).1, (fmod_bd _ hm).2⟩
theorem mem_range {lo hi : Int} {i : Nat} {d : D} (h : (rangeD lo hi)[i]? = some d) : d = .int (lo + (i : Int)) ∧ i < (hi - lo).toNat := by
  unfold rangeD at h
  rw [List.getElem?_map] at h
  obtain ⟨j, hj, rfl⟩ := Option.map_eq_some_iff.mp h
  obtain ⟨h1, h2⟩ := List.getElem?_eq_some_iff.mp hj
  rw [List.getElem_range] at h2
  subst h2
  exact ⟨rfl, by simpa using h1⟩
theorem range_len (lo hi : Int) : (rangeD lo hi).length = (hi - lo).toNat := by simp [rangeD]
theorem pow18 : oPow (.int 10) (.int 18) = some (.int 1000000000000000000) := by
  simp [oPow]
theorem stB1' (R : D) (own : List D) (c0 I M A B C x : Int) (s4 s5 : Sl) (κ : Ka) (hM : M ≠ 0) (hx : c0.fmod M = x) (h1 : mulOk x A = true) (h2 : mulOk I B = true) : sAsg (gNm 3) (eOp oAdd (eOp oAdd (eOp oMul (eOp oMod (eVar 3) (eC (.int M))) (eC (.int A))) (eOp oMul (eVar 2) (eC (.int B)))) (eC (.int C))) [.val R, .own own, .val (.int I), .val (.int c0), s4, s5] κ = some (.nx [.val R, .own own, .val (.int I), .val (.int (x * A + I * B + C)), s4, s5], κ) := by
  have h1 := oMul_int h1
  have h2 := oMul_int h2
  have h3 := oMod_int (i := c0) hM
  rw [hx] at h3
  simp [h1, h2, h3]
theorem stB1 (R : D) (own : List D) (c0 : Int) (I : Int) (s4 s5 : Sl) (κ : Ka) : ∃ c, sAsg (gNm 3) (eOp oAdd (eOp oAdd (eOp oMul (eOp oMod (eVar 3) (eC (.int 2147483629))) (eC (.int 48271))) (eOp oMul (eVar 2) (eC (.int 69621)))) (eC (.int 11))) [.val R, .own own, .val (.int I), .val (.int c0), s4, s5] κ = some (.nx [.val R, .own own, .val (.int I), .val (.int c), s4, s5], κ) :=
  ⟨_, stB1' R own c0 I 2147483629 48271 69621 11 (c0.fmod 2147483629) s4 s5 κ (by omega) (Eq.refl _) (mulOk_r (by omega) (by omega)) (mulOk_r (by omega) (by omega))⟩
theorem stB2 (R : D) (own : List D) (I c : Int) (J : Int) (s5 : Sl) (κ : Ka) : sAsg (gNm 3) (eOp oMod (eOp oAdd (eOp oAdd (eOp oMul (eVar 3) (eC (.int 16807))) (eC (.int 12345))) (eVar 4)) (eC (.int 2147483647))) [.val R, .own own, .val (.int I), .val (.int c), .val (.int J), s5] κ = some (.nx [.val R, .own own, .val (.int I), .val (.int ((c * 16807 + 12345 + J).fmod 2147483647)), .val (.int J), s5], κ) := by
  have h1 := oMul_int (mulOk_r (i := c) (j := 16807) (by omega) (by omega))
  simp [oMod_int, h1]
theorem stB3 (R : D) (rs : List Int) (I c : Int) (J : Int) (s5 : Sl) (κ : Ka) (hl : rs.length < 100000) : sApp 1 (eOp oMod (eOp oFdiv (eVar 3) (eC (.int 7))) (eC (.int 1009))) [.val R, .own (rs.map D.int), .val (.int I), .val (.int c), .val (.int J), s5] κ = some (.nx [.val R, .own ((rs ++ [(c.fdiv 7).fmod 1009]).map D.int), .val (.int I), .val (.int c), .val (.int J), s5], κ) := by
  simp [oMod_int, oFdiv_int]; omega
theorem deal_ok (ns : List Int) (hl : ns.length ≤ 63) : ∃ r t, f__law_deal [.rol (ns.map D.int)] [] = some (.ok (dealD r t), at_ 0) := by
  suffices h : wpE (f__law_deal [.rol (ns.map D.int)] []) fun d κ => ∃ r t, d = dealD r t ∧ κ = at_ 0 by
    obtain ⟨d, κ, e, r, t, rfl, rfl⟩ := wpE_eq.mp h
    exact ⟨r, t, e⟩
  unfold f__law_deal
  refine mean_wp ?_
  have hs : slots 6 [.rol (ns.map D.int)] = [.val (.rol (ns.map D.int)), .no, .no, .no, .no, .no] := rfl
  rw [hs]
  unfold m__law_deal
  simp only [wpS_seq]
  refine wpS_atom (ρ' := [.val (.rol (ns.map D.int)), .own (([] : List Int).map D.int), .no, .no, .no, .no]) (k := []) (by simp) ?_
  have hn1 : (-4611686018427387904 : Int) ≤ (if (63 : Int) < (ns.length : Int) then (63 : Int) else (ns.length : Int)) := by split <;> omega
  have hn2 : (if (63 : Int) < (ns.length : Int) then (63 : Int) else (ns.length : Int)) < (4611686018427387904 : Int) := by split <;> omega
  refine wpS_forE (κ1 := []) (rangeD 0 (if (63 : Int) < ns.length then 63 else ns.length)) (by simp [bRange1, okR, hn1, hn2]) (fun i ρ κ => κ = [] ∧ ∃ (rs : List Int) (s2 s3 s4 : Sl), ρ = [.val (.rol (ns.map D.int)), .own (rs.map D.int), s2, s3, s4, .no] ∧ rs.length ≤ 40 * i) ⟨rfl, [], _, _, _, rfl, by simp⟩ ?_ ?_
  · rintro i d ρ κ hd ⟨rfl, rs, s2, s3, s4, rfl, hrs⟩
    obtain ⟨rfl, hi⟩ := mem_range hd
    have hi2 : i < ns.length := by split at hi <;> omega
    have hi3 : i < 63 := by omega
    refine ⟨_, rfl, ?_⟩
    simp only [wpS_seq]
    have e1 : atI (ns.map D.int) (i : Int) = some (.int ns[i]) := by
      rw [atI_get? (by omega) (by simpa using hi2), List.getElem?_map]
      rw [show ((i : Int)).toNat = i from rfl, List.getElem?_eq_getElem hi2]; rfl
    refine wpS_atom (ρ' := [.val (.rol (ns.map D.int)), .own (rs.map D.int), .val (.int (0 + (i : Int))), .val (.int (if ns[i] < 0 then -ns[i] else ns[i])), s4, .no]) (k := []) (by simp [e1]) ?_
    generalize (if ns[i] < 0 then -ns[i] else ns[i]) = c0
    rw [wpS_if]
    refine wpE_atom (a := decide ((1000000000000000000 : Int) ≤ c0)) (k := []) (by simp [pow18]) ?_
    by_cases hc : (1000000000000000000 : Int) ≤ c0
    · rw [if_pos (decide_eq_true hc)]
      refine wpS_forE (κ1 := []) (rangeD 0 40) (by simp [bRange1, okR]) (fun j ρ κ => κ = [] ∧ ∃ (rs : List Int) (c : Int) (s4 : Sl), ρ = [.val (.rol (ns.map D.int)), .own (rs.map D.int), .val (.int (0 + (i : Int))), .val (.int c), s4, .no] ∧ rs.length ≤ 40 * i + j) ⟨rfl, rs, _, _, rfl, by omega⟩ ?_ ?_
      · rintro j d ρ κ hd ⟨rfl, rs, c, s4, rfl, hrs⟩
        obtain ⟨rfl, hj⟩ := mem_range hd
        have hj2 : j < 40 := by omega
        refine ⟨_, rfl, ?_⟩
        rw [wpS_if]
        refine wpE_atom (a := decide (0 < c)) (k := []) (by simp) ?_
        by_cases hc0 : 0 < c
        · rw [if_pos (decide_eq_true hc0)]
          simp only [wpS_seq]
          refine wpS_atom (ρ' := [.val (.rol (ns.map D.int)), .own ((rs ++ [c.fmod 1009]).map D.int), .val (.int (0 + (i : Int))), .val (.int c), .val (.int (0 + (j : Int))), .no]) (k := []) ?_ ?_
          · simp [oMod_int]; omega
          · refine wpS_atom (ρ' := [.val (.rol (ns.map D.int)), .own ((rs ++ [c.fmod 1009]).map D.int), .val (.int (0 + (i : Int))), .val (.int (c.fdiv 1009)), .val (.int (0 + (j : Int))), .no]) (k := []) (by simp [oFdiv_int]) ?_
            exact ⟨rfl, _, _, _, rfl, by simp; omega⟩
        · rw [if_neg (by simp [hc0])]
          rw [wpS_next]
          exact ⟨rfl, _, _, _, rfl, by omega⟩
      · rintro ρ κ ⟨rfl, rs, c, s4, rfl, hrs⟩
        rw [range_len] at hrs
        exact ⟨rfl, rs, _, _, _, rfl, by omega⟩
    · rw [if_neg (by simp [hc])]
      simp only [wpS_seq]
      obtain ⟨c1, e2⟩ := stB1 (.rol (ns.map D.int)) (rs.map D.int) c0 (0 + (i : Int)) s4 .no []
      refine wpS_atom e2 ?_
      refine wpS_forE (κ1 := []) (rangeD 0 5) (by simp [bRange1, okR]) (fun j ρ κ => κ = [] ∧ ∃ (rs : List Int) (c : Int) (s4 : Sl), ρ = [.val (.rol (ns.map D.int)), .own (rs.map D.int), .val (.int (0 + (i : Int))), .val (.int c), s4, .no] ∧ rs.length ≤ 40 * i + j) ⟨rfl, rs, _, _, rfl, by omega⟩ ?_ ?_
      · rintro j d ρ κ hd ⟨rfl, rs, c, s4, rfl, hrs⟩
        obtain ⟨rfl, hj⟩ := mem_range hd
        have hj2 : j < 5 := by omega
        refine ⟨_, rfl, ?_⟩
        simp only [wpS_seq]
        refine wpS_atom (stB2 _ _ _ _ _ _ _) ?_
        generalize ((c * 16807 + 12345 + (0 + (j : Int))).fmod 2147483647) = c2
        refine wpS_atom (stB3 _ _ _ _ _ _ _ (by omega)) ?_
        exact ⟨rfl, _, _, _, rfl, by simp; omega⟩
      · rintro ρ κ ⟨rfl, rs, c, s4, rfl, hrs⟩
        rw [range_len] at hrs
        exact ⟨rfl, rs, _, _, _, rfl, by omega⟩
  · rintro ρ κ ⟨rfl, rs, s2, s3, s4, rfl, hrs⟩
    refine wpS_atom (ρ' := [.val (.rol (ns.map D.int)), .own (rs.map D.int), s2, s3, s4, .val (.int (rs.sum + ns.length))]) (k := []) ?_ ?_
    · simp [bSum, listK, intsOf_map]
    · refine wpS_atomR (d := dealD rs (rs.sum + ns.length)) (k := at_ 0) ?_ ⟨_, _, rfl, rfl⟩
      simp [frz, dealD, at_]
end DL
set_option Elab.async false
set_option linter.all false
set_option maxRecDepth 100000
set_option maxHeartbeats 4000000
/-! DLf: shared laws on data: sameness, equality, walked rows. -/
namespace DL
open PySem L2
/-- data that equality can be asked of, of depth at most k -/
def okD (k : Nat) (d : D) : Prop := d.nob = true ∧ PyData.canLay0 d.py = true ∧ d.py.depth ≤ k
section
variable {κ : Ka} {k : Nat} {ds es : List D} {d e : D}
theorem okD_int {i : Int} : okD k (.int i) := ⟨by simp [D.nob], by simp [D.py, PyData.canLay0], by simp [D.py, PyData.depth]⟩
theorem okD_bl {i : Bool} : okD k (.bl i) := ⟨by simp [D.nob], by simp [D.py, PyData.canLay0], by simp [D.py, PyData.depth]⟩
theorem okD_non : okD k .non := ⟨by simp [D.nob], by simp [D.py, PyData.canLay0], by simp [D.py, PyData.depth]⟩
theorem nobs_iff : ∀ ds : List D, D.nobs ds = true ↔ ∀ d ∈ ds, d.nob = true
  | [] => by simp [D.nobs]
  | d :: ds => by simp [D.nobs, nobs_iff ds]
theorem canLays_iff : ∀ ds : List D, PyData.canLayAll0 (D.pys ds) = true ↔ ∀ d ∈ ds, PyData.canLay0 d.py = true
  | [] => by simp [D.pys, PyData.canLayAll0]
  | d :: ds => by simp [D.pys, PyData.canLayAll0, canLays_iff ds]
theorem depths_iff : ∀ ds : List D, PyData.depthAll (D.pys ds) ≤ k ↔ ∀ d ∈ ds, d.py.depth ≤ k
  | [] => by simp [D.pys, PyData.depthAll]
  | d :: ds => by simp [D.pys, PyData.depthAll, Nat.max_le, depths_iff ds]
theorem okD_tup (h : ∀ d ∈ ds, okD k d) : okD (k + 1) (.tup ds) :=
  ⟨by rw [D.nob, nobs_iff]; exact fun d hd => (h d hd).1, by rw [D.py, PyData.canLay0, canLays_iff]; exact fun d hd => (h d hd).2.1,
   by rw [D.py, PyData.depth]; have := (depths_iff (k := k) ds).mpr fun d hd => (h d hd).2.2; omega⟩
theorem okD_lst (h : ∀ d ∈ ds, okD k d) : okD (k + 1) (.lst ds) :=
  ⟨by rw [D.nob, nobs_iff]; exact fun d hd => (h d hd).1, by rw [D.py, PyData.canLay0, canLays_iff]; exact fun d hd => (h d hd).2.1,
   by rw [D.py, PyData.depth]; have := (depths_iff (k := k) ds).mpr fun d hd => (h d hd).2.2; omega⟩
theorem okD_bor (h : ∀ d ∈ ds, okD k d) : okD (k + 1) (.bor ds) :=
  ⟨by rw [D.nob, nobs_iff]; exact fun d hd => (h d hd).1, by rw [D.py, PyData.canLay0, canLays_iff]; exact fun d hd => (h d hd).2.1,
   by rw [D.py, PyData.depth]; have := (depths_iff (k := k) ds).mpr fun d hd => (h d hd).2.2; omega⟩
theorem fit_of (h : okD 60 d) : d.fit = true := by
  unfold D.fit SeqAt.shaped
  simp only [Bool.and_eq_true, decide_eq_true_eq]
  exact ⟨h.1, h.2.1, by have := h.2.2; omega⟩
theorem okD_mono {m : Nat} (h : okD k d) (hm : k ≤ m) : okD m d := ⟨h.1, h.2.1, Nat.le_trans h.2.2 hm⟩
theorem cEq_of (h1 : okD 60 d) (h2 : okD 60 e) : cEq d e = some (PyData.eqv d.py e.py) := by
  unfold cEq eqD; rw [fit_of h1, fit_of h2]; rfl
theorem cNe_of (h1 : okD 60 d) (h2 : okD 60 e) : cNe d e = some (!PyData.eqv d.py e.py) := by
  unfold cNe eqD; rw [fit_of h1, fit_of h2]; rfl
theorem eqv_self (h : okD k d) : PyData.eqv d.py d.py = true := PySem.SeqAt.eqv_refl d.py h.2.1
theorem cEq_self (h : okD 60 d) : cEq d d = some true := by rw [cEq_of h h, eqv_self h]
theorem cNe_self (h : okD 60 d) : cNe d d = some false := by rw [cNe_of h h, eqv_self h]; rfl
theorem eqvAll_ints : ∀ l m : List Int, PyData.eqvAll (D.pys (l.map D.int)) (D.pys (m.map D.int)) = decide (l = m)
  | [], [] => by simp [D.pys, PyData.eqvAll]
  | [], b :: m => by simp [D.pys, PyData.eqvAll]
  | a :: l, [] => by simp [D.pys, PyData.eqvAll]
  | a :: l, b :: m => by
    simp only [D.pys, D.py, PyData.eqvAll, List.map_cons, PyData.eqv, eqvAll_ints l m, List.cons.injEq]
    by_cases h : a = b <;> simp [h]
theorem okD_ints (l : List Int) : okD 60 (.tup (l.map D.int)) := okD_mono (okD_tup (k := 0) fun d hd => by
  obtain ⟨i, _, rfl⟩ := List.mem_map.mp hd; exact okD_int) (by omega)
theorem cEq_ints (l m : List Int) : cEq (.tup (l.map D.int)) (.tup (m.map D.int)) = some (decide (l = m)) := by
  rw [cEq_of (okD_ints l) (okD_ints m), D.py, D.py, PyData.eqv, eqvAll_ints]
theorem cNe_ints (l m : List Int) : cNe (.tup (l.map D.int)) (.tup (m.map D.int)) = some (!decide (l = m)) := by
  rw [cNe_of (okD_ints l) (okD_ints m), D.py, D.py, PyData.eqv, eqvAll_ints]
theorem cEq_tup0 (l : List Int) : cEq (.tup (l.map D.int)) (.tup []) = some (decide (l = [])) := cEq_ints l []
theorem cNe_tup0 (l : List Int) : cNe (.tup (l.map D.int)) (.tup []) = some (!decide (l = [])) := cNe_ints l []
end
/-- data that _law_same finds like itself, in k turns -/
inductive Sm : Nat → D → Prop
  | int {k i} : Sm (k + 1) (.int i)
  | bl {k i} : Sm (k + 1) (.bl i)
  | str {k x} (h : PyData.strOk x = true) : Sm (k + 1) (.str x)
  | non {k} : Sm (k + 1) .non
  | tup {k ds} (h : ∀ d ∈ ds, Sm k d) (l : ds.length ≤ 16777216) : Sm (k + 1) (.tup ds)
  | lst {k ds} (h : ∀ d ∈ ds, Sm k d) (l : ds.length ≤ 16777216) : Sm (k + 1) (.lst ds)
section
variable {κ : Ka} {k : Nat} {ds es : List D} {d e : D} {α : Type}
@[simp] theorem cEq_str {x : Str} (h : PyData.strOk x = true) : cEq (.str x) (.str x) = some true :=
  cEq_self ⟨by simp [D.nob], by simpa [D.py, PyData.canLay0] using h, by simp [D.py, PyData.depth]⟩
theorem atI_nat {l : List α} {i : Nat} (h : i < l.length) : atI l (i : Int) = some l[i] := by
  rw [atI_get? (by omega) (by omega)]
  rw [show ((i : Int)).toNat = i from rfl, List.getElem?_eq_getElem h]
theorem Sm.nb : Sm k d → isBor d = false
  | .int => rfl | .bl => rfl | .str _ => rfl | .non => rfl | .tup _ _ => rfl | .lst _ _ => rfl
theorem range1_ok {j : Int} (h : -4611686018427387904 ≤ j ∧ j < 4611686018427387904) {ρ : List Sl} {n : Ev (List D)} (e : n ρ κ = some (.ok [.int j], κ)) : iRange1 n ρ κ = some (.ok (rangeD 0 j), κ) := by
  have h' : okR j := h
  simp [e, bRange1, h']
theorem range2_ok {i j : Int} (h1 : -4611686018427387904 ≤ i ∧ i < 4611686018427387904) (h2 : -4611686018427387904 ≤ j ∧ j < 4611686018427387904) {ρ : List Sl} {n : Ev (List D)} (e : n ρ κ = some (.ok [.int i, .int j], κ)) : iRange2 n ρ κ = some (.ok (rangeD i j), κ) := by
  have h1' : okR i := h1
  have h2' : okR j := h2
  simp [e, bRange2, h1', h2']
theorem same_rowT {f : List D → Ka → Re D} {ds : List D} (h : ∀ d ∈ ds, f [d, d] κ = some (.ok (.bl true), κ)) (l : ds.length ≤ 16777216) : noEr (mean 3 (m__law_same f) [.tup ds, .tup ds] κ) = some (.ok (.bl true), κ) := by
  refine eq_of_wp ?_
  refine mean_wp ?_
  show wpS (m__law_same f [.val (.tup ds), .val (.tup ds), .no] κ) _ _ _ _
  unfold m__law_same
  rw [wpS_seq, wpS_if]
  refine wpE_atom (a := true) (k := κ) (by simp) ?_
  rw [if_pos rfl]
  simp only [wpS_seq]
  refine wpS_atom (ρ' := [.val (.tup ds), .val (.tup ds), .no]) (k := κ) (by simp) ?_
  refine wpS_atom (ρ' := [.val (.tup ds), .val (.tup ds), .no]) (k := κ) (by simp) ?_
  refine wpS_forE (κ1 := κ) (rangeD 0 ds.length) (range1_ok (by omega) (by simp)) (fun i ρ κ' => κ' = κ ∧ ∃ s, ρ = [.val (.tup ds), .val (.tup ds), s]) ⟨rfl, _, rfl⟩ ?_ ?_
  · rintro i d ρ κ' hd ⟨rfl, s, rfl⟩
    obtain ⟨rfl, hi⟩ := mem_range hd
    have hi2 : i < ds.length := by omega
    refine ⟨_, rfl, ?_⟩
    refine wpS_atom (ρ' := [.val (.tup ds), .val (.tup ds), .val (.int (0 + (i : Int)))]) (k := κ') ?_ ⟨rfl, _, rfl⟩
    simp [atI_nat hi2, h ds[i] (List.getElem_mem hi2)]
  · rintro ρ κ' ⟨rfl, s, rfl⟩
    exact wpS_atomR (d := .bl true) (k := κ') (by simp) ⟨rfl, rfl⟩
theorem same_rowL {f : List D → Ka → Re D} {ds : List D} (h : ∀ d ∈ ds, f [d, d] κ = some (.ok (.bl true), κ)) (l : ds.length ≤ 16777216) : noEr (mean 3 (m__law_same f) [.lst ds, .lst ds] κ) = some (.ok (.bl true), κ) := by
  refine eq_of_wp ?_
  refine mean_wp ?_
  show wpS (m__law_same f [.val (.lst ds), .val (.lst ds), .no] κ) _ _ _ _
  unfold m__law_same
  rw [wpS_seq, wpS_if]
  refine wpE_atom (a := true) (k := κ) (by simp) ?_
  rw [if_pos rfl]
  simp only [wpS_seq]
  refine wpS_atom (ρ' := [.val (.lst ds), .val (.lst ds), .no]) (k := κ) (by simp) ?_
  refine wpS_atom (ρ' := [.val (.lst ds), .val (.lst ds), .no]) (k := κ) (by simp) ?_
  refine wpS_forE (κ1 := κ) (rangeD 0 ds.length) (range1_ok (by omega) (by simp)) (fun i ρ κ' => κ' = κ ∧ ∃ s, ρ = [.val (.lst ds), .val (.lst ds), s]) ⟨rfl, _, rfl⟩ ?_ ?_
  · rintro i d ρ κ' hd ⟨rfl, s, rfl⟩
    obtain ⟨rfl, hi⟩ := mem_range hd
    have hi2 : i < ds.length := by omega
    refine ⟨_, rfl, ?_⟩
    refine wpS_atom (ρ' := [.val (.lst ds), .val (.lst ds), .val (.int (0 + (i : Int)))]) (k := κ') ?_ ⟨rfl, _, rfl⟩
    simp [atI_nat hi2, h ds[i] (List.getElem_mem hi2)]
  · rintro ρ κ' ⟨rfl, s, rfl⟩
    exact wpS_atomR (d := .bl true) (k := κ') (by simp) ⟨rfl, rfl⟩
theorem same_refl : ∀ (k : Nat) (d : D), Sm k d → f__law_sameN k [d, d] κ = some (.ok (.bl true), κ)
  | k + 1, _, .int => by simp [f__law_sameN, m__law_same, mean, slots, List.replicate]
  | k + 1, _, .bl => by simp [f__law_sameN, m__law_same, mean, slots, List.replicate]
  | k + 1, _, .str h => by simp [f__law_sameN, m__law_same, mean, slots, List.replicate, cEq_str h]
  | k + 1, _, .non => by simp [f__law_sameN, m__law_same, mean, slots, List.replicate, cIs, isNon]
  | k + 1, _, .tup h l => same_rowT (fun d hd => same_refl k d (h d hd)) l
  | k + 1, _, .lst h l => same_rowL (fun d hd => same_refl k d (h d hd)) l
theorem same_ok (h : Sm 12 d) : f__law_same [d, d] κ = some (.ok (.bl true), κ) := same_refl 12 d h
@[simp] theorem same_int {i : Int} : f__law_same [.int i, .int i] κ = some (.ok (.bl true), κ) := same_ok .int
@[simp] theorem bool_ok {a b : Bool} : f__law_bool [.bl a, .bl b] κ = some (.ok (.bl (a == b)), κ) := by
  simp [f__law_bool, m__law_bool, mean, slots, List.replicate]
theorem Sm.ints {k : Nat} (l : List Int) (h : l.length ≤ 16777216) : Sm (k + 2) (.tup (l.map D.int)) :=
  .tup (fun d hd => by obtain ⟨i, _, rfl⟩ := List.mem_map.mp hd; exact .int) (by simpa using h)
@[simp] theorem wipeR_nil {ρ : List Sl} : wipeR ρ [] = ρ := rfl
@[simp] theorem wipeR_cons {ρ : List Sl} {v : Nat} {vs : List Nat} : wipeR ρ (v :: vs) = (wipeR ρ vs).set v .no := rfl
/-! greatest and least of a row -/
theorem bMax_ok {l : List Int} {b : Bool} (h : l ≠ []) : ∃ m, bMax κ [if b then .bor (l.map D.int) else .lst (l.map D.int)] = some (.int m) ∧ m ∈ l ∧ ∀ x ∈ l, x ≤ m := by
  obtain ⟨m, e⟩ := maxL_some (ns := l) (by cases l; exact absurd rfl h; simp)
  refine ⟨m, ?_, maxL_mem e⟩
  cases b <;> simp [bMax, listK, intsOf_map, e]
theorem bMin_ok {l : List Int} {b : Bool} (h : l ≠ []) : ∃ m, bMin κ [if b then .bor (l.map D.int) else .lst (l.map D.int)] = some (.int m) ∧ m ∈ l ∧ ∀ x ∈ l, m ≤ x := by
  obtain ⟨m, e⟩ := minL_some (ns := l) (by cases l; exact absurd rfl h; simp)
  refine ⟨m, ?_, minL_mem e⟩
  cases b <;> simp [bMin, listK, intsOf_map, e]
@[simp] theorem oAdd_tup {a b : List D} (h : a.length + b.length ≤ 16777216) : oAdd (.tup a) (.tup b) = some (.tup (a ++ b)) := by simp [oAdd, h]
@[simp] theorem oAdd_lst {a b : List D} (h : a.length + b.length ≤ 16777216) : oAdd (.lst a) (.lst b) = some (.lst (a ++ b)) := by simp [oAdd, h]
end
/-- a row told by its places -/
def tab (n : Nat) (F : Int → D) : List D := (List.range n).map fun (k : Nat) => F (k : Int)
section
variable {n : Nat} {F G : Int → D} {i lo hi : Int}
@[simp] theorem tab_len : (tab n F).length = n := by simp [tab]
theorem tab_at (h0 : 0 ≤ i) (h1 : i < n) : atI (tab n F) i = some (F i) := by
  rw [atI_get? h0 (by simpa using h1)]
  unfold tab
  rw [List.getElem?_map, List.getElem?_range (by omega)]
  simp [Int.toNat_of_nonneg h0]
theorem tab_mem {d : D} : d ∈ tab n F ↔ ∃ i : Int, 0 ≤ i ∧ i < n ∧ d = F i := by
  unfold tab
  simp only [List.mem_map, List.mem_range]
  constructor
  · rintro ⟨k, hk, rfl⟩; exact ⟨k, by omega, by omega, rfl⟩
  · rintro ⟨i, h0, h1, rfl⟩; exact ⟨i.toNat, by omega, by rw [Int.toNat_of_nonneg h0]⟩
theorem tab_map (f : D → D) : (tab n F).map f = tab n fun i => f (F i) := by simp [tab]
theorem range_tab : rangeD lo hi = tab (hi - lo).toNat fun i => .int (lo + i) := rfl
theorem tab_congr (h : ∀ i : Int, 0 ≤ i → i < n → F i = G i) : tab n F = tab n G := by
  unfold tab
  refine List.map_congr_left fun k hk => ?_
  exact h k (by omega) (by have := List.mem_range.mp hk; omega)
theorem tab_succ : tab (n + 1) F = tab n F ++ [F n] := by simp [tab, List.range_succ]
theorem tab_get? {k : Nat} {d : D} (h : (tab n F)[k]? = some d) : k < n ∧ d = F k := by
  unfold tab at h
  rw [List.getElem?_map] at h
  obtain ⟨j, hj, rfl⟩ := Option.map_eq_some_iff.mp h
  obtain ⟨h1, h2⟩ := List.getElem?_eq_some_iff.mp hj
  rw [List.getElem_range] at h2
  subst h2
  exact ⟨by simpa using h1, rfl⟩
end
theorem ints_tab (l : List Int) : l.map D.int = tab l.length fun i => .int (l.getD i.toNat 0) := by
  apply List.ext_getElem
  · simp
  · intro i h1 h2
    have h3 : i < l.length := by simpa using h1
    simp [tab, h3]
theorem tab_ints {n : Nat} {F : Int → Int} : (tab n fun i => .int (F i)) = ((List.range n).map fun (k : Nat) => F (k : Int)).map D.int := by simp [tab]
end DL
set_option Elab.async false
set_option linter.all false
set_option maxRecDepth 100000
namespace K82
open PySem L2 DL
/-- is_kind: slots 0 kind, 1 p, 2 q, 3 r, 4 s -/
def m_is_kind : Es := (sSeq (sAsg (gTu 4 (gsCons (gNm 1) (gsCons (gNm 2) (gsCons (gNm 3) (gsCons (gNm 4) gsNil))))) (eVar 0))
      (sRet (eAnd (eChain3 cLe cLe cLe (eC (.int 1)) (eVar 1) (eVar 2) (eC (.int (10000)))) (eChain3 cLe cLe cLe (eC (.int 1)) (eVar 4) (eVar 3) (eC (.int (10000)))))))
def f_is_kind (ds : List DL.D) (κ : Ka) : Re DL.D := noEr (mean 5 m_is_kind ds κ)
/-- least_minutes: slots 0 kind, 1 ticks -/
def m_least_minutes : Es := (sRet (eOp oFdiv (eOp oMul (eVar 1) (eIdx (eVar 0) (eC (.int 0)))) (eIdx (eVar 0) (eC (.int 1)))))
def f_least_minutes (ds : List DL.D) (κ : Ka) : Re DL.D := noEr (mean 2 m_least_minutes ds κ)
/-- most_minutes: slots 0 kind, 1 ticks -/
def m_most_minutes : Es := (sRet (eNeg (eOp oFdiv (eOp oMul (eNeg (eVar 1)) (eIdx (eVar 0) (eC (.int 2)))) (eIdx (eVar 0) (eC (.int 3))))))
def f_most_minutes (ds : List DL.D) (κ : Ka) : Re DL.D := noEr (mean 2 m_most_minutes ds κ)
/-- most_ticks: slots 0 kind, 1 minutes, 2 p, 3 q, 4 r, 5 s -/
def m_most_ticks : Es := (sSeq (sAsg (gTu 4 (gsCons (gNm 2) (gsCons (gNm 3) (gsCons (gNm 4) (gsCons (gNm 5) gsNil))))) (eVar 0))
      (sRet (eIf (bCmp cGe (eVar 1) (eC (.int 0))) (eOp oFdiv (eOp oMul (eVar 1) (eVar 5)) (eVar 4)) (eOp oFdiv (eOp oMul (eVar 1) (eVar 3)) (eVar 2)))))
def f_most_ticks (ds : List DL.D) (κ : Ka) : Re DL.D := noEr (mean 6 m_most_ticks ds κ)
/-- is_clock: slots 0 kind, 1 clock, 2 a, 3 b -/
def m_is_clock : Es := (sSeq (sIf (bOr (bCmp cEq (eVar 1) (eTup aNil)) (bCmp cNe (eIdx (eVar 1) (eC (.int 0))) (eC (.int 0)))) (sRet (eC (.bl false))) sNext)
      (sSeq (sForE (iRange1 (aCons (eBi bLen (aCons (eVar 1) aNil)) aNil)) (gNm 2) (sForE (iRange2 (aCons (eOp oAdd (eVar 2) (eC (.int 1))) (aCons (eBi bLen (aCons (eVar 1) aNil)) aNil))) (gNm 3) (sIf (bNot (bChain cLe cLe (eCall 2 f_least_minutes (aCons (eVar 0) (aCons (eOp oSub (eVar 3) (eVar 2)) aNil))) (eOp oSub (eIdx (eVar 1) (eVar 3)) (eIdx (eVar 1) (eVar 2))) (eCall 2 f_most_minutes (aCons (eVar 0) (aCons (eOp oSub (eVar 3) (eVar 2)) aNil))))) (sRet (eC (.bl false))) sNext)))
      (sRet (eC (.bl true)))))
def f_is_clock (ds : List DL.D) (κ : Ka) : Re DL.D := noEr (mean 4 m_is_clock ds κ)
/-- slow_clock: slots 0 kind, 1 phase, 2 last, 3 _, 4 r, 5 s, 6 tick -/
def m_slow_clock : Es := (sSeq (sAsg (gTu 4 (gsCons (gNm 3) (gsCons (gNm 3) (gsCons (gNm 4) (gsCons (gNm 5) gsNil))))) (eVar 0))
      (sRet (eBi bTuple (aCons (eFr (eComp [6] (iRange1 (aCons (eOp oAdd (eVar 2) (eC (.int 1))) aNil)) (gNm 6) bYes (eNeg (eOp oFdiv (eOp oSub (eVar 1) (eOp oMul (eVar 6) (eVar 4))) (eVar 5))))) aNil))))
def f_slow_clock (ds : List DL.D) (κ : Ka) : Re DL.D := noEr (mean 7 m_slow_clock ds κ)
/-- fast_clock: slots 0 kind, 1 phase, 2 last, 3 p, 4 q, 5 _, 6 tick -/
def m_fast_clock : Es := (sSeq (sAsg (gTu 4 (gsCons (gNm 3) (gsCons (gNm 4) (gsCons (gNm 5) (gsCons (gNm 5) gsNil))))) (eVar 0))
      (sRet (eBi bTuple (aCons (eFr (eComp [6] (iRange1 (aCons (eOp oAdd (eVar 2) (eC (.int 1))) aNil)) (gNm 6) bYes (eOp oFdiv (eOp oAdd (eOp oMul (eVar 6) (eVar 3)) (eVar 1)) (eVar 4)))) aNil))))
def f_fast_clock (ds : List DL.D) (κ : Ka) : Re DL.D := noEr (mean 7 m_fast_clock ds κ)
/-- slowest_from: slots 0 kind, 1 tick, 2 last -/
def m_slowest_from : Es := (sRet (eCall 3 f_slow_clock (aCons (eVar 0) (aCons (eOp oMod (eOp oMul (eVar 1) (eIdx (eVar 0) (eC (.int 2)))) (eIdx (eVar 0) (eC (.int 3)))) (aCons (eVar 2) aNil)))))
def f_slowest_from (ds : List DL.D) (κ : Ka) : Re DL.D := noEr (mean 3 m_slowest_from ds κ)
/-- fastest_from: slots 0 kind, 1 tick, 2 last -/
def m_fastest_from : Es := (sRet (eCall 3 f_fast_clock (aCons (eVar 0) (aCons (eOp oMod (eOp oMul (eNeg (eVar 1)) (eIdx (eVar 0) (eC (.int 0)))) (eIdx (eVar 0) (eC (.int 1)))) (aCons (eVar 2) aNil)))))
def f_fastest_from (ds : List DL.D) (κ : Ka) : Re DL.D := noEr (mean 3 m_fastest_from ds κ)
/-- _law_deal: slots 0 script, 1 row, 2 k, 3 cell, 4 turn, 5 total -/
def m__law_deal : Es := (sSeq (sOwn 1 (fLst aNil))
      (sSeq (sForE (iRange1 (aCons (eBi bMin (aCons (eBi bLen (aCons (eVar 0) aNil)) (aCons (eC (.int 63)) aNil))) aNil)) (gNm 2) (sSeq (sAsg (gNm 3) (eBi bAbs (aCons (eBi bInt (aCons (eIdx (eVar 0) (eVar 2)) aNil)) aNil)))
      (sIf (bCmp cGe (eVar 3) (eOp oPow (eC (.int 10)) (eC (.int 18)))) (sForE (iRange1 (aCons (eC (.int 40)) aNil)) (gNm 4) (sIf (bCmp cGt (eVar 3) (eC (.int 0))) (sSeq (sApp 1 (eOp oMod (eVar 3) (eC (.int 1009))))
      (sAsg (gNm 3) (eOp oFdiv (eVar 3) (eC (.int 1009))))) sNext)) (sSeq (sAsg (gNm 3) (eOp oAdd (eOp oAdd (eOp oMul (eOp oMod (eVar 3) (eC (.int 2147483629))) (eC (.int 48271))) (eOp oMul (eVar 2) (eC (.int 69621)))) (eC (.int 11))))
      (sForE (iRange1 (aCons (eC (.int 5)) aNil)) (gNm 4) (sSeq (sAsg (gNm 3) (eOp oMod (eOp oAdd (eOp oAdd (eOp oMul (eVar 3) (eC (.int 16807))) (eC (.int 12345))) (eVar 4)) (eC (.int 2147483647))))
      (sApp 1 (eOp oMod (eOp oFdiv (eVar 3) (eC (.int 7))) (eC (.int 1009))))))))))
      (sSeq (sAsg (gNm 5) (eOp oAdd (eBi bSum (aCons (eVar 1) aNil)) (eBi bLen (aCons (eVar 0) aNil))))
      (sFrz 1 (sRet (eFr (fLst (aCons (eVar 1) (aCons (eSt (fLst (aCons (eC (.int 0)) aNil))) (aCons (eVar 5) aNil))))))))))
def f__law_deal (ds : List DL.D) (κ : Ka) : Re DL.D := noEr (mean 6 m__law_deal ds κ)
/-- _law_take: slots 0 deal, 1 many, 2 at, 3 cell, 4 turn -/
def m__law_take : Es := (sSeq (sAsg (gNm 2) (eIdx (eIdx (eVar 0) (eC (.int 1))) (eC (.int 0))))
      (sSeq (sSetO (eIdx (eVar 0) (eC (.int 1))) (eC (.int 0)) (eOp oAdd (eVar 2) (eC (.int 1))))
      (sSeq (sIf (bCmp cLt (eVar 2) (eBi bLen (aCons (eIdx (eVar 0) (eC (.int 0))) aNil))) (sRet (eOp oMod (eIdx (eIdx (eVar 0) (eC (.int 0))) (eVar 2)) (eVar 1))) sNext)
      (sSeq (sAsg (gNm 3) (eOp oMod (eOp oAdd (eOp oAdd (eOp oMul (eVar 2) (eC (.int 7919))) (eOp oMul (eIdx (eVar 0) (eC (.int 2))) (eC (.int 31)))) (eC (.int 17))) (eC (.int 2147483629))))
      (sSeq (sForE (iRange1 (aCons (eC (.int 3)) aNil)) (gNm 4) (sAsg (gNm 3) (eOp oMod (eOp oAdd (eOp oAdd (eOp oMul (eVar 3) (eVar 3)) (eOp oMul (eC (.int 48271)) (eVar 2))) (eC (.int 12345))) (eC (.int 2147483647)))))
      (sRet (eOp oMod (eOp oFdiv (eVar 3) (eC (.int 7))) (eVar 1))))))))
def f__law_take (ds : List DL.D) (κ : Ka) : Re DL.D := noEr (mean 5 m__law_take ds κ)
/-- _law_same: slots 0 a, 1 b, 2 k -/
def m__law_same (self : List DL.D → Ka → Re DL.D) : Es := (sSeq (sIf (bOr (bOf (eIsi "tuple" (eVar 1))) (bOf (eIsi "list" (eVar 1)))) (sSeq (sIf (bOr (bAnd (bOf (eIsi "tuple" (eVar 1))) (bNot (bOf (eIsi "tuple" (eVar 0))))) (bAnd (bOf (eIsi "list" (eVar 1))) (bNot (bOf (eIsi "list" (eVar 0)))))) (sRet (eC (.bl false))) sNext)
      (sSeq (sIf (bCmp cNe (eBi bLen (aCons (eVar 0) aNil)) (eBi bLen (aCons (eVar 1) aNil))) (sRet (eC (.bl false))) sNext)
      (sSeq (sForE (iRange1 (aCons (eBi bLen (aCons (eVar 1) aNil)) aNil)) (gNm 2) (sIf (bNot (bOf (eCall 2 self (aCons (eIdx (eVar 0) (eVar 2)) (aCons (eIdx (eVar 1) (eVar 2)) aNil))))) (sRet (eC (.bl false))) sNext))
      (sRet (eC (.bl true)))))) sNext)
      (sSeq (sIf (bOr (bOf (eIsi "bool" (eVar 0))) (bOf (eIsi "bool" (eVar 1)))) (sRet (eAnd (eIsi "bool" (eVar 0)) (eAnd (eIsi "bool" (eVar 1)) (eCmp cEq (eVar 0) (eVar 1))))) sNext)
      (sSeq (sIf (bOf (eIsi "int" (eVar 1))) (sRet (eAnd (eIsi "int" (eVar 0)) (eCmp cEq (eVar 0) (eVar 1)))) sNext)
      (sSeq (sIf (bOf (eIsi "str" (eVar 1))) (sRet (eAnd (eIsi "str" (eVar 0)) (eCmp cEq (eVar 0) (eVar 1)))) sNext)
      (sRet (eAnd (eCmp cIs (eVar 0) (eC .non)) (eCmp cIs (eVar 1) (eC .non))))))))
def f__law_sameN : Nat → List DL.D → Ka → Re DL.D
  | 0 => fun _ _ => none
  | k + 1 => fun ds κ => noEr (mean 3 (m__law_same (f__law_sameN k)) ds κ)
def f__law_same : List DL.D → Ka → Re DL.D := f__law_sameN 12
/-- _law_bool: slots 0 answer, 1 due -/
def m__law_bool : Es := (sRet (eAnd (eIsi "bool" (eVar 0)) (eCmp cEq (eVar 0) (eVar 1))))
def f__law_bool (ds : List DL.D) (κ : Ka) : Re DL.D := noEr (mean 2 m__law_bool ds κ)
/-- _law_kind: slots 0 deal, 1 way, 2 q, 3 s -/
def m__law_kind : Es := (sSeq (sAsg (gNm 1) (eCall 2 f__law_take (aCons (eVar 0) (aCons (eC (.int 6)) aNil))))
      (sSeq (sIf (bCmp cEq (eVar 1) (eC (.int 0))) (sRet (eTup (aCons (eC (.int 1)) (aCons (eC (.int 1)) (aCons (eC (.int 1)) (aCons (eC (.int 1)) aNil)))))) sNext)
      (sSeq (sIf (bCmp cEq (eVar 1) (eC (.int 1))) (sRet (eTup (aCons (eOp oSub (eC (.int 100)) (eCall 2 f__law_take (aCons (eVar 0) (aCons (eC (.int 60)) aNil)))) (aCons (eC (.int 100)) (aCons (eOp oAdd (eC (.int 100)) (eCall 2 f__law_take (aCons (eVar 0) (aCons (eC (.int 90)) aNil)))) (aCons (eC (.int 100)) aNil)))))) sNext)
      (sSeq (sIf (bCmp cEq (eVar 1) (eC (.int 2))) (sRet (eTup (aCons (eC (.int 1)) (aCons (eOp oAdd (eC (.int 1)) (eCall 2 f__law_take (aCons (eVar 0) (aCons (eC (.int 3)) aNil)))) (aCons (eOp oAdd (eC (.int 1)) (eCall 2 f__law_take (aCons (eVar 0) (aCons (eC (.int 3)) aNil)))) (aCons (eC (.int 1)) aNil)))))) sNext)
      (sSeq (sAsg (gNm 2) (eOp oAdd (eC (.int 1)) (eCall 2 f__law_take (aCons (eVar 0) (aCons (eC (.int 12)) aNil)))))
      (sSeq (sAsg (gNm 3) (eOp oAdd (eC (.int 1)) (eCall 2 f__law_take (aCons (eVar 0) (aCons (eC (.int 12)) aNil)))))
      (sRet (eTup (aCons (eOp oAdd (eC (.int 1)) (eCall 2 f__law_take (aCons (eVar 0) (aCons (eVar 2) aNil)))) (aCons (eVar 2) (aCons (eOp oAdd (eVar 3) (eCall 2 f__law_take (aCons (eVar 0) (aCons (eC (.int 9)) aNil)))) (aCons (eVar 3) aNil))))))))))))
def f__law_kind (ds : List DL.D) (κ : Ka) : Re DL.D := noEr (mean 4 m__law_kind ds κ)
/-- _law_low: slots 0 kind, 1 ticks -/
def m__law_low : Es := (sRet (eOp oFdiv (eOp oMul (eVar 1) (eIdx (eVar 0) (eC (.int 0)))) (eIdx (eVar 0) (eC (.int 1)))))
def f__law_low (ds : List DL.D) (κ : Ka) : Re DL.D := noEr (mean 2 m__law_low ds κ)
/-- _law_high: slots 0 kind, 1 ticks -/
def m__law_high : Es := (sRet (eOp oFdiv (eOp oSub (eOp oAdd (eOp oMul (eVar 1) (eIdx (eVar 0) (eC (.int 2)))) (eIdx (eVar 0) (eC (.int 3)))) (eC (.int 1))) (eIdx (eVar 0) (eC (.int 3)))))
def f__law_high (ds : List DL.D) (κ : Ka) : Re DL.D := noEr (mean 2 m__law_high ds κ)
/-- _law_is_clock: slots 0 kind, 1 clock, 2 a, 3 b, 4 gap -/
def m__law_is_clock : Es := (sSeq (sIf (bOr (bCmp cEq (eBi bLen (aCons (eVar 1) aNil)) (eC (.int 0))) (bCmp cNe (eIdx (eVar 1) (eC (.int 0))) (eC (.int 0)))) (sRet (eC (.bl false))) sNext)
      (sSeq (sForE (iRange1 (aCons (eBi bLen (aCons (eVar 1) aNil)) aNil)) (gNm 2) (sForE (iRange2 (aCons (eOp oAdd (eVar 2) (eC (.int 1))) (aCons (eBi bLen (aCons (eVar 1) aNil)) aNil))) (gNm 3) (sSeq (sAsg (gNm 4) (eOp oSub (eIdx (eVar 1) (eVar 3)) (eIdx (eVar 1) (eVar 2))))
      (sIf (bOr (bCmp cLt (eVar 4) (eCall 2 f__law_low (aCons (eVar 0) (aCons (eOp oSub (eVar 3) (eVar 2)) aNil)))) (bCmp cGt (eVar 4) (eCall 2 f__law_high (aCons (eVar 0) (aCons (eOp oSub (eVar 3) (eVar 2)) aNil))))) (sRet (eC (.bl false))) sNext))))
      (sRet (eC (.bl true)))))
def f__law_is_clock (ds : List DL.D) (κ : Ka) : Re DL.D := noEr (mean 5 m__law_is_clock ds κ)
/-- _law_clock: slots 0 deal, 1 kind, 2 last, 3 found, 4 way, 5 c, 6 low, 7 high, 8 a -/
def m__law_clock : Es := (sSeq (sOwn 3 (fLst (aCons (eC (.int 0)) aNil)))
      (sSeq (sAsg (gNm 4) (eCall 2 f__law_take (aCons (eVar 0) (aCons (eC (.int 3)) aNil))))
      (sSeq (sForE (iRange2 (aCons (eC (.int 1)) (aCons (eOp oAdd (eVar 2) (eC (.int 1))) aNil))) (gNm 5) (sSeq (sAsg (gNm 6) (eBi bMax (aCons (eFr (eComp [8] (iRange1 (aCons (eVar 5) aNil)) (gNm 8) bYes (eOp oAdd (eIdx (eVar 3) (eVar 8)) (eCall 2 f__law_low (aCons (eVar 1) (aCons (eOp oSub (eVar 5) (eVar 8)) aNil)))))) aNil)))
      (sSeq (sAsg (gNm 7) (eBi bMin (aCons (eFr (eComp [8] (iRange1 (aCons (eVar 5) aNil)) (gNm 8) bYes (eOp oAdd (eIdx (eVar 3) (eVar 8)) (eCall 2 f__law_high (aCons (eVar 1) (aCons (eOp oSub (eVar 5) (eVar 8)) aNil)))))) aNil)))
      (sApp 3 (eIdx (eFr (fLst (aCons (eVar 6) (aCons (eVar 7) (aCons (eOp oAdd (eVar 6) (eCall 2 f__law_take (aCons (eVar 0) (aCons (eOp oAdd (eBi bMin (aCons (eOp oSub (eVar 7) (eVar 6)) (aCons (eC (.int 900)) aNil))) (eC (.int 1))) aNil)))) aNil))))) (eIf (bCmp cEq (eVar 4) (eC (.int 0))) (eCall 2 f__law_take (aCons (eVar 0) (aCons (eC (.int 3)) aNil))) (eVar 4)))))))
      (sRet (eBi bTuple (aCons (eVar 3) aNil))))))
def f__law_clock (ds : List DL.D) (κ : Ka) : Re DL.D := noEr (mean 9 m__law_clock ds κ)
/-- _law_form: slots 0 kind, 1 p, 2 q, 3 r, 4 s -/
def m__law_form : Es := (sSeq (sAsg (gTu 4 (gsCons (gNm 1) (gsCons (gNm 2) (gsCons (gNm 3) (gsCons (gNm 4) gsNil))))) (eVar 0))
      (sSeq (sIf (bOr (bCmp cLt (eVar 1) (eC (.int 1))) (bOr (bCmp cLt (eVar 4) (eC (.int 1))) (bOr (bCmp cGt (eVar 1) (eVar 2)) (bCmp cGt (eVar 4) (eVar 3))))) (sRet (eC (.bl false))) sNext)
      (sRet (eAnd (eCmp cLe (eVar 2) (eC (.int 10000))) (eCmp cLe (eVar 3) (eC (.int 10000)))))))
def f__law_form (ds : List DL.D) (κ : Ka) : Re DL.D := noEr (mean 5 m__law_form ds κ)
/-- _law_forms: slots 0 kind, 1 p, 2 q, 3 r, 4 s, 5 odds, 6 odd -/
def m__law_forms : Es := (sSeq (sAsg (gTu 4 (gsCons (gNm 1) (gsCons (gNm 2) (gsCons (gNm 3) (gsCons (gNm 4) gsNil))))) (eVar 0))
      (sSeq (sAsg (gNm 5) (eFr (fLst (aCons (eVar 0) (aCons (eTup (aCons (eVar 2) (aCons (eVar 1) (aCons (eVar 3) (aCons (eVar 4) aNil))))) (aCons (eTup (aCons (eVar 1) (aCons (eVar 2) (aCons (eVar 4) (aCons (eVar 3) aNil))))) (aCons (eTup (aCons (eC (.int 0)) (aCons (eVar 2) (aCons (eVar 3) (aCons (eVar 4) aNil))))) (aCons (eTup (aCons (eVar 1) (aCons (eVar 2) (aCons (eVar 3) (aCons (eC (.int 0)) aNil))))) (aCons (eTup (aCons (eVar 1) (aCons (eC (.int 0)) (aCons (eVar 3) (aCons (eVar 4) aNil))))) (aCons (eTup (aCons (eVar 1) (aCons (eVar 2) (aCons (eC (.int 0)) (aCons (eVar 4) aNil))))) (aCons (eTup (aCons (eNeg (eVar 1)) (aCons (eVar 2) (aCons (eVar 3) (aCons (eVar 4) aNil))))) (aCons (eTup (aCons (eVar 1) (aCons (eC (.int 10000)) (aCons (eC (.int 10000)) (aCons (eVar 4) aNil))))) (aCons (eTup (aCons (eVar 1) (aCons (eC (.int 10001)) (aCons (eVar 3) (aCons (eVar 4) aNil))))) aNil)))))))))))))
      (sSeq (sAsg (gNm 5) (eOp oAdd (eVar 5) (eFr (fLst (aCons (eTup (aCons (eVar 1) (aCons (eVar 2) (aCons (eC (.int 10001)) (aCons (eVar 4) aNil))))) (aCons (eTup (aCons (eOp oAdd (eVar 2) (eC (.int 1))) (aCons (eVar 2) (aCons (eVar 3) (aCons (eVar 4) aNil))))) (aCons (eTup (aCons (eVar 1) (aCons (eVar 2) (aCons (eOp oSub (eVar 4) (eC (.int 1))) (aCons (eVar 4) aNil))))) (aCons (eTup (aCons (eVar 2) (aCons (eVar 2) (aCons (eVar 4) (aCons (eVar 4) aNil))))) (aCons (eTup (aCons (eC (.int 10000)) (aCons (eC (.int 10000)) (aCons (eC (.int 10000)) (aCons (eC (.int 10000)) aNil))))) (aCons (eTup (aCons (eC (.int 10001)) (aCons (eC (.int 10001)) (aCons (eVar 3) (aCons (eVar 4) aNil))))) (aCons (eTup (aCons (eVar 1) (aCons (eVar 2) (aCons (eC (.int 10001)) (aCons (eC (.int 10001)) aNil))))) aNil)))))))))))
      (sRet (eCmp cEq (eBi bLen (aCons (eFr (eComp [6] (iAny true (eVar 5)) (gNm 6) (bNot (bOf (eCall 2 f__law_bool (aCons (eCall 1 f_is_kind (aCons (eVar 6) aNil)) (aCons (eCall 1 f__law_form (aCons (eVar 6) aNil)) aNil))))) (eC (.int 1)))) aNil)) (eC (.int 0)))))))
def f__law_forms (ds : List DL.D) (κ : Ka) : Re DL.D := noEr (mean 7 m__law_forms ds κ)
/-- _law_greatest: slots 0 kind, 1 ticks -/
def m__law_greatest : Es := (sRet (eIf (bCmp cGe (eVar 1) (eC (.int 0))) (eCall 2 f__law_high (aCons (eVar 0) (aCons (eVar 1) aNil))) (eOp oSub (eC (.int 0)) (eCall 2 f__law_low (aCons (eVar 0) (aCons (eOp oSub (eC (.int 0)) (eVar 1)) aNil))))))
def f__law_greatest (ds : List DL.D) (κ : Ka) : Re DL.D := noEr (mean 2 m__law_greatest ds κ)
/-- _law_counts: slots 0 deal, 1 kind, 2 ticks, 3 minutes, 4 told -/
def m__law_counts : Es := (sSeq (sForE (iAny false (eFr (fLst (aCons (eC (.int 0)) (aCons (eC (.int 1)) (aCons (eC (.int 2)) (aCons (eCall 2 f__law_take (aCons (eVar 0) (aCons (eC (.int 40)) aNil))) (aCons (eOp oAdd (eC (.int 10000)) (eCall 2 f__law_take (aCons (eVar 0) (aCons (eC (.int 1000)) aNil)))) aNil)))))))) (gNm 2) (sIf (bOr (bNot (bOf (eCall 2 f__law_same (aCons (eCall 2 f_least_minutes (aCons (eVar 1) (aCons (eVar 2) aNil))) (aCons (eCall 2 f__law_low (aCons (eVar 1) (aCons (eVar 2) aNil))) aNil))))) (bNot (bOf (eCall 2 f__law_same (aCons (eCall 2 f_most_minutes (aCons (eVar 1) (aCons (eVar 2) aNil))) (aCons (eCall 2 f__law_high (aCons (eVar 1) (aCons (eVar 2) aNil))) aNil)))))) (sRet (eC (.bl false))) sNext))
      (sSeq (sForE (iAny false (eFr (fLst (aCons (eC (.int 0)) (aCons (eC (.int 1)) (aCons (eNeg (eC (.int 1))) (aCons (eCall 2 f__law_take (aCons (eVar 0) (aCons (eC (.int 60)) aNil))) (aCons (eOp oSub (eC (.int 0)) (eCall 2 f__law_take (aCons (eVar 0) (aCons (eC (.int 60)) aNil)))) (aCons (eC (.int 100000)) (aCons (eNeg (eC (.int 100000))) aNil)))))))))) (gNm 3) (sSeq (sAsg (gNm 4) (eCall 2 f_most_ticks (aCons (eVar 1) (aCons (eVar 3) aNil))))
      (sSeq (sIf (bOr (bNot (bOf (eIsi "int" (eVar 4)))) (bOf (eIsi "bool" (eVar 4)))) (sRet (eC (.bl false))) sNext)
      (sIf (bOr (bCmp cGt (eCall 2 f__law_greatest (aCons (eVar 1) (aCons (eVar 4) aNil))) (eVar 3)) (bCmp cLe (eCall 2 f__law_greatest (aCons (eVar 1) (aCons (eOp oAdd (eVar 4) (eC (.int 1))) aNil))) (eVar 3))) (sRet (eC (.bl false))) sNext))))
      (sRet (eC (.bl true)))))
def f__law_counts (ds : List DL.D) (κ : Ka) : Re DL.D := noEr (mean 5 m__law_counts ds κ)
/-- _law_bent: slots 0 deal, 1 kind, 2 clock, 3 found, 4 turn, 5 k, 6 by, 7 t -/
def m__law_bent : Es := (sSeq (sOwn 3 (fLst (aCons (eTup aNil) (aCons (eOp oAdd (eTup (aCons (eC (.int 1)) aNil)) (eCut (eVar 2) (sSome (eC (.int 1))) sNone)) (aCons (eCut (eVar 2) (sSome (eC (.int 1))) sNone) (aCons (eOp oAdd (eVar 2) (eTup (aCons (eOp oSub (eIdx (eVar 2) (eNeg (eC (.int 1)))) (eC (.int 1))) aNil))) (aCons (eTup (aCons (eC (.int 0)) aNil)) (aCons (eOp oAdd (eVar 2) (eTup (aCons (eOp oAdd (eIdx (eVar 2) (eNeg (eC (.int 1)))) (eCall 2 f__law_high (aCons (eVar 1) (aCons (eC (.int 1)) aNil)))) aNil))) (aCons (eOp oAdd (eVar 2) (eTup (aCons (eOp oAdd (eOp oAdd (eIdx (eVar 2) (eNeg (eC (.int 1)))) (eCall 2 f__law_high (aCons (eVar 1) (aCons (eC (.int 1)) aNil)))) (eC (.int 1))) aNil))) aNil)))))))))
      (sSeq (sForE (iRange1 (aCons (eC (.int 4)) aNil)) (gNm 4) (sSeq (sAsg (gNm 5) (eCall 2 f__law_take (aCons (eVar 0) (aCons (eBi bLen (aCons (eVar 2) aNil)) aNil))))
      (sForE (iAny false (eFr (fLst (aCons (eC (.int 1)) (aCons (eNeg (eC (.int 1))) aNil))))) (gNm 6) (sSeq (sApp 3 (eOp oAdd (eOp oAdd (eCut (eVar 2) sNone (sSome (eVar 5))) (eTup (aCons (eOp oAdd (eIdx (eVar 2) (eVar 5)) (eVar 6)) aNil))) (eCut (eVar 2) (sSome (eOp oAdd (eVar 5) (eC (.int 1)))) sNone)))
      (sApp 3 (eOp oAdd (eCut (eVar 2) sNone (sSome (eVar 5))) (eBi bTuple (aCons (eFr (eComp [7] (iAny true (eCut (eVar 2) (sSome (eVar 5)) sNone)) (gNm 7) bYes (eOp oAdd (eVar 7) (eVar 6)))) aNil))))))))
      (sFrz 3 (sRet (eVar 3)))))
def f__law_bent (ds : List DL.D) (κ : Ka) : Re DL.D := noEr (mean 8 m__law_bent ds κ)
/-- _law_extremes: slots 0 deal, 1 kind, 2 p, 3 q, 4 r, 5 s, 6 last, 7 tick, 8 slow, 9 fast, 10 one, 11 two, 12 c, 13 phase, 14 due -/
def m__law_extremes : Es := (sSeq (sAsg (gTu 4 (gsCons (gNm 2) (gsCons (gNm 3) (gsCons (gNm 4) (gsCons (gNm 5) gsNil))))) (eVar 1))
      (sSeq (sAsg (gNm 6) (eOp oAdd (eC (.int 4)) (eCall 2 f__law_take (aCons (eVar 0) (aCons (eC (.int 12)) aNil)))))
      (sSeq (sAsg (gNm 7) (eCall 2 f__law_take (aCons (eVar 0) (aCons (eVar 6) aNil))))
      (sSeq (sPar 8 9 (aCons (eCall 3 f_slowest_from (aCons (eVar 1) (aCons (eVar 7) (aCons (eVar 6) aNil)))) (aCons (eCall 3 f_fastest_from (aCons (eVar 1) (aCons (eVar 7) (aCons (eVar 6) aNil)))) aNil)))
      (sSeq (sPar 10 11 (aCons (eOp oSub (eOp oMul (eVar 7) (eVar 4)) (eOp oMul (eOp oFdiv (eOp oMul (eVar 7) (eVar 4)) (eVar 5)) (eVar 5))) (aCons (eOp oSub (eOp oMul (eOp oMul (eOp oSub (eVar 3) (eC (.int 1))) (eVar 7)) (eVar 2)) (eOp oMul (eOp oFdiv (eOp oMul (eOp oMul (eOp oSub (eVar 3) (eC (.int 1))) (eVar 7)) (eVar 2)) (eVar 3)) (eVar 3))) aNil)))
      (sSeq (sIf (bOr (bNot (bOf (eCall 2 f__law_same (aCons (eVar 8) (aCons (eCall 3 f_slow_clock (aCons (eVar 1) (aCons (eVar 10) (aCons (eVar 6) aNil)))) aNil))))) (bNot (bOf (eCall 2 f__law_same (aCons (eVar 9) (aCons (eCall 3 f_fast_clock (aCons (eVar 1) (aCons (eVar 11) (aCons (eVar 6) aNil)))) aNil)))))) (sRet (eC (.bl false))) sNext)
      (sSeq (sIf (bOr (bCmp cNe (eBi bLen (aCons (eVar 8) aNil)) (eOp oAdd (eVar 6) (eC (.int 1)))) (bOr (bCmp cNe (eBi bLen (aCons (eVar 9) aNil)) (eOp oAdd (eVar 6) (eC (.int 1)))) (bOr (bNot (bOf (eCall 2 f__law_is_clock (aCons (eVar 1) (aCons (eVar 8) aNil))))) (bNot (bOf (eCall 2 f__law_is_clock (aCons (eVar 1) (aCons (eVar 9) aNil)))))))) (sRet (eC (.bl false))) sNext)
      (sSeq (sForE (iRange1 (aCons (eOp oSub (eOp oAdd (eVar 6) (eC (.int 1))) (eVar 7)) aNil)) (gNm 12) (sIf (bOr (bCmp cNe (eOp oSub (eIdx (eVar 8) (eOp oAdd (eVar 7) (eVar 12))) (eIdx (eVar 8) (eVar 7))) (eCall 2 f__law_high (aCons (eVar 1) (aCons (eVar 12) aNil)))) (bCmp cNe (eOp oSub (eIdx (eVar 9) (eOp oAdd (eVar 7) (eVar 12))) (eIdx (eVar 9) (eVar 7))) (eCall 2 f__law_low (aCons (eVar 1) (aCons (eVar 12) aNil))))) (sRet (eC (.bl false))) sNext))
      (sSeq (sForE (iAny false (eFr (fLst (aCons (eC (.int 0)) (aCons (eCall 2 f__law_take (aCons (eVar 0) (aCons (eVar 5) aNil))) (aCons (eOp oSub (eVar 5) (eC (.int 1))) aNil)))))) (gNm 13) (sSeq (sAsg (gNm 14) (eBi bTuple (aCons (eFr (eComp [12] (iRange1 (aCons (eOp oAdd (eVar 6) (eC (.int 1))) aNil)) (gNm 12) bYes (eOp oFdiv (eOp oSub (eOp oAdd (eOp oSub (eOp oMul (eVar 12) (eVar 4)) (eVar 13)) (eVar 5)) (eC (.int 1))) (eVar 5)))) aNil)))
      (sIf (bOr (bNot (bOf (eCall 2 f__law_same (aCons (eCall 3 f_slow_clock (aCons (eVar 1) (aCons (eVar 13) (aCons (eVar 6) aNil)))) (aCons (eVar 14) aNil))))) (bNot (bOf (eCall 2 f__law_is_clock (aCons (eVar 1) (aCons (eVar 14) aNil)))))) (sRet (eC (.bl false))) sNext)))
      (sSeq (sForE (iAny false (eFr (fLst (aCons (eC (.int 0)) (aCons (eCall 2 f__law_take (aCons (eVar 0) (aCons (eVar 3) aNil))) (aCons (eOp oSub (eVar 3) (eC (.int 1))) aNil)))))) (gNm 13) (sSeq (sAsg (gNm 14) (eBi bTuple (aCons (eFr (eComp [12] (iRange1 (aCons (eOp oAdd (eVar 6) (eC (.int 1))) aNil)) (gNm 12) bYes (eOp oFdiv (eOp oAdd (eOp oMul (eVar 12) (eVar 2)) (eVar 13)) (eVar 3)))) aNil)))
      (sIf (bOr (bNot (bOf (eCall 2 f__law_same (aCons (eCall 3 f_fast_clock (aCons (eVar 1) (aCons (eVar 13) (aCons (eVar 6) aNil)))) (aCons (eVar 14) aNil))))) (bNot (bOf (eCall 2 f__law_is_clock (aCons (eVar 1) (aCons (eVar 14) aNil)))))) (sRet (eC (.bl false))) sNext)))
      (sRet (eC (.bl true)))))))))))))
def f__law_extremes (ds : List DL.D) (κ : Ka) : Re DL.D := noEr (mean 15 m__law_extremes ds κ)
/-- law: slots 0 script, 1 deal, 2 kind, 3 clock, 4 odd -/
def m_law : Es := (sSeq (sAsg (gNm 1) (eCall 1 f__law_deal (aCons (eVar 0) aNil)))
      (sSeq (sAsg (gNm 2) (eCall 1 f__law_kind (aCons (eVar 1) aNil)))
      (sSeq (sIf (bOr (bNot (bOf (eCall 1 f__law_forms (aCons (eVar 2) aNil)))) (bOr (bNot (bOf (eCall 2 f__law_counts (aCons (eVar 1) (aCons (eVar 2) aNil))))) (bNot (bOf (eCall 2 f__law_extremes (aCons (eVar 1) (aCons (eVar 2) aNil))))))) (sRet (eC (.bl false))) sNext)
      (sSeq (sAsg (gNm 3) (eCall 3 f__law_clock (aCons (eVar 1) (aCons (eVar 2) (aCons (eOp oAdd (eC (.int 3)) (eCall 2 f__law_take (aCons (eVar 1) (aCons (eC (.int 14)) aNil)))) aNil)))))
      (sSeq (sIf (bOr (bNot (bOf (eCall 2 f__law_is_clock (aCons (eVar 2) (aCons (eVar 3) aNil))))) (bNot (bOf (eCall 2 f__law_bool (aCons (eCall 2 f_is_clock (aCons (eVar 2) (aCons (eVar 3) aNil))) (aCons (eC (.bl true)) aNil)))))) (sRet (eC (.bl false))) sNext)
      (sSeq (sForE (iAny false (eCall 3 f__law_bent (aCons (eVar 1) (aCons (eVar 2) (aCons (eVar 3) aNil))))) (gNm 4) (sIf (bNot (bOf (eCall 2 f__law_bool (aCons (eCall 2 f_is_clock (aCons (eVar 2) (aCons (eVar 4) aNil))) (aCons (eCall 2 f__law_is_clock (aCons (eVar 2) (aCons (eVar 4) aNil))) aNil))))) (sRet (eC (.bl false))) sNext))
      (sRet (eC (.bl true)))))))))
def f_law (ds : List DL.D) (κ : Ka) : Re DL.D := noEr (mean 5 m_law ds κ)
end K82
set_option Elab.async false
set_option linter.all false
set_option maxRecDepth 100000
/-! K82a: floors and ceilings. -/
namespace K82
def fl (u q : Int) : Int := u.fdiv q
def ce (u q : Int) : Int := (u + q - 1).fdiv q
section
variable {u v k q n p : Int}
theorem fl_le (h : 0 < q) : fl u q * q ≤ u := by
  unfold fl; rw [Int.fdiv_eq_ediv_of_nonneg _ (by omega)]; exact Int.ediv_mul_le _ (by omega)
theorem lt_fl (h : 0 < q) : u < fl u q * q + q := by
  unfold fl; rw [Int.fdiv_eq_ediv_of_nonneg _ (by omega)]
  have := Int.lt_ediv_add_one_mul_self u h
  rw [Int.add_mul] at this; omega
theorem le_fl_iff (h : 0 < q) : k ≤ fl u q ↔ k * q ≤ u := by
  unfold fl; rw [Int.fdiv_eq_ediv_of_nonneg _ (by omega)]; exact Int.le_ediv_iff_mul_le h
theorem fl_lt_iff (h : 0 < q) : fl u q < k ↔ u < k * q := by
  unfold fl; rw [Int.fdiv_eq_ediv_of_nonneg _ (by omega)]; exact Int.ediv_lt_iff_lt_mul h
theorem ce_le_iff (h : 0 < q) : ce u q ≤ k ↔ u ≤ k * q := by
  have : ce u q ≤ k ↔ fl (u + q - 1) q < k + 1 := by unfold ce fl; omega
  rw [this, fl_lt_iff h, Int.add_mul]; omega
theorem lt_ce_iff (h : 0 < q) : k < ce u q ↔ k * q < u := by
  have := ce_le_iff (u := u) (k := k) h; omega
theorem le_ce (h : 0 < q) : u ≤ ce u q * q := (ce_le_iff h).mp (Int.le_refl _)
theorem ce_lt (h : 0 < q) : ce u q * q < u + q := by
  have := (lt_ce_iff (u := u) (k := ce u q - 1) h).mp (by omega)
  rw [Int.sub_mul] at this; omega
theorem fl_add (h : 0 < q) : fl u q + fl v q ≤ fl (u + v) q := by
  rw [le_fl_iff h, Int.add_mul]
  have := fl_le (u := u) h; have := fl_le (u := v) h; omega
theorem ce_add (h : 0 < q) : ce (u + v) q ≤ ce u q + ce v q := by
  rw [ce_le_iff h, Int.add_mul]
  have := le_ce (u := u) h; have := le_ce (u := v) h; omega
theorem ce_fl (h : 0 < q) : ce u q + fl v q ≤ ce (u + v) q := by
  have : ce u q + fl v q - 1 < ce (u + v) q := by
    rw [lt_ce_iff h, Int.sub_mul, Int.add_mul]
    have := ce_lt (u := u) h; have := fl_le (u := v) h; omega
  omega
theorem fl_ce (h : 0 < q) : fl (u + v) q ≤ fl u q + ce v q := by
  have : fl (u + v) q < fl u q + ce v q + 1 := by
    rw [fl_lt_iff h, Int.add_mul, Int.add_mul]
    have := lt_fl (u := u) h; have := le_ce (u := v) h; omega
  omega
theorem neg_fl (h : 0 < q) : -fl (-u) q = ce u q := by
  have h1 : ce u q ≤ -fl (-u) q := by
    rw [ce_le_iff h, Int.neg_mul]; have := fl_le (u := -u) h; omega
  have h2 : -fl (-u) q ≤ ce u q := by
    have : -fl (-u) q - 1 < ce u q := by
      rw [lt_ce_iff h, Int.sub_mul, Int.neg_mul]; have := lt_fl (u := -u) h; omega
    omega
  omega
theorem fl_mul (h : 0 < q) : fl (u + k * q) q = fl u q + k := by
  have h1 : fl u q + k ≤ fl (u + k * q) q := by rw [le_fl_iff h, Int.add_mul]; have := fl_le (u := u) h; omega
  have h2 : fl (u + k * q) q < fl u q + k + 1 := by rw [fl_lt_iff h, Int.add_mul, Int.add_mul]; have := lt_fl (u := u) h; omega
  omega
theorem ce_mul (h : 0 < q) : ce (u + k * q) q = ce u q + k := by
  have := fl_mul (u := u + q - 1) (k := k) h
  unfold fl at this; unfold ce
  rw [← this]; congr 1; omega
theorem fl_mod (h : 0 < q) : u.fmod q = u - fl u q * q := by
  unfold fl; rw [Int.fmod_def, Int.mul_comm]
theorem fl_small (h0 : 0 ≤ u) (h1 : u < q) : fl u q = 0 := by
  have a := (le_fl_iff (u := u) (k := 0) (q := q) (by omega)).mpr (by omega)
  have b := (fl_lt_iff (u := u) (k := 1) (q := q) (by omega)).mpr (by omega)
  omega
theorem ce_small (h0 : u ≤ 0) (h1 : -q < u) : ce u q = 0 := by
  have a := (ce_le_iff (u := u) (k := 0) (q := q) (by omega)).mpr (by omega)
  have b := (lt_ce_iff (u := u) (k := -1) (q := q) (by omega)).mpr (by omega)
  omega
/-- a part of at most one -/
theorem fl_part (hn : 0 ≤ n) (h : p ≤ q) (h0 : 0 < q) : fl (n * p) q ≤ n := by
  have : fl (n * p) q < n + 1 := by
    rw [fl_lt_iff h0, Int.add_mul]; have := Int.mul_le_mul_of_nonneg_left h hn; omega
  omega
theorem ce_part (hn : 0 ≤ n) (h : p ≤ q) (h0 : 0 < q) : ce (n * p) q ≤ n := by
  rw [ce_le_iff h0]; exact Int.mul_le_mul_of_nonneg_left h hn
/-- at least one -/
theorem fl_over (hn : 0 ≤ n) (h : q ≤ p) (h0 : 0 < q) : n ≤ fl (n * p) q := by
  rw [le_fl_iff h0]; exact Int.mul_le_mul_of_nonneg_left h hn
theorem ce_over (hn : 0 ≤ n) (h : q ≤ p) (h0 : 0 < q) : n ≤ ce (n * p) q := by
  have : n - 1 < ce (n * p) q := by
    rw [lt_ce_iff h0, Int.sub_mul]; have := Int.mul_le_mul_of_nonneg_left h hn; omega
  omega
end
/-- a clock's kind -/
structure Ki (p q r s : Int) : Prop where
  p1 : 1 ≤ p
  pq : p ≤ q
  q2 : q ≤ 10000
  s1 : 1 ≤ s
  sr : s ≤ r
  r2 : r ≤ 10000
def lo (p q t : Int) : Int := fl (t * p) q
def hi (r s t : Int) : Int := ce (t * r) s
section
variable {p q r s a b c m t : Int} (k : Ki p q r s)
include k
theorem Ki.q0 : 0 < q := by have := k.p1; have := k.pq; omega
theorem Ki.s0 : 0 < s := by have := k.s1; omega
theorem Ki.low (h : 0 ≤ a) : lo p q a ≤ a := fl_part h k.pq k.q0
theorem Ki.high (h : 0 ≤ a) : a ≤ hi r s a := ce_over h k.sr k.s0
theorem Ki.lo_hi (h : 0 ≤ a) : lo p q a ≤ hi r s a := Int.le_trans (k.low h) (k.high h)
theorem Ki.hi_lo (ha : 0 ≤ a) (hb : 0 ≤ b) : hi r s a + lo p q b ≤ hi r s (a + b) := by
  have h1 := ce_fl (u := a * r) (v := b * r) k.s0
  have h2 := fl_over hb k.sr k.s0
  have h3 := k.low hb
  unfold hi; rw [Int.add_mul]
  omega
theorem Ki.lo_add_hi (ha : 0 ≤ a) (hb : 0 ≤ b) : lo p q (a + b) ≤ lo p q a + hi r s b := by
  have h1 := fl_ce (u := a * p) (v := b * p) k.q0
  have h2 := ce_part hb k.pq k.q0
  have h3 := k.high hb
  have e : lo p q (a + b) = fl (a * p + b * p) q := by unfold lo; rw [Int.add_mul]
  have e2 : lo p q a = fl (a * p) q := rfl
  omega
/-- most ticks in m minutes, m ≥ 0 -/
theorem Ki.mt_pos (hm : 0 ≤ m) : 0 ≤ fl (m * s) r ∧ hi r s (fl (m * s) r) ≤ m ∧ m < hi r s (fl (m * s) r + 1) := by
  have r0 : 0 < r := by have := k.s1; have := k.sr; omega
  refine ⟨?_, ?_, ?_⟩
  · rw [le_fl_iff r0]; have := Int.mul_nonneg hm (Int.le_of_lt k.s0); omega
  · unfold hi; rw [ce_le_iff k.s0]; exact fl_le r0
  · unfold hi; rw [lt_ce_iff k.s0, Int.add_mul]; have := lt_fl (u := m * s) r0; omega
theorem Ki.mt_neg (hm : m < 0) : fl (m * q) p < 0 ∧ -lo p q (-fl (m * q) p) ≤ m ∧ m < (if 0 ≤ fl (m * q) p + 1 then hi r s (fl (m * q) p + 1) else -lo p q (-(fl (m * q) p + 1))) := by
  have p0 : 0 < p := by have := k.p1; omega
  have hq := k.q0
  have h0 : fl (m * q) p < 0 := by
    rw [fl_lt_iff p0]
    have h5 := Int.mul_le_mul_of_nonneg_right (show m ≤ -1 by omega) (Int.le_of_lt hq)
    rw [Int.zero_mul]; omega
  refine ⟨h0, ?_, ?_⟩
  · have : -m ≤ lo p q (-fl (m * q) p) := by
      unfold lo; rw [le_fl_iff hq, Int.neg_mul, Int.neg_mul]; have := fl_le (u := m * q) p0; omega
    omega
  · split
    · have e : fl (m * q) p + 1 = 0 := by omega
      rw [e]; unfold hi; rw [lt_ce_iff k.s0, Int.zero_mul]
      have h5 := Int.mul_le_mul_of_nonneg_right (show m ≤ -1 by omega) (Int.le_of_lt k.s0)
      have := k.s0; omega
    · have : lo p q (-(fl (m * q) p + 1)) < -m := by
        unfold lo; rw [fl_lt_iff hq, Int.neg_mul, Int.add_mul, Int.neg_mul]; have := lt_fl (u := m * q) p0; omega
      omega
end
/-- the slowest clock -/
def slw (r s ph c : Int) : Int := ce (c * r - ph) s
def fst' (p q ph c : Int) : Int := fl (c * p + ph) q
section
variable {p q r s a b c m t ph : Int} (k : Ki p q r s)
include k
theorem Ki.slw_gap (h : a ≤ b) : lo p q (b - a) ≤ slw r s ph b - slw r s ph a ∧ slw r s ph b - slw r s ph a ≤ hi r s (b - a) := by
  have e : b * r - ph = (a * r - ph) + (b - a) * r := by rw [Int.sub_mul]; omega
  have h1 := ce_add (u := a * r - ph) (v := (b - a) * r) k.s0
  have h2 := ce_fl (u := a * r - ph) (v := (b - a) * r) k.s0
  have h3 := fl_over (n := b - a) (by omega) k.sr k.s0
  have h4 := k.low (a := b - a) (by omega)
  unfold slw hi
  rw [e]
  omega
theorem Ki.fst_gap (h : a ≤ b) : lo p q (b - a) ≤ fst' p q ph b - fst' p q ph a ∧ fst' p q ph b - fst' p q ph a ≤ hi r s (b - a) := by
  have e : b * p + ph = (a * p + ph) + (b - a) * p := by rw [Int.sub_mul]; omega
  have h1 := fl_add (u := a * p + ph) (v := (b - a) * p) k.q0
  have h2 := fl_ce (u := a * p + ph) (v := (b - a) * p) k.q0
  have h3 := ce_part (n := b - a) (by omega) k.pq k.q0
  have h4 := k.high (a := b - a) (by omega)
  unfold fst' lo
  rw [e]
  omega
theorem Ki.slw_0 (h0 : 0 ≤ ph) (h1 : ph < s) : slw r s ph 0 = 0 := by
  unfold slw; rw [Int.zero_mul]; exact ce_small (by omega) (by omega)
theorem Ki.fst_0 (h0 : 0 ≤ ph) (h1 : ph < q) : fst' p q ph 0 = 0 := by
  unfold fst'; rw [Int.zero_mul]; exact fl_small (by omega) (by omega)
theorem Ki.slw_at : slw r s ((t * r).fmod s) (t + c) - slw r s ((t * r).fmod s) t = hi r s c := by
  have e1 : (t + c) * r - (t * r).fmod s = c * r + fl (t * r) s * s := by rw [fl_mod k.s0, Int.add_mul]; omega
  have e2 : t * r - (t * r).fmod s = 0 + fl (t * r) s * s := by rw [fl_mod k.s0]; omega
  unfold slw hi
  rw [e1, e2, ce_mul k.s0, ce_mul k.s0, ce_small (u := 0) (by omega) (by have := k.s0; omega)]
  omega
theorem Ki.fst_at : fst' p q ((-t * p).fmod q) (t + c) - fst' p q ((-t * p).fmod q) t = lo p q c := by
  have e1 : (t + c) * p + (-t * p).fmod q = c * p + -fl (-t * p) q * q := by rw [fl_mod k.q0, Int.add_mul, Int.neg_mul, Int.neg_mul]; omega
  have e2 : t * p + (-t * p).fmod q = 0 + -fl (-t * p) q * q := by rw [fl_mod k.q0, Int.neg_mul, Int.neg_mul]; omega
  unfold fst' lo
  rw [e1, e2, fl_mul k.q0, fl_mul k.q0, fl_small (u := 0) (by omega) k.q0]
  omega
theorem Ki.two : (q - 1) * t * p - fl ((q - 1) * t * p) q * q = (-t * p).fmod q := by
  have e : (q - 1) * t * p = -t * p + (t * p) * q := by
    rw [Int.sub_mul, Int.sub_mul, Int.one_mul, Int.neg_mul, Int.mul_assoc, Int.mul_comm q]; omega
  rw [e, fl_mul k.q0, fl_mod k.q0, Int.add_mul]; omega
end
end K82
set_option Elab.async false
set_option linter.all false
set_option maxRecDepth 100000
set_option maxHeartbeats 4000000
namespace K82
open PySem L2 DL
abbrev DD := DL.D
@[simp] def kd (p q r s : Int) : DD := .tup [.int p, .int q, .int r, .int s]
/-- what dividing by a kind's parts wants -/
structure Kd (p q r s : Int) : Prop where
  q0 : q ≠ 0
  q1 : q.natAbs < 1073741824
  s0 : s ≠ 0
  s1 : s.natAbs < 1073741824
  p1 : p.natAbs < 1073741824
  r1 : r.natAbs < 1073741824
section
variable {p q r s t : Int} {κ : Ka}
theorem Kd.mp (k : Kd p q r s) (t : Int) : mulOk t p = true := mulOk_r (by have := k.p1; omega) (by have := k.p1; omega)
theorem Kd.mr (k : Kd p q r s) (t : Int) : mulOk t r = true := mulOk_r (by have := k.r1; omega) (by have := k.r1; omega)
theorem least_eq (k : Kd p q r s) : f_least_minutes [kd p q r s, .int t] κ = some (.ok (.int ((t * p).fdiv q)), κ) := by
  simp [f_least_minutes, m_least_minutes, mean, slots, oMul_int (k.mp t), oFdiv_int k.q0 k.q1, List.replicate]
theorem most_eq (k : Kd p q r s) : f_most_minutes [kd p q r s, .int t] κ = some (.ok (.int (-((-t * r).fdiv s))), κ) := by
  simp [f_most_minutes, m_most_minutes, mean, slots, oMul_int (k.mr (-t)), oFdiv_int k.s0 k.s1, List.replicate]
theorem low_eq (k : Kd p q r s) : f__law_low [kd p q r s, .int t] κ = some (.ok (.int ((t * p).fdiv q)), κ) := by
  simp [f__law_low, m__law_low, mean, slots, oMul_int (k.mp t), oFdiv_int k.q0 k.q1, List.replicate]
theorem high_eq (k : Kd p q r s) : f__law_high [kd p q r s, .int t] κ = some (.ok (.int ((t * r + s - 1).fdiv s)), κ) := by
  simp [f__law_high, m__law_high, mean, slots, oMul_int (k.mr t), oFdiv_int k.s0 k.s1, List.replicate]
def okKind (p q r s : Int) : Bool := decide (1 ≤ p) && decide (p ≤ q) && decide (q ≤ 10000) && (decide (1 ≤ s) && decide (s ≤ r) && decide (r ≤ 10000))
theorem is_kind_eq : f_is_kind [kd p q r s] κ = some (.ok (.bl (okKind p q r s)), κ) := by
  unfold okKind
  by_cases h1 : 1 ≤ p <;> by_cases h2 : p ≤ q <;> by_cases h3 : q ≤ 10000 <;> simp [f_is_kind, m_is_kind, mean, slots, List.replicate, h1, h2, h3]
  by_cases h4 : 1 ≤ s <;> by_cases h5 : s ≤ r <;> simp [h4, h5]
theorem lt_le (a b : Int) : (a < b ∧ ¬ b ≤ a) ∨ (¬ a < b ∧ b ≤ a) := by omega
theorem form_eq : f__law_form [kd p q r s] κ = some (.ok (.bl (okKind p q r s)), κ) := by
  unfold okKind
  rcases lt_le p 1 with ⟨h1, h2⟩ | ⟨h1, h2⟩ <;> rcases lt_le s 1 with ⟨h3, h4⟩ | ⟨h3, h4⟩ <;> rcases lt_le q p with ⟨h5, h6⟩ | ⟨h5, h6⟩ <;> rcases lt_le r s with ⟨h7, h8⟩ | ⟨h7, h8⟩ <;>
    simp [f__law_form, m__law_form, mean, slots, List.replicate, h1, h2, h3, h4, h5, h6, h7, h8]
  by_cases h : q ≤ 10000 <;> simp [h]
end
@[simp] theorem deal_def : f__law_deal = DL.f__law_deal := by funext a b; rfl
@[simp] theorem take_def : f__law_take = DL.f__law_take := by funext a b; rfl
@[simp] theorem same_def : f__law_same = DL.f__law_same := by funext a b; rfl
@[simp] theorem bool_def : f__law_bool = DL.f__law_bool := by funext a b; rfl
theorem kd_noBor {p q r s : Int} : isBor (kd p q r s) = false := rfl
theorem Ki.kd {p q r s : Int} (k : Ki p q r s) : Kd p q r s := by
  have := k.p1; have := k.pq; have := k.q2; have := k.s1; have := k.sr; have := k.r2
  exact ⟨by omega, by omega, by omega, by omega, by omega, by omega⟩
/-- the drawn kind -/
theorem kind_ok (R : List Int) (T i : Int) (h0 : 0 ≤ i) : ∃ p q r s j, f__law_kind [dealD R T] (at_ i) = some (.ok (kd p q r s), at_ j) ∧ Ki p q r s ∧ 0 ≤ j := by
  obtain ⟨w, e1, w0, w1⟩ := take_ok R T i 6 h0 (by omega)
  by_cases h : w = 0
  · subst h
    exact ⟨1, 1, 1, 1, i + 1, by simp [f__law_kind, m__law_kind, mean, slots, List.replicate, e1], ⟨by omega, by omega, by omega, by omega, by omega, by omega⟩, by omega⟩
  by_cases h1 : w = 1
  · subst h1
    obtain ⟨a, e2, a0, a1⟩ := take_ok R T (i + 1) 60 (by omega) (by omega)
    obtain ⟨b, e3, b0, b1⟩ := take_ok R T (i + 1 + 1) 90 (by omega) (by omega)
    exact ⟨100 - a, 100, 100 + b, 100, i + 1 + 1 + 1, by simp [f__law_kind, m__law_kind, mean, slots, List.replicate, e1, e2, e3], ⟨by omega, by omega, by omega, by omega, by omega, by omega⟩, by omega⟩
  by_cases h2 : w = 2
  · subst h2
    obtain ⟨a, e2, a0, a1⟩ := take_ok R T (i + 1) 3 (by omega) (by omega)
    obtain ⟨b, e3, b0, b1⟩ := take_ok R T (i + 1 + 1) 3 (by omega) (by omega)
    exact ⟨1, 1 + a, 1 + b, 1, i + 1 + 1 + 1, by simp [f__law_kind, m__law_kind, mean, slots, List.replicate, e1, e2, e3], ⟨by omega, by omega, by omega, by omega, by omega, by omega⟩, by omega⟩
  obtain ⟨a, e2, a0, a1⟩ := take_ok R T (i + 1) 12 (by omega) (by omega)
  obtain ⟨b, e3, b0, b1⟩ := take_ok R T (i + 1 + 1) 12 (by omega) (by omega)
  obtain ⟨c, e4, c0, c1⟩ := take_ok R T (i + 1 + 1 + 1) (1 + a) (by omega) (by omega)
  obtain ⟨d, e5, d0, d1⟩ := take_ok R T (i + 1 + 1 + 1 + 1) 9 (by omega) (by omega)
  exact ⟨1 + c, 1 + a, 1 + b + d, 1 + b, i + 1 + 1 + 1 + 1 + 1, by simp [f__law_kind, m__law_kind, mean, slots, List.replicate, e1, e2, e3, e4, e5, h, h1, h2], ⟨by omega, by omega, by omega, by omega, by omega, by omega⟩, by omega⟩
theorem eComp_none {vs : List Nat} {n : Ev (List D)} {g : Tg} {t : Ev Bool} {e : Ev D} {ρ : List Sl} {κ κ1 : Ka} {ds : List D} (hn : n ρ κ = some (.ok ds, κ1)) (hl : ds.length ≤ 16777216)
    (h : ∀ d ∈ ds, ∃ ρ2, g d (wipeR ρ vs) = some ρ2 ∧ t ρ2 κ1 = some (.ok false, κ1)) : eComp vs n g t e ρ κ = some (.ok [], κ1) := by
  rw [eComp_eq (fun _ => none) hn hl fun d hd => let ⟨ρ2, a, b⟩ := h d hd; ⟨ρ2, a, .inl ⟨rfl, b⟩⟩]
  simp
theorem forms_ok (p q r s : Int) (κ : Ka) : f__law_forms [kd p q r s] κ = some (.ok (.bl true), κ) := by
  refine eq_of_wp ?_
  unfold f__law_forms
  refine mean_wp ?_
  show wpS (m__law_forms [.val (kd p q r s), .no, .no, .no, .no, .no, .no] κ) _ _ _ _
  unfold m__law_forms
  simp only [wpS_seq]
  refine wpS_atom (ρ' := [.val (kd p q r s), .val (.int p), .val (.int q), .val (.int r), .val (.int s), .no, .no]) (k := κ) (by simp) ?_
  refine wpS_atom (ρ' := [.val (kd p q r s), .val (.int p), .val (.int q), .val (.int r), .val (.int s), .val (.lst [kd p q r s, kd q p r s, kd p q s r, kd 0 q r s, kd p q r 0, kd p 0 r s, kd p q 0 s, kd (-p) q r s, kd p 10000 10000 s, kd p 10001 r s]), .no]) (k := κ) (by simp) ?_
  refine wpS_atom (ρ' := [.val (kd p q r s), .val (.int p), .val (.int q), .val (.int r), .val (.int s), .val (.lst [kd p q r s, kd q p r s, kd p q s r, kd 0 q r s, kd p q r 0, kd p 0 r s, kd p q 0 s, kd (-p) q r s, kd p 10000 10000 s, kd p 10001 r s, kd p q 10001 s, kd (q + 1) q r s, kd p q (s - 1) s, kd q q s s, kd 10000 10000 10000 10000, kd 10001 10001 r s, kd p q 10001 10001]), .no]) (k := κ) (by simp) ?_
  refine wpS_atomR (d := .bl true) (k := κ) ?_ ⟨rfl, rfl⟩
  rw [sRet_def, eCmp_def, eBi_def, aCons_def, eFr_def]
  rw [eComp_none (κ1 := κ) (ds := [kd p q r s, kd q p r s, kd p q s r, kd 0 q r s, kd p q r 0, kd p 0 r s, kd p q 0 s, kd (-p) q r s, kd p 10000 10000 s, kd p 10001 r s, kd p q 10001 s, kd (q + 1) q r s, kd p q (s - 1) s, kd q q s s, kd 10000 10000 10000 10000, kd 10001 10001 r s, kd p q 10001 10001]) (by simp) (by simp) ?_]
  · simp
  · intro d hd
    have hk : ∃ a b c e, d = kd a b c e := by
      simp only [List.mem_cons, List.not_mem_nil, or_false] at hd
      rcases hd with h | h | h | h | h | h | h | h | h | h | h | h | h | h | h | h | h <;> exact ⟨_, _, _, _, h⟩
    obtain ⟨a, b, c, e, rfl⟩ := hk
    refine ⟨_, rfl, ?_⟩
    have h1 := is_kind_eq (p := a) (q := b) (r := c) (s := e) (κ := κ)
    have h2 := form_eq (p := a) (q := b) (r := c) (s := e) (κ := κ)
    simp only [kd] at h1 h2
    simp [h1, h2]
section
variable {p q r s t m : Int} {κ : Ka}
theorem low' (k : Ki p q r s) : f__law_low [kd p q r s, .int t] κ = some (.ok (.int (lo p q t)), κ) := low_eq k.kd
theorem high' (k : Ki p q r s) : f__law_high [kd p q r s, .int t] κ = some (.ok (.int (hi r s t)), κ) := high_eq k.kd
theorem least' (k : Ki p q r s) : f_least_minutes [kd p q r s, .int t] κ = some (.ok (.int (lo p q t)), κ) := least_eq k.kd
theorem most' (k : Ki p q r s) : f_most_minutes [kd p q r s, .int t] κ = some (.ok (.int (hi r s t)), κ) := by
  rw [most_eq k.kd]
  have := neg_fl (u := t * r) k.s0
  unfold fl at this
  unfold hi
  rw [← this, Int.neg_mul]
def gre (p q r s t : Int) : Int := if 0 ≤ t then hi r s t else 0 - lo p q (0 - t)
theorem greatest' (k : Ki p q r s) : f__law_greatest [kd p q r s, .int t] κ = some (.ok (.int (gre p q r s t)), κ) := by
  have h1 := high' (t := t) (κ := κ) k
  have h2 := low' (t := 0 - t) (κ := κ) k
  simp only [kd] at h1 h2
  unfold gre
  by_cases h : 0 ≤ t
  · simp [f__law_greatest, m__law_greatest, mean, slots, List.replicate, h, h1]
  · rw [if_neg h]
    simp only [Int.zero_sub] at h2 ⊢
    simp [f__law_greatest, m__law_greatest, mean, slots, List.replicate, h, h2]
def mtk (p q r s m : Int) : Int := if 0 ≤ m then fl (m * s) r else fl (m * q) p
theorem ticks' (k : Ki p q r s) : f_most_ticks [kd p q r s, .int m] κ = some (.ok (.int (mtk p q r s m)), κ) := by
  have kk := k.kd
  have e1 : mulOk m s = true := mulOk_r (by have := k.s1; omega) (by have := kk.s1; omega)
  have e2 : mulOk m q = true := mulOk_r (by have := k.p1; have := k.pq; omega) (by have := kk.q1; omega)
  have e3 : r ≠ 0 := by have := k.s1; have := k.sr; omega
  have e4 : p ≠ 0 := by have := k.p1; omega
  unfold mtk fl
  by_cases h : 0 ≤ m
  · simp [f_most_ticks, m_most_ticks, mean, slots, List.replicate, h, oMul_int e1, oFdiv_int e3 kk.r1]
  · simp [f_most_ticks, m_most_ticks, mean, slots, List.replicate, h, oMul_int e2, oFdiv_int e4 kk.p1]
theorem mtk_ok (k : Ki p q r s) (m : Int) : gre p q r s (mtk p q r s m) ≤ m ∧ m < gre p q r s (mtk p q r s m + 1) := by
  unfold gre mtk
  by_cases h : 0 ≤ m
  · obtain ⟨h1, h2, h3⟩ := k.mt_pos h
    rw [if_pos h, if_pos h1, if_pos (by omega)]
    exact ⟨h2, h3⟩
  · obtain ⟨h1, h2, h3⟩ := k.mt_neg (m := m) (by omega)
    rw [if_neg h, if_neg (by omega)]
    simp only [Int.zero_sub]
    exact ⟨h2, h3⟩
theorem counts_ok (R : List Int) (T i : Int) (h0 : 0 ≤ i) (k : Ki p q r s) : ∃ j, f__law_counts [dealD R T, kd p q r s] (at_ i) = some (.ok (.bl true), at_ j) ∧ 0 ≤ j := by
  suffices h : wpE (f__law_counts [dealD R T, kd p q r s] (at_ i)) fun d κ => d = .bl true ∧ ∃ j, κ = at_ j ∧ 0 ≤ j by
    obtain ⟨d, κ, e, rfl, j, rfl, hj⟩ := wpE_eq.mp h
    exact ⟨j, e, hj⟩
  unfold f__law_counts
  refine mean_wp ?_
  show wpS (m__law_counts [.val (dealD R T), .val (kd p q r s), .no, .no, .no] (at_ i)) _ _ _ _
  unfold m__law_counts
  simp only [wpS_seq]
  obtain ⟨a, e1, a0, a1⟩ := take_ok R T i 40 h0 (by omega)
  obtain ⟨b, e2, b0, b1⟩ := take_ok R T (i + 1) 1000 (by omega) (by omega)
  refine wpS_forE (κ1 := at_ (i + 1 + 1)) [.int 0, .int 1, .int 2, .int a, .int (10000 + b)] (by simp [e1, e2]) (fun _ ρ κ => κ = at_ (i + 1 + 1) ∧ ∃ s2, ρ = [.val (dealD R T), .val (kd p q r s), s2, .no, .no]) ⟨rfl, _, rfl⟩ ?_ ?_
  · rintro _ d ρ κ hd ⟨rfl, s2, rfl⟩
    have : ∃ t, d = .int t := by
      have := List.mem_of_getElem? hd
      simp only [List.mem_cons, List.not_mem_nil, or_false] at this
      rcases this with h | h | h | h | h <;> exact ⟨_, h⟩
    obtain ⟨t, rfl⟩ := this
    refine ⟨_, rfl, ?_⟩
    have h1 := low' (t := t) (κ := at_ (i + 1 + 1)) k
    have h2 := high' (t := t) (κ := at_ (i + 1 + 1)) k
    have h3 := least' (t := t) (κ := at_ (i + 1 + 1)) k
    have h4 := most' (t := t) (κ := at_ (i + 1 + 1)) k
    simp only [kd] at h1 h2 h3 h4
    exact wpS_atom (ρ' := [.val (dealD R T), .val (kd p q r s), .val (.int t), .no, .no]) (k := at_ (i + 1 + 1)) (by simp [h1, h2, h3, h4]) ⟨rfl, _, rfl⟩
  · rintro ρ κ ⟨rfl, s2, rfl⟩
    obtain ⟨a, e1, a0, a1⟩ := take_ok R T (i + 1 + 1) 60 (by omega) (by omega)
    obtain ⟨b, e2, b0, b1⟩ := take_ok R T (i + 1 + 1 + 1) 60 (by omega) (by omega)
    refine wpS_forE (κ1 := at_ (i + 1 + 1 + 1 + 1)) [.int 0, .int 1, .int (-1), .int a, .int (0 - b), .int 100000, .int (-100000)] (by simp [e1, e2]) (fun _ ρ κ => κ = at_ (i + 1 + 1 + 1 + 1) ∧ ∃ s3 s4, ρ = [.val (dealD R T), .val (kd p q r s), s2, s3, s4]) ⟨rfl, _, _, rfl⟩ ?_ ?_
    · rintro _ d ρ κ hd ⟨rfl, s3, s4, rfl⟩
      have : ∃ t, d = .int t := by
        have := List.mem_of_getElem? hd
        simp only [List.mem_cons, List.not_mem_nil, or_false] at this
        rcases this with h | h | h | h | h | h | h <;> exact ⟨_, h⟩
      obtain ⟨t, rfl⟩ := this
      refine ⟨_, rfl, ?_⟩
      have h1 := ticks' (m := t) (κ := at_ (i + 1 + 1 + 1 + 1)) k
      have h2 := greatest' (t := mtk p q r s t) (κ := at_ (i + 1 + 1 + 1 + 1)) k
      have h3 := greatest' (t := mtk p q r s t + 1) (κ := at_ (i + 1 + 1 + 1 + 1)) k
      obtain ⟨h4, h5⟩ := mtk_ok k t
      simp only [kd] at h1 h2 h3
      exact wpS_atom (ρ' := [.val (dealD R T), .val (kd p q r s), s2, .val (.int t), .val (.int (mtk p q r s t))]) (k := at_ (i + 1 + 1 + 1 + 1)) (by simp [h1, h2, h3, Int.not_lt.mpr h4, Int.not_le.mpr h5]) ⟨rfl, _, _, rfl⟩
    · rintro ρ κ ⟨rfl, s3, s4, rfl⟩
      exact wpS_atomR (d := .bl true) (k := at_ (i + 1 + 1 + 1 + 1)) (by simp) ⟨rfl, _, rfl, by omega⟩
end
end K82
set_option Elab.async false
set_option linter.all false
set_option maxRecDepth 100000
set_option maxHeartbeats 4000000
namespace K82
open PySem L2 DL
def clk (n : Nat) (F : Int → Int) : DD := .tup (tab n fun i => .int (F i))
theorem clk_ints {n : Nat} {F : Int → Int} : clk n F = .tup (((List.range n).map fun (k : Nat) => F (k : Int)).map D.int) := by unfold clk; rw [tab_ints]
def Ok (p q r s : Int) (F : Int → Int) (a b : Int) : Prop := lo p q (b - a) ≤ F b - F a ∧ F b - F a ≤ hi r s (b - a)
def Good (p q r s : Int) (n : Nat) (F : Int → Int) : Prop := ∀ a b : Int, 0 ≤ a → a < b → b < n → Ok p q r s F a b
def Clock (p q r s : Int) (n : Nat) (F : Int → Int) : Prop := n ≠ 0 ∧ F 0 = 0 ∧ Good p q r s n F
section
variable {p q r s t m : Int} {κ : Ka} {n : Nat} {F : Int → Int}
theorem law_clk (k : Ki p q r s) (hn : n ≤ 1000000) : ∃ v, f__law_is_clock [kd p q r s, clk n F] κ = some (.ok (.bl v), κ) ∧ (v = true ↔ Clock p q r s n F) := by
  suffices h : wpE (f__law_is_clock [kd p q r s, clk n F] κ) fun d κ' => κ' = κ ∧ ∃ v, d = .bl v ∧ (v = true ↔ Clock p q r s n F) by
    obtain ⟨d, κ', e, rfl, v, rfl, hv⟩ := wpE_eq.mp h
    exact ⟨v, e, hv⟩
  unfold f__law_is_clock
  refine mean_wp ?_
  show wpS (m__law_is_clock [.val (kd p q r s), .val (clk n F), .no, .no, .no] κ) _ _ _ _
  unfold m__law_is_clock
  rw [wpS_seq, wpS_if]
  by_cases h0 : n = 0
  · subst h0
    refine wpE_atom (a := true) (k := κ) (by simp [clk]) ?_
    rw [if_pos rfl]
    exact wpS_atomR (d := .bl false) (k := κ) (by simp) ⟨rfl, _, rfl, by simp [Clock]⟩
  have e0 : atI (tab n fun i => D.int (F i)) 0 = some (.int (F 0)) := tab_at (by omega) (by omega)
  by_cases h1 : F 0 = 0
  · refine wpE_atom (a := false) (k := κ) (by simp [clk, e0, h1, h0]) ?_
    rw [if_neg (by simp)]
    rw [wpS_next, wpS_seq]
    refine wpS_forE (κ1 := κ) (rangeD 0 n) (range1_ok (by omega) (by simp [clk])) (fun i ρ κ' => κ' = κ ∧ (∃ s2 s3 s4, ρ = [.val (kd p q r s), .val (clk n F), s2, s3, s4]) ∧ ∀ a b : Int, 0 ≤ a → a < i → a < b → b < n → Ok p q r s F a b) ⟨rfl, ⟨_, _, _, rfl⟩, fun a b h2 h3 => by omega⟩ ?_ ?_
    · rintro i d ρ κ' hd ⟨rfl, ⟨s2, s3, s4, rfl⟩, hI⟩
      obtain ⟨rfl, hi'⟩ := mem_range hd
      refine ⟨_, rfl, ?_⟩
      refine wpS_forE (κ1 := κ') (rangeD (0 + (i : Int) + 1) n) (range2_ok (by omega) (by omega) (by simp [clk])) (fun j ρ κ => κ = κ' ∧ (∃ s3 s4, ρ = [.val (kd p q r s), .val (clk n F), .val (.int (0 + (i : Int))), s3, s4]) ∧ ∀ b : Int, (i : Int) < b → b < i + 1 + j → b < n → Ok p q r s F i b) ⟨rfl, ⟨_, _, rfl⟩, fun b h2 h3 => by omega⟩ ?_ ?_
      · rintro j d ρ κ hd ⟨rfl, ⟨s3, s4, rfl⟩, hJ⟩
        obtain ⟨rfl, hj'⟩ := mem_range hd
        refine ⟨_, rfl, ?_⟩
        generalize hA : 0 + (i : Int) = A
        generalize hB : A + 1 + (j : Int) = B
        rw [hA] at hj'
        have eA : atI (tab n fun i => D.int (F i)) A = some (.int (F A)) := tab_at (by omega) (by omega)
        have eB : atI (tab n fun i => D.int (F i)) B = some (.int (F B)) := tab_at (by omega) (by omega)
        rw [wpS_seq]
        refine wpS_atom (ρ' := [.val (kd p q r s), .val (clk n F), .val (.int A), .val (.int B), .val (.int (F B - F A))]) (k := κ) (by simp [clk, eA, eB]) ?_
        have f1 := low' (t := B - A) (κ := κ) k
        have f2 := high' (t := B - A) (κ := κ) k
        simp only [kd] at f1 f2
        rw [wpS_if]
        by_cases g1 : F B - F A < lo p q (B - A)
        · refine wpE_atom (a := true) (k := κ) (by simp [f1, f2, g1]) ?_
          rw [if_pos rfl]
          exact wpS_atomR (d := .bl false) (k := κ) (by simp) ⟨rfl, _, rfl, by
            simp only [Bool.false_eq_true, false_iff]
            rintro ⟨_, _, g⟩
            have := (g A B (by omega) (by omega) (by omega)).1
            omega⟩
        by_cases g2 : hi r s (B - A) < F B - F A
        · refine wpE_atom (a := true) (k := κ) (by simp [f1, f2, g1, g2]) ?_
          rw [if_pos rfl]
          exact wpS_atomR (d := .bl false) (k := κ) (by simp) ⟨rfl, _, rfl, by
            simp only [Bool.false_eq_true, false_iff]
            rintro ⟨_, _, g⟩
            have := (g A B (by omega) (by omega) (by omega)).2
            omega⟩
        · refine wpE_atom (a := false) (k := κ) (by simp [f1, f2, g1, g2]) ?_
          rw [if_neg (by simp), wpS_next]
          refine ⟨rfl, ⟨_, _, rfl⟩, fun b b1 b2 b3 => ?_⟩
          by_cases hb : b = B
          · subst hb
            rw [show (i : Int) = A by omega]
            exact ⟨by omega, by omega⟩
          · exact hJ b b1 (by omega) b3
      · rintro ρ κ ⟨rfl, ⟨s3, s4, rfl⟩, hJ⟩
        rw [range_len] at hJ
        refine ⟨rfl, ⟨_, _, _, rfl⟩, fun a b a0 a1 b1 b2 => ?_⟩
        by_cases ha : a = i
        · subst ha; exact hJ b b1 (by omega) b2
        · exact hI a b a0 (by omega) b1 b2
    · rintro ρ κ' ⟨rfl, ⟨s2, s3, s4, rfl⟩, hI⟩
      rw [range_len] at hI
      refine wpS_atomR (d := .bl true) (k := κ') (by simp) ⟨rfl, _, rfl, ?_⟩
      simp only [true_iff]
      exact ⟨h0, h1, fun a b a0 a1 b1 => hI a b a0 (by omega) a1 b1⟩
  · refine wpE_atom (a := true) (k := κ) (by simp [clk, e0, h0]; exact h1) ?_
    rw [if_pos rfl]
    exact wpS_atomR (d := .bl false) (k := κ) (by simp) ⟨rfl, _, rfl, by simp [Clock, h1]⟩
theorem is_clk (k : Ki p q r s) (hn : n ≤ 1000000) : ∃ v, f_is_clock [kd p q r s, clk n F] κ = some (.ok (.bl v), κ) ∧ (v = true ↔ Clock p q r s n F) := by
  suffices h : wpE (f_is_clock [kd p q r s, clk n F] κ) fun d κ' => κ' = κ ∧ ∃ v, d = .bl v ∧ (v = true ↔ Clock p q r s n F) by
    obtain ⟨d, κ', e, rfl, v, rfl, hv⟩ := wpE_eq.mp h
    exact ⟨v, e, hv⟩
  unfold f_is_clock
  refine mean_wp ?_
  show wpS (m_is_clock [.val (kd p q r s), .val (clk n F), .no, .no] κ) _ _ _ _
  unfold m_is_clock
  rw [wpS_seq, wpS_if]
  have ec : cEq (clk n F) (.tup []) = some (decide (n = 0)) := by
    rw [clk_ints, cEq_tup0]; simp
  by_cases h0 : n = 0
  · refine wpE_atom (a := true) (k := κ) (by subst h0; simp [ec]) ?_
    rw [if_pos rfl]
    exact wpS_atomR (d := .bl false) (k := κ) (by simp) ⟨rfl, _, rfl, by simp [Clock, h0]⟩
  have e0 : oIdx κ (clk n F) (.int 0) = some (.int (F 0)) := tab_at (by omega) (by omega)
  by_cases h1 : F 0 = 0
  · refine wpE_atom (a := false) (k := κ) (by simp [ec, e0, h1, h0]) ?_
    rw [if_neg (by simp)]
    rw [wpS_next, wpS_seq]
    refine wpS_forE (κ1 := κ) (rangeD 0 n) (range1_ok (by omega) (by simp [clk])) (fun i ρ κ' => κ' = κ ∧ (∃ s2 s3, ρ = [.val (kd p q r s), .val (clk n F), s2, s3]) ∧ ∀ a b : Int, 0 ≤ a → a < i → a < b → b < n → Ok p q r s F a b) ⟨rfl, ⟨_, _, rfl⟩, fun a b h2 h3 => by omega⟩ ?_ ?_
    · rintro i d ρ κ' hd ⟨rfl, ⟨s2, s3, rfl⟩, hI⟩
      obtain ⟨rfl, hi'⟩ := mem_range hd
      refine ⟨_, rfl, ?_⟩
      refine wpS_forE (κ1 := κ') (rangeD (0 + (i : Int) + 1) n) (range2_ok (by omega) (by omega) (by simp [clk])) (fun j ρ κ => κ = κ' ∧ (∃ s3, ρ = [.val (kd p q r s), .val (clk n F), .val (.int (0 + (i : Int))), s3]) ∧ ∀ b : Int, (i : Int) < b → b < i + 1 + j → b < n → Ok p q r s F i b) ⟨rfl, ⟨_, rfl⟩, fun b h2 h3 => by omega⟩ ?_ ?_
      · rintro j d ρ κ hd ⟨rfl, ⟨s3, rfl⟩, hJ⟩
        obtain ⟨rfl, hj'⟩ := mem_range hd
        refine ⟨_, rfl, ?_⟩
        generalize hA : 0 + (i : Int) = A
        generalize hB : A + 1 + (j : Int) = B
        rw [hA] at hj'
        have eA : atI (tab n fun i => D.int (F i)) A = some (.int (F A)) := tab_at (by omega) (by omega)
        have eB : atI (tab n fun i => D.int (F i)) B = some (.int (F B)) := tab_at (by omega) (by omega)
        have f1 := least' (t := B - A) (κ := κ) k
        have f2 := most' (t := B - A) (κ := κ) k
        simp only [kd] at f1 f2
        rw [wpS_if]
        by_cases g1 : lo p q (B - A) ≤ F B - F A
        · by_cases g2 : F B - F A ≤ hi r s (B - A)
          · refine wpE_atom (a := false) (k := κ) (by simp [f1, f2, g1, g2, clk, eA, eB]) ?_
            rw [if_neg (by simp), wpS_next]
            refine ⟨rfl, ⟨_, rfl⟩, fun b b1 b2 b3 => ?_⟩
            by_cases hb : b = B
            · subst hb
              rw [show (i : Int) = A by omega]
              exact ⟨by omega, by omega⟩
            · exact hJ b b1 (by omega) b3
          · refine wpE_atom (a := true) (k := κ) (by simp [f1, f2, g1, g2, clk, eA, eB]) ?_
            rw [if_pos rfl]
            exact wpS_atomR (d := .bl false) (k := κ) (by simp) ⟨rfl, _, rfl, by
              simp only [Bool.false_eq_true, false_iff]
              rintro ⟨_, _, g⟩
              have := (g A B (by omega) (by omega) (by omega)).2
              omega⟩
        · refine wpE_atom (a := true) (k := κ) (by simp [f1, f2, g1, clk, eA, eB]) ?_
          rw [if_pos rfl]
          exact wpS_atomR (d := .bl false) (k := κ) (by simp) ⟨rfl, _, rfl, by
            simp only [Bool.false_eq_true, false_iff]
            rintro ⟨_, _, g⟩
            have := (g A B (by omega) (by omega) (by omega)).1
            omega⟩
      · rintro ρ κ ⟨rfl, ⟨s3, rfl⟩, hJ⟩
        rw [range_len] at hJ
        refine ⟨rfl, ⟨_, _, rfl⟩, fun a b a0 a1 b1 b2 => ?_⟩
        by_cases ha : a = i
        · subst ha; exact hJ b b1 (by omega) b2
        · exact hI a b a0 (by omega) b1 b2
    · rintro ρ κ' ⟨rfl, ⟨s2, s3, rfl⟩, hI⟩
      rw [range_len] at hI
      refine wpS_atomR (d := .bl true) (k := κ') (by simp) ⟨rfl, _, rfl, ?_⟩
      simp only [true_iff]
      exact ⟨h0, h1, fun a b a0 a1 b1 => hI a b a0 (by omega) a1 b1⟩
  · refine wpE_atom (a := true) (k := κ) (by simp [ec, e0, h0]; exact h1) ?_
    rw [if_pos rfl]
    exact wpS_atomR (d := .bl false) (k := κ) (by simp) ⟨rfl, _, rfl, by simp [Clock, h1]⟩
/-- both say the same -/
theorem clk_both (k : Ki p q r s) (hn : n ≤ 1000000) : ∃ v, f_is_clock [kd p q r s, clk n F] κ = some (.ok (.bl v), κ) ∧ f__law_is_clock [kd p q r s, clk n F] κ = some (.ok (.bl v), κ) ∧ (v = true ↔ Clock p q r s n F) := by
  obtain ⟨v, e1, h1⟩ := is_clk (κ := κ) (F := F) k hn
  obtain ⟨w, e2, h2⟩ := law_clk (κ := κ) (F := F) k hn
  have : w = v := by
    cases v <;> cases w <;> simp_all
  subst this
  exact ⟨w, e1, e2, h1⟩
end
end K82
set_option Elab.async false
set_option linter.all false
set_option maxRecDepth 100000
set_option maxHeartbeats 4000000
namespace K82
open PySem L2 DL
theorem eComp_tab {vs : List Nat} {n : Ev (List D)} {g : Tg} {e : Ev D} {ρ : List Sl} {κ κ1 : Ka} {lo hi : Int} (F : Int → D) (hn : n ρ κ = some (.ok (rangeD lo hi), κ1)) (hl : (hi - lo).toNat ≤ 16777216)
    (h : ∀ i, lo ≤ i → i < hi → ∃ ρ2, g (.int i) (wipeR ρ vs) = some ρ2 ∧ isBor (F i) = false ∧ e ρ2 κ1 = some (.ok (F i), κ1)) :
    eComp vs n g bYes e ρ κ = some (.ok (tab (hi - lo).toNat fun i => F (lo + i)), κ1) := by
  rw [eComp_map (fun d => match d with | .int i => F i | d => d) hn (by rw [range_len]; exact hl) ?_]
  · rw [range_tab, tab_map]
  · intro d hd
    rw [range_tab] at hd
    obtain ⟨i, h0, h1, rfl⟩ := tab_mem.mp hd
    exact h (lo + i) (by omega) (by omega)
section
variable {p q r s t m ph last : Int} {κ : Ka} {n : Nat} {F : Int → Int}
theorem slow' (k : Ki p q r s) (h0 : 0 ≤ last) (h1 : last ≤ 1000000) : f_slow_clock [kd p q r s, .int ph, .int last] κ = some (.ok (clk (last + 1).toNat (slw r s ph)), κ) := by
  have kk := k.kd
  unfold f_slow_clock mean
  show noEr (match m_slow_clock [.val (kd p q r s), .val (.int ph), .val (.int last), .no, .no, .no, .no] κ with | some (.nx _, κ') => some (.ok .non, κ') | some (.rt d, κ') => some (.ok d, κ') | some (.er c, κ') => some (.er c, κ') | _ => none) = _
  unfold m_slow_clock
  have e := eComp_tab (vs := [6]) (n := iRange1 (aCons (eOp oAdd (eVar 2) (eC (.int 1))) aNil)) (g := gNm 6) (e := eNeg (eOp oFdiv (eOp oSub (eVar 1) (eOp oMul (eVar 6) (eVar 4))) (eVar 5))) (ρ := [.val (kd p q r s), .val (.int ph), .val (.int last), .val (.int q), .val (.int r), .val (.int s), .no]) (κ := κ) (κ1 := κ) (lo := 0) (hi := last + 1) (fun i => .int (slw r s ph i)) (range1_ok (by omega) (by simp)) (by omega) (fun i _ _ => by
    refine ⟨_, rfl, rfl, ?_⟩
    have e1 := kk.mr i
    have e2 := neg_fl (u := i * r - ph) k.s0
    rw [show -(i * r - ph) = ph - i * r by omega] at e2
    unfold fl at e2
    simp [oMul_int e1, oFdiv_int kk.s0 kk.s1, e2, slw])
  simp only [kd] at e
  simp [e, clk]
theorem fast' (k : Ki p q r s) (h0 : 0 ≤ last) (h1 : last ≤ 1000000) : f_fast_clock [kd p q r s, .int ph, .int last] κ = some (.ok (clk (last + 1).toNat (fst' p q ph)), κ) := by
  have kk := k.kd
  unfold f_fast_clock mean
  show noEr (match m_fast_clock [.val (kd p q r s), .val (.int ph), .val (.int last), .no, .no, .no, .no] κ with | some (.nx _, κ') => some (.ok .non, κ') | some (.rt d, κ') => some (.ok d, κ') | some (.er c, κ') => some (.er c, κ') | _ => none) = _
  unfold m_fast_clock
  have e := eComp_tab (vs := [6]) (n := iRange1 (aCons (eOp oAdd (eVar 2) (eC (.int 1))) aNil)) (g := gNm 6) (e := eOp oFdiv (eOp oAdd (eOp oMul (eVar 6) (eVar 3)) (eVar 1)) (eVar 4)) (ρ := [.val (kd p q r s), .val (.int ph), .val (.int last), .val (.int p), .val (.int q), .val (.int s), .no]) (κ := κ) (κ1 := κ) (lo := 0) (hi := last + 1) (fun i => .int (fst' p q ph i)) (range1_ok (by omega) (by simp)) (by omega) (fun i _ _ => by
    refine ⟨_, rfl, rfl, ?_⟩
    have e1 := kk.mp i
    simp [oMul_int e1, oFdiv_int kk.q0 kk.q1, fst', fl])
  simp only [kd] at e
  simp [e, clk]
theorem slowest' (k : Ki p q r s) (h0 : 0 ≤ last) (h1 : last ≤ 1000000) : f_slowest_from [kd p q r s, .int t, .int last] κ = some (.ok (clk (last + 1).toNat (slw r s ((t * r).fmod s))), κ) := by
  have kk := k.kd
  have e := slow' (ph := (t * r).fmod s) (κ := κ) k h0 h1
  simp only [kd] at e
  simp [f_slowest_from, m_slowest_from, mean, slots, List.replicate, oMul_int (kk.mr t), oMod_int kk.s0, e, clk]
theorem fastest' (k : Ki p q r s) (h0 : 0 ≤ last) (h1 : last ≤ 1000000) : f_fastest_from [kd p q r s, .int t, .int last] κ = some (.ok (clk (last + 1).toNat (fst' p q ((-t * p).fmod q))), κ) := by
  have kk := k.kd
  have e := fast' (ph := (-t * p).fmod q) (κ := κ) k h0 h1
  simp only [kd] at e
  simp only [f_fastest_from, m_fastest_from, mean, slots, List.replicate]
  have h2 := oMul_int (kk.mp (-t))
  have h3 := oMod_int (i := -t * p) kk.q0
  generalize -t * p = z at *
  simp [h2, h3, e, clk]
theorem clk_sm (h : n ≤ 16777216) : Sm 12 (clk n F) := by
  rw [clk_ints]; exact Sm.ints _ (by simpa using h)
theorem Ki.slwC (k : Ki p q r s) (h0 : 0 ≤ ph) (h1 : ph < s) (hn : n ≠ 0) : Clock p q r s n (slw r s ph) :=
  ⟨hn, k.slw_0 h0 h1, fun a b _ h2 _ => k.slw_gap (by omega)⟩
theorem Ki.fstC (k : Ki p q r s) (h0 : 0 ≤ ph) (h1 : ph < q) (hn : n ≠ 0) : Clock p q r s n (fst' p q ph) :=
  ⟨hn, k.fst_0 h0 h1, fun a b _ h2 _ => k.fst_gap (by omega)⟩
theorem clk_true (k : Ki p q r s) (hn : n ≤ 1000000) (h : Clock p q r s n F) : f__law_is_clock [kd p q r s, clk n F] κ = some (.ok (.bl true), κ) := by
  obtain ⟨v, e, hv⟩ := law_clk (κ := κ) (F := F) k hn
  rw [e, hv.mpr h]
theorem clk_congr {G : Int → Int} (h : ∀ i : Int, 0 ≤ i → i < n → F i = G i) : clk n F = clk n G := by
  unfold clk; rw [tab_congr fun i h0 h1 => by rw [h i h0 h1]]
end
end K82
set_option Elab.async false
set_option linter.all false
set_option maxRecDepth 100000
set_option maxHeartbeats 4000000
namespace K82
open PySem L2 DL
theorem clk_def {n : Nat} {F : Int → Int} : clk n F = .tup (tab n fun i => .int (F i)) := rfl
theorem ext_step {κ : Ka} {DD' KK X Y : D} {p q r s L t o1 o2 C A B A' B' h l : Int} {s13 s14 : Sl} (i1 : oIdx κ X (.int (t + C)) = some (.int A)) (i2 : oIdx κ X (.int t) = some (.int B)) (i3 : oIdx κ Y (.int (t + C)) = some (.int A')) (i4 : oIdx κ Y (.int t) = some (.int B')) (f1 : f__law_high [KK, .int C] κ = some (.ok (.int h), κ)) (f2 : f__law_low [KK, .int C] κ = some (.ok (.int l), κ)) (e1 : A - B = h) (e2 : A' - B' = l) :
    (sIf (bOr (bCmp cNe (eOp oSub (eIdx (eVar 8) (eOp oAdd (eVar 7) (eVar 12))) (eIdx (eVar 8) (eVar 7))) (eCall 2 f__law_high (aCons (eVar 1) (aCons (eVar 12) aNil)))) (bCmp cNe (eOp oSub (eIdx (eVar 9) (eOp oAdd (eVar 7) (eVar 12))) (eIdx (eVar 9) (eVar 7))) (eCall 2 f__law_low (aCons (eVar 1) (aCons (eVar 12) aNil))))) (sRet (eC (.bl false))) sNext) [.val DD', .val KK, .val (.int p), .val (.int q), .val (.int r), .val (.int s), .val (.int L), .val (.int t), .val X, .val Y, .val (.int o1), .val (.int o2), .val (.int C), s13, s14] κ = some (.nx [.val DD', .val KK, .val (.int p), .val (.int q), .val (.int r), .val (.int s), .val (.int L), .val (.int t), .val X, .val Y, .val (.int o1), .val (.int o2), .val (.int C), s13, s14], κ) := by
  simp [i1, i2, i3, i4, f1, f2, e1, e2]
section
variable {p q r s : Int}
theorem extremes_ok (R : List Int) (T i : Int) (h0 : 0 ≤ i) (k : Ki p q r s) : ∃ j, f__law_extremes [dealD R T, kd p q r s] (at_ i) = some (.ok (.bl true), at_ j) ∧ 0 ≤ j := by
  suffices h : wpE (f__law_extremes [dealD R T, kd p q r s] (at_ i)) fun d κ => d = .bl true ∧ ∃ j, κ = at_ j ∧ 0 ≤ j by
    obtain ⟨d, κ, e, rfl, j, rfl, hj⟩ := wpE_eq.mp h
    exact ⟨j, e, hj⟩
  have kk := k.kd
  have hs0 := k.s0
  have hq0 := k.q0
  unfold f__law_extremes
  refine mean_wp ?_
  show wpS (m__law_extremes [.val (dealD R T), .val (kd p q r s), .no, .no, .no, .no, .no, .no, .no, .no, .no, .no, .no, .no, .no] (at_ i)) _ _ _ _
  unfold m__law_extremes
  simp only [wpS_seq]
  generalize hDD : dealD R T = DD'
  generalize hKK : kd p q r s = KK
  refine wpS_atom (ρ' := [.val DD', .val KK, .val (.int p), .val (.int q), .val (.int r), .val (.int s), .no, .no, .no, .no, .no, .no, .no, .no, .no]) (k := at_ i) (by simp [← hKK]) ?_
  obtain ⟨a, e1, a0, a1⟩ := take_ok R T i 12 h0 (by omega)
  rw [hDD] at e1
  refine wpS_atom (ρ' := [.val DD', .val KK, .val (.int p), .val (.int q), .val (.int r), .val (.int s), .val (.int (4 + a)), .no, .no, .no, .no, .no, .no, .no, .no]) (k := at_ (i + 1)) (by simp [e1]) ?_
  generalize hL : 4 + a = L
  obtain ⟨t, e2, t0, t1⟩ := take_ok R T (i + 1) L (by omega) (by omega)
  rw [hDD] at e2
  refine wpS_atom (ρ' := [.val DD', .val KK, .val (.int p), .val (.int q), .val (.int r), .val (.int s), .val (.int L), .val (.int t), .no, .no, .no, .no, .no, .no, .no]) (k := at_ (i + 1 + 1)) (by simp [e2]) ?_
  generalize hj : i + 1 + 1 = j
  have hS := slowest' (t := t) (last := L) (κ := at_ j) k (by omega) (by omega)
  have hF := fastest' (t := t) (last := L) (κ := at_ j) k (by omega) (by omega)
  rw [hKK] at hS hF
  have hSc : Clock p q r s (L + 1).toNat (slw r s ((t * r).fmod s)) := k.slwC (fmod_bd _ hs0).1 (fmod_bd _ hs0).2 (by omega)
  have hFc : Clock p q r s (L + 1).toNat (fst' p q ((-t * p).fmod q)) := k.fstC (fmod_bd _ hq0).1 (fmod_bd _ hq0).2 (by omega)
  have hS3 := slow' (ph := (t * r).fmod s) (last := L) (κ := at_ j) k (by omega) (by omega)
  have hF3 := fast' (ph := (-t * p).fmod q) (last := L) (κ := at_ j) k (by omega) (by omega)
  have hS4 := clk_true (κ := at_ j) k (by omega) hSc
  have hF4 := clk_true (κ := at_ j) k (by omega) hFc
  have hS5 : ∀ c, slw r s ((t * r).fmod s) (t + c) - slw r s ((t * r).fmod s) t = hi r s c := fun c => k.slw_at
  have hF5 : ∀ c, fst' p q ((-t * p).fmod q) (t + c) - fst' p q ((-t * p).fmod q) t = lo p q c := fun c => k.fst_at
  have eo : t * r - (t * r).fdiv s * s = (t * r).fmod s := (fl_mod hs0).symm
  have et : (q - 1) * t * p - ((q - 1) * t * p).fdiv q * q = (-t * p).fmod q := k.two
  have hN : (L + 1).toNat = ((L + 1).toNat : Int) := rfl
  have hN2 : (((L + 1).toNat : Nat) : Int) = L + 1 := by omega
  generalize (t * r).fmod s = o1 at *
  generalize (-t * p).fmod q = o2 at *
  rw [hKK] at hS3 hF3 hS4 hF4
  generalize hSL : slw r s o1 = SL at *
  generalize hFL : fst' p q o2 = FL at *
  generalize hn : (L + 1).toNat = n at *
  refine wpS_atom (ρ' := [.val DD', .val KK, .val (.int p), .val (.int q), .val (.int r), .val (.int s), .val (.int L), .val (.int t), .val (clk n SL), .val (clk n FL), .no, .no, .no, .no, .no]) (k := at_ j) (by simp [hS, hF, clk]) ?_
  refine wpS_atom (ρ' := [.val DD', .val KK, .val (.int p), .val (.int q), .val (.int r), .val (.int s), .val (.int L), .val (.int t), .val (clk n SL), .val (clk n FL), .val (.int o1), .val (.int o2), .no, .no, .no]) (k := at_ j) ?_ ?_
  · rw [← eo, ← et]
    have g1 := oMul_int (kk.mr t)
    have g2 := oFdiv_int (i := t * r) kk.s0 kk.s1
    have g3 : oMul (.int ((t * r).fdiv s)) (.int s) = _ := oMul_int (mulOk_r (by have := kk.s1; omega) (by have := kk.s1; omega))
    have g4 : oMul (.int (q - 1)) (.int t) = _ := oMul_int (mulOk_r (by omega) (by omega))
    have g5 := oMul_int (kk.mp ((q - 1) * t))
    have g6 := oFdiv_int (i := (q - 1) * t * p) kk.q0 kk.q1
    have g7 : oMul (.int (((q - 1) * t * p).fdiv q)) (.int q) = _ := oMul_int (mulOk_r (by have := kk.q1; omega) (by have := kk.q1; omega))
    clear hS hF hS3 hF3 hS4 hF4 eo et
    simp [g1, g2, g3, g4, g5, g6, g7]
  have s1 : DL.f__law_same [clk n SL, clk n SL] (at_ j) = some (.ok (.bl true), at_ j) := same_ok (clk_sm (by omega))
  have s2 : DL.f__law_same [clk n FL, clk n FL] (at_ j) = some (.ok (.bl true), at_ j) := same_ok (clk_sm (by omega))
  refine wpS_atom (ρ' := [.val DD', .val KK, .val (.int p), .val (.int q), .val (.int r), .val (.int s), .val (.int L), .val (.int t), .val (clk n SL), .val (clk n FL), .val (.int o1), .val (.int o2), .no, .no, .no]) (k := at_ j) ?_ ?_
  · simp [hS3, hF3, s1, s2]
  have l1 : ∀ F, bLen (at_ j) [clk n F] = some (.int (L + 1)) := fun F => by unfold clk; rw [bLen_tup, tab_len, hN2]
  refine wpS_atom (ρ' := [.val DD', .val KK, .val (.int p), .val (.int q), .val (.int r), .val (.int s), .val (.int L), .val (.int t), .val (clk n SL), .val (clk n FL), .val (.int o1), .val (.int o2), .no, .no, .no]) (k := at_ j) ?_ ?_
  · simp [l1, hS4, hF4]
  refine wpS_forE (κ1 := at_ j) (rangeD 0 (L + 1 - t)) (range1_ok (by omega) (by simp)) (fun _ ρ κ => κ = at_ j ∧ ∃ s12, ρ = [.val DD', .val KK, .val (.int p), .val (.int q), .val (.int r), .val (.int s), .val (.int L), .val (.int t), .val (clk n SL), .val (clk n FL), .val (.int o1), .val (.int o2), s12, .no, .no]) ⟨rfl, _, rfl⟩ ?_ ?_
  · rintro m d ρ κ hd ⟨rfl, s12, rfl⟩
    obtain ⟨rfl, hm⟩ := mem_range hd
    refine ⟨_, rfl, ?_⟩
    generalize hC : 0 + (m : Int) = C
    have f1 := low' (t := C) (κ := at_ j) k
    have f2 := high' (t := C) (κ := at_ j) k
    rw [hKK] at f1 f2
    have i1 : ∀ F, oIdx (at_ j) (clk n F) (.int (t + C)) = some (.int (F (t + C))) := fun F => tab_at (by omega) (by omega)
    have i2 : ∀ F, oIdx (at_ j) (clk n F) (.int t) = some (.int (F t)) := fun F => tab_at (by omega) (by omega)
    refine wpS_atom (ρ' := [.val DD', .val KK, .val (.int p), .val (.int q), .val (.int r), .val (.int s), .val (.int L), .val (.int t), .val (clk n SL), .val (clk n FL), .val (.int o1), .val (.int o2), .val (.int C), .no, .no]) (k := at_ j) ?_ ⟨rfl, _, rfl⟩
    exact ext_step (i1 SL) (i2 SL) (i1 FL) (i2 FL) f2 f1 (hS5 C) (hF5 C)
  · rintro ρ κ ⟨rfl, s12, rfl⟩
    obtain ⟨b, e3, b0, b1⟩ := take_ok R T j s (by omega) hs0
    rw [hDD] at e3
    refine wpS_forE (κ1 := at_ (j + 1)) [.int 0, .int b, .int (s - 1)] (by simp [e3]) (fun _ ρ κ => κ = at_ (j + 1) ∧ ∃ s12 s13 s14, ρ = [.val DD', .val KK, .val (.int p), .val (.int q), .val (.int r), .val (.int s), .val (.int L), .val (.int t), .val (clk n SL), .val (clk n FL), .val (.int o1), .val (.int o2), s12, s13, s14]) ⟨rfl, _, _, _, rfl⟩ ?_ ?_
    · rintro _ d ρ κ hd ⟨rfl, s12, s13, s14, rfl⟩
      have : ∃ ph, d = .int ph ∧ 0 ≤ ph ∧ ph < s := by
        have := List.mem_of_getElem? hd
        simp only [List.mem_cons, List.not_mem_nil, or_false] at this
        rcases this with h | h | h <;> exact ⟨_, h, by omega, by omega⟩
      obtain ⟨ph, rfl, p0, p1⟩ := this
      refine ⟨_, rfl, ?_⟩
      rw [wpS_seq]
      refine wpS_atom (ρ' := [.val DD', .val KK, .val (.int p), .val (.int q), .val (.int r), .val (.int s), .val (.int L), .val (.int t), .val (clk n SL), .val (clk n FL), .val (.int o1), .val (.int o2), s12, .val (.int ph), .val (clk n (slw r s ph))]) (k := at_ (j + 1)) ?_ ?_
      · have e := eComp_tab (vs := [12]) (n := iRange1 (aCons (eOp oAdd (eVar 6) (eC (.int 1))) aNil)) (g := gNm 12) (e := eOp oFdiv (eOp oSub (eOp oAdd (eOp oSub (eOp oMul (eVar 12) (eVar 4)) (eVar 13)) (eVar 5)) (eC (.int 1))) (eVar 5)) (ρ := [.val DD', .val KK, .val (.int p), .val (.int q), .val (.int r), .val (.int s), .val (.int L), .val (.int t), .val (clk n SL), .val (clk n FL), .val (.int o1), .val (.int o2), s12, .val (.int ph), s14]) (κ := at_ (j + 1)) (κ1 := at_ (j + 1)) (lo := 0) (hi := L + 1) (fun i => .int (slw r s ph i)) (range1_ok (by omega) (by simp)) (by omega) (fun i _ _ => by
          refine ⟨_, rfl, rfl, ?_⟩
          have e1 := kk.mr i
          simp [oMul_int e1, oFdiv_int kk.s0 kk.s1, slw, ce])
        simp [e, hn]
        rfl
      · have g1 := slow' (ph := ph) (last := L) (κ := at_ (j + 1)) k (by omega) (by omega)
        rw [hKK, hn] at g1
        have g2 : DL.f__law_same [clk n (slw r s ph), clk n (slw r s ph)] (at_ (j + 1)) = some (.ok (.bl true), at_ (j + 1)) := same_ok (clk_sm (by omega))
        have g3 := clk_true (κ := at_ (j + 1)) k (by omega) (k.slwC (n := n) p0 p1 (by omega))
        rw [hKK] at g3
        refine wpS_atom (ρ' := [.val DD', .val KK, .val (.int p), .val (.int q), .val (.int r), .val (.int s), .val (.int L), .val (.int t), .val (clk n SL), .val (clk n FL), .val (.int o1), .val (.int o2), s12, .val (.int ph), .val (clk n (slw r s ph))]) (k := at_ (j + 1)) ?_ ⟨rfl, _, _, _, rfl⟩
        simp [g1, g2, g3]
    · rintro ρ κ ⟨rfl, s12, s13, s14, rfl⟩
      obtain ⟨b, e3, b0, b1⟩ := take_ok R T (j + 1) q (by omega) hq0
      rw [hDD] at e3
      refine wpS_forE (κ1 := at_ (j + 1 + 1)) [.int 0, .int b, .int (q - 1)] (by simp [e3]) (fun _ ρ κ => κ = at_ (j + 1 + 1) ∧ ∃ s12 s13 s14, ρ = [.val DD', .val KK, .val (.int p), .val (.int q), .val (.int r), .val (.int s), .val (.int L), .val (.int t), .val (clk n SL), .val (clk n FL), .val (.int o1), .val (.int o2), s12, s13, s14]) ⟨rfl, _, _, _, rfl⟩ ?_ ?_
      · rintro _ d ρ κ hd ⟨rfl, s12, s13, s14, rfl⟩
        have : ∃ ph, d = .int ph ∧ 0 ≤ ph ∧ ph < q := by
          have := List.mem_of_getElem? hd
          simp only [List.mem_cons, List.not_mem_nil, or_false] at this
          rcases this with h | h | h <;> exact ⟨_, h, by omega, by omega⟩
        obtain ⟨ph, rfl, p0, p1⟩ := this
        refine ⟨_, rfl, ?_⟩
        rw [wpS_seq]
        refine wpS_atom (ρ' := [.val DD', .val KK, .val (.int p), .val (.int q), .val (.int r), .val (.int s), .val (.int L), .val (.int t), .val (clk n SL), .val (clk n FL), .val (.int o1), .val (.int o2), s12, .val (.int ph), .val (clk n (fst' p q ph))]) (k := at_ (j + 1 + 1)) ?_ ?_
        · have e := eComp_tab (vs := [12]) (n := iRange1 (aCons (eOp oAdd (eVar 6) (eC (.int 1))) aNil)) (g := gNm 12) (e := eOp oFdiv (eOp oAdd (eOp oMul (eVar 12) (eVar 2)) (eVar 13)) (eVar 3)) (ρ := [.val DD', .val KK, .val (.int p), .val (.int q), .val (.int r), .val (.int s), .val (.int L), .val (.int t), .val (clk n SL), .val (clk n FL), .val (.int o1), .val (.int o2), s12, .val (.int ph), s14]) (κ := at_ (j + 1 + 1)) (κ1 := at_ (j + 1 + 1)) (lo := 0) (hi := L + 1) (fun i => .int (fst' p q ph i)) (range1_ok (by omega) (by simp)) (by omega) (fun i _ _ => by
            refine ⟨_, rfl, rfl, ?_⟩
            have e1 := kk.mp i
            simp [oMul_int e1, oFdiv_int kk.q0 kk.q1, fst', fl])
          simp [e, hn]
          rfl
        · have g1 := fast' (ph := ph) (last := L) (κ := at_ (j + 1 + 1)) k (by omega) (by omega)
          rw [hKK, hn] at g1
          have g2 : DL.f__law_same [clk n (fst' p q ph), clk n (fst' p q ph)] (at_ (j + 1 + 1)) = some (.ok (.bl true), at_ (j + 1 + 1)) := same_ok (clk_sm (by omega))
          have g3 := clk_true (κ := at_ (j + 1 + 1)) k (by omega) (k.fstC (n := n) p0 p1 (by omega))
          rw [hKK] at g3
          refine wpS_atom (ρ' := [.val DD', .val KK, .val (.int p), .val (.int q), .val (.int r), .val (.int s), .val (.int L), .val (.int t), .val (clk n SL), .val (clk n FL), .val (.int o1), .val (.int o2), s12, .val (.int ph), .val (clk n (fst' p q ph))]) (k := at_ (j + 1 + 1)) ?_ ⟨rfl, _, _, _, rfl⟩
          simp [g1, g2, g3]
      · rintro ρ κ ⟨rfl, s12, s13, s14, rfl⟩
        exact wpS_atomR (d := .bl true) (k := at_ (j + 1 + 1)) (by simp) ⟨rfl, _, rfl, by omega⟩
end
end K82
set_option Elab.async false
set_option linter.all false
set_option maxRecDepth 100000
set_option maxHeartbeats 4000000
namespace K82
open PySem L2 DL
theorem bMax_tab {κ : Ka} {n : Nat} {G : Int → Int} (h : n ≠ 0) : ∃ m, bMax κ [.lst (tab n fun i => .int (G i))] = some (.int m) ∧ (∃ i : Int, 0 ≤ i ∧ i < n ∧ m = G i) ∧ ∀ i : Int, 0 ≤ i → i < n → G i ≤ m := by
  obtain ⟨m, e, h1, h2⟩ := bMax_ok (κ := κ) (b := false) (l := (List.range n).map fun (k : Nat) => G (k : Int)) (by simpa using h)
  refine ⟨m, by rw [tab_ints]; exact e, ?_, ?_⟩
  · obtain ⟨k, hk, rfl⟩ := List.mem_map.mp h1
    exact ⟨k, by omega, by have := List.mem_range.mp hk; omega, rfl⟩
  · intro i h0 h1
    exact h2 _ (List.mem_map.mpr ⟨i.toNat, List.mem_range.mpr (by omega), by rw [Int.toNat_of_nonneg h0]⟩)
theorem bMin_tab {κ : Ka} {n : Nat} {G : Int → Int} (h : n ≠ 0) : ∃ m, bMin κ [.lst (tab n fun i => .int (G i))] = some (.int m) ∧ (∃ i : Int, 0 ≤ i ∧ i < n ∧ m = G i) ∧ ∀ i : Int, 0 ≤ i → i < n → m ≤ G i := by
  obtain ⟨m, e, h1, h2⟩ := bMin_ok (κ := κ) (b := false) (l := (List.range n).map fun (k : Nat) => G (k : Int)) (by simpa using h)
  refine ⟨m, by rw [tab_ints]; exact e, ?_, ?_⟩
  · obtain ⟨k, hk, rfl⟩ := List.mem_map.mp h1
    exact ⟨k, by omega, by have := List.mem_range.mp hk; omega, rfl⟩
  · intro i h0 h1
    exact h2 _ (List.mem_map.mpr ⟨i.toNat, List.mem_range.mpr (by omega), by rw [Int.toNat_of_nonneg h0]⟩)
section
variable {p q r s a b c : Int} {n : Nat} {F : Int → Int}
theorem Good.cross (g : Good p q r s n F) (k : Ki p q r s) (a0 : 0 ≤ a) (a1 : a < n) (b0 : 0 ≤ b) (b1 : b < n) (hc : c = n) : F a + lo p q (c - a) ≤ F b + hi r s (c - b) := by
  rcases Int.lt_trichotomy a b with h | h | h
  · have h1 := (g a b a0 h b1).1
    have h2 := k.lo_add_hi (a := b - a) (b := c - b) (by omega) (by omega)
    rw [show b - a + (c - b) = c - a by omega] at h2
    omega
  · subst h
    have := k.lo_hi (a := c - a) (by omega)
    omega
  · have h1 := (g b a b0 h a1).2
    have h2 := k.hi_lo (a := a - b) (b := c - a) (by omega) (by omega)
    rw [show a - b + (c - a) = c - b by omega] at h2
    omega
theorem Good.snoc {x : Int} (g : Good p q r s n F) (h1 : ∀ a : Int, 0 ≤ a → a < n → F a + lo p q (n - a) ≤ x) (h2 : ∀ a : Int, 0 ≤ a → a < n → x ≤ F a + hi r s (n - a)) : Good p q r s (n + 1) fun i => if i = n then x else F i := by
  intro a b a0 ab bn
  unfold Ok
  have ha : ¬ a = n := by omega
  simp only [if_neg ha]
  by_cases hb : b = n
  · subst hb
    have := h1 a a0 (by omega); have := h2 a a0 (by omega)
    simp only [if_true]
    omega
  · simp only [if_neg hb]
    exact g a b a0 ab (by omega)
theorem tab_snoc {x : Int} : (tab (n + 1) fun i => D.int (if i = n then x else F i)) = (tab n fun i => D.int (F i)) ++ [.int x] := by
  rw [tab_succ]
  congr 1
  · refine tab_congr fun i h0 h1 => ?_
    rw [if_neg (by omega)]
  · simp
theorem clock_step1 {κ : Ka} {DD' KK : D} {L way c m : Int} {ds : List D} {s6 s7 s8 : Sl} {T : List D} (e : eComp [8] (iRange1 (aCons (eVar 5) aNil)) (gNm 8) bYes (eOp oAdd (eIdx (eVar 3) (eVar 8)) (eCall 2 f__law_low (aCons (eVar 1) (aCons (eOp oSub (eVar 5) (eVar 8)) aNil)))) [.val DD', .val KK, .val (.int L), .own ds, .val (.int way), .val (.int c), s6, s7, s8] κ = some (.ok T, κ)) (f : bMax κ [.lst T] = some (.int m)) :
    sAsg (gNm 6) (eBi bMax (aCons (eFr (eComp [8] (iRange1 (aCons (eVar 5) aNil)) (gNm 8) bYes (eOp oAdd (eIdx (eVar 3) (eVar 8)) (eCall 2 f__law_low (aCons (eVar 1) (aCons (eOp oSub (eVar 5) (eVar 8)) aNil)))))) aNil)) [.val DD', .val KK, .val (.int L), .own ds, .val (.int way), .val (.int c), s6, s7, s8] κ = some (.nx [.val DD', .val KK, .val (.int L), .own ds, .val (.int way), .val (.int c), .val (.int m), s7, s8], κ) := by
  rw [sAsg_def, eBi_def, aCons_def, eFr_def, e]
  simp [f]
theorem clock_step2 {κ : Ka} {DD' KK : D} {L way c m : Int} {ds : List D} {s6 s7 s8 : Sl} {T : List D} (e : eComp [8] (iRange1 (aCons (eVar 5) aNil)) (gNm 8) bYes (eOp oAdd (eIdx (eVar 3) (eVar 8)) (eCall 2 f__law_high (aCons (eVar 1) (aCons (eOp oSub (eVar 5) (eVar 8)) aNil)))) [.val DD', .val KK, .val (.int L), .own ds, .val (.int way), .val (.int c), s6, s7, s8] κ = some (.ok T, κ)) (f : bMin κ [.lst T] = some (.int m)) :
    sAsg (gNm 7) (eBi bMin (aCons (eFr (eComp [8] (iRange1 (aCons (eVar 5) aNil)) (gNm 8) bYes (eOp oAdd (eIdx (eVar 3) (eVar 8)) (eCall 2 f__law_high (aCons (eVar 1) (aCons (eOp oSub (eVar 5) (eVar 8)) aNil)))))) aNil)) [.val DD', .val KK, .val (.int L), .own ds, .val (.int way), .val (.int c), s6, s7, s8] κ = some (.nx [.val DD', .val KK, .val (.int L), .own ds, .val (.int way), .val (.int c), s6, .val (.int m), s8], κ) := by
  rw [sAsg_def, eBi_def, aCons_def, eFr_def, e]
  simp [f]
theorem clock_ok (R : List Int) (T i L : Int) (h0 : 0 ≤ i) (k : Ki p q r s) (l0 : 0 ≤ L) (l1 : L ≤ 100) : ∃ F j, f__law_clock [dealD R T, kd p q r s, .int L] (at_ i) = some (.ok (clk (L + 1).toNat F), at_ j) ∧ Clock p q r s (L + 1).toNat F ∧ 0 ≤ j := by
  suffices h : wpE (f__law_clock [dealD R T, kd p q r s, .int L] (at_ i)) fun d κ => ∃ F j, d = clk (L + 1).toNat F ∧ κ = at_ j ∧ Clock p q r s (L + 1).toNat F ∧ 0 ≤ j by
    obtain ⟨d, κ, e, F, j, rfl, rfl, h1, h2⟩ := wpE_eq.mp h
    exact ⟨F, j, e, h1, h2⟩
  unfold f__law_clock
  refine mean_wp ?_
  show wpS (m__law_clock [.val (dealD R T), .val (kd p q r s), .val (.int L), .no, .no, .no, .no, .no, .no] (at_ i)) _ _ _ _
  unfold m__law_clock
  simp only [wpS_seq]
  obtain ⟨w, e1, w0, w1⟩ := take_ok R T i 3 h0 (by omega)
  refine wpS_atom (ρ' := [.val (dealD R T), .val (kd p q r s), .val (.int L), .own (tab 1 fun i => .int ((fun _ => 0) i)), .no, .no, .no, .no, .no]) (k := at_ i) (by simp [tab]) ?_
  refine wpS_atom (ρ' := [.val (dealD R T), .val (kd p q r s), .val (.int L), .own (tab 1 fun i => .int ((fun _ => 0) i)), .val (.int w), .no, .no, .no, .no]) (k := at_ (i + 1)) (by simp [e1]) ?_
  refine wpS_forE (κ1 := at_ (i + 1)) (rangeD 1 (L + 1)) (range2_ok (by omega) (by omega) (by simp)) (fun m ρ κ => ∃ F j s5 s6 s7 s8, κ = at_ j ∧ 0 ≤ j ∧ ρ = [.val (dealD R T), .val (kd p q r s), .val (.int L), .own (tab (m + 1) fun i => .int (F i)), .val (.int w), s5, s6, s7, s8] ∧ F 0 = 0 ∧ Good p q r s (m + 1) F) ⟨_, _, _, _, _, _, rfl, by omega, rfl, rfl, fun a b _ _ _ => by omega⟩ ?_ ?_
  · rintro m d ρ κ hd ⟨F, j, s5, s6, s7, s8, rfl, hj, rfl, F0, hG⟩
    obtain ⟨rfl, hm⟩ := mem_range hd
    refine ⟨_, rfl, ?_⟩
    simp only [wpS_seq]
    generalize hC : 1 + (m : Int) = C
    have hC1 : C = ((m + 1 : Nat) : Int) := by omega
    have hC2 : (C - 0).toNat = m + 1 := by omega
    generalize hn : m + 1 = n at *
    have eL := eComp_tab (vs := [8]) (n := iRange1 (aCons (eVar 5) aNil)) (g := gNm 8) (e := eOp oAdd (eIdx (eVar 3) (eVar 8)) (eCall 2 f__law_low (aCons (eVar 1) (aCons (eOp oSub (eVar 5) (eVar 8)) aNil)))) (ρ := [.val (dealD R T), .val (kd p q r s), .val (.int L), .own (tab n fun i => .int (F i)), .val (.int w), .val (.int C), s6, s7, s8]) (κ := at_ j) (κ1 := at_ j) (lo := 0) (hi := C) (fun i => .int (F i + lo p q (C - i))) (range1_ok (by omega) (by simp)) (by omega) (fun a a0 a1 => by
      refine ⟨_, rfl, rfl, ?_⟩
      have f1 := low' (t := C - a) (κ := at_ j) k
      have f2 : atI (tab n fun i => D.int (F i)) a = some (.int (F a)) := tab_at (by omega) (by omega)
      simp only [kd] at f1
      simp [f1, f2])
    rw [hC2] at eL
    obtain ⟨low, eM, ⟨al, al0, al1, rfl⟩, hM⟩ := bMax_tab (κ := at_ j) (n := n) (G := fun i => F (0 + i) + lo p q (C - (0 + i))) (by omega)
    refine wpS_atom (clock_step1 eL eM) ?_
    simp only [Int.zero_add] at *
    generalize hlow : F al + lo p q (C - al) = low at *
    have eH := eComp_tab (vs := [8]) (n := iRange1 (aCons (eVar 5) aNil)) (g := gNm 8) (e := eOp oAdd (eIdx (eVar 3) (eVar 8)) (eCall 2 f__law_high (aCons (eVar 1) (aCons (eOp oSub (eVar 5) (eVar 8)) aNil)))) (ρ := [.val (dealD R T), .val (kd p q r s), .val (.int L), .own (tab n fun i => .int (F i)), .val (.int w), .val (.int C), .val (.int low), s7, s8]) (κ := at_ j) (κ1 := at_ j) (lo := 0) (hi := C) (fun i => .int (F i + hi r s (C - i))) (range1_ok (by omega) (by simp)) (by omega) (fun a a0 a1 => by
      refine ⟨_, rfl, rfl, ?_⟩
      have f1 := high' (t := C - a) (κ := at_ j) k
      have f2 : atI (tab n fun i => D.int (F i)) a = some (.int (F a)) := tab_at (by omega) (by omega)
      simp only [kd] at f1
      simp [f1, f2])
    rw [hC2] at eH
    simp only [Int.zero_add] at eH
    obtain ⟨high, eN, ⟨bl, bl0, bl1, rfl⟩, hN⟩ := bMin_tab (κ := at_ j) (n := n) (G := fun i => F i + hi r s (C - i)) (by omega)
    refine wpS_atom (clock_step2 eH eN) ?_
    have hlh : low ≤ F bl + hi r s (C - bl) := by rw [← hlow]; exact hG.cross k al0 al1 bl0 bl1 hC1
    generalize hhigh : F bl + hi r s (C - bl) = high at *
    clear eL eM eH eN
    obtain ⟨v, e2, v0, v1⟩ := take_ok R T j ((if (900 : Int) < high - low then 900 else high - low) + 1) hj (by split <;> omega)
    have v2 : v ≤ high - low := by split at v1 <;> omega
    have fin : ∀ (x j' : Int), 0 ≤ j' → low ≤ x → x ≤ high → ∃ F' j'' z5 z6 z7 z8, at_ j' = at_ j'' ∧ 0 ≤ j'' ∧ [Sl.val (dealD R T), .val (kd p q r s), .val (.int L), .own ((tab n fun i => .int (F i)) ++ [.int x]), .val (.int w), .val (.int C), .val (.int low), .val (.int high), s8] = [.val (dealD R T), .val (kd p q r s), .val (.int L), .own (tab (n + 1) fun i => .int (F' i)), .val (.int w), z5, z6, z7, z8] ∧ F' 0 = 0 ∧ Good p q r s (n + 1) F' := by
      intro x j' hj' x0 x1
      refine ⟨fun i => if i = n then x else F i, j', _, _, _, _, rfl, hj', by rw [tab_snoc], (if_neg (by omega)).trans F0, hG.snoc (fun a a0 a1 => ?_) (fun a a0 a1 => ?_)⟩
      · have := hM a a0 a1; rw [hC1] at this; omega
      · have := hN a a0 a1; rw [hC1] at this; omega
    have hlen : ¬ (16777216 ≤ (tab n fun i => D.int (F i)).length) := by rw [tab_len]; omega
    rw [tab_len] at hlen
    by_cases hw : w = 0
    · obtain ⟨u, e3, u0, u1⟩ := take_ok R T (j + 1) 3 (by omega) (by omega)
      have hu : u = 0 ∨ u = 1 ∨ u = 2 := by omega
      rcases hu with rfl | rfl | rfl
      · refine wpS_atom (k := at_ (j + 1 + 1)) ?_ (fin low (j + 1 + 1) (by omega) (by omega) (by omega))
        simp [e2, e3, hw, hlen]
      · refine wpS_atom (k := at_ (j + 1 + 1)) ?_ (fin high (j + 1 + 1) (by omega) (by omega) (by omega))
        simp [e2, e3, hw, hlen]
      · refine wpS_atom (k := at_ (j + 1 + 1)) ?_ (fin (low + v) (j + 1 + 1) (by omega) (by omega) (by omega))
        simp [e2, e3, hw, hlen]
    · have hu : w = 1 ∨ w = 2 := by omega
      rcases hu with rfl | rfl
      · refine wpS_atom (k := at_ (j + 1)) ?_ (fin high (j + 1) (by omega) (by omega) (by omega))
        simp [e2, hlen]
      · refine wpS_atom (k := at_ (j + 1)) ?_ (fin (low + v) (j + 1) (by omega) (by omega) (by omega))
        simp [e2, hlen]
  · rintro ρ κ ⟨F, j, s5, s6, s7, s8, rfl, hj, rfl, F0, hG⟩
    rw [range_len] at hG ⊢
    have hn : (L + 1 - 1).toNat + 1 = (L + 1).toNat := by omega
    rw [hn] at hG ⊢
    exact wpS_atomR (d := clk (L + 1).toNat F) (k := at_ j) (by simp [clk]) ⟨F, j, rfl, rfl, ⟨by omega, F0, hG⟩, hj⟩
end
end K82
set_option Elab.async false
set_option linter.all false
set_option maxRecDepth 100000
set_option maxHeartbeats 4000000
namespace K82
open PySem L2 DL
def tupI (l : List Int) : DD := .tup (l.map D.int)
section
variable {κ : Ka} {l m : List Int} {z i : Int}
theorem tupI_len : bLen κ [tupI l] = some (.int l.length) := by unfold tupI; rw [bLen_tup, List.length_map]
theorem tupI_add (h : l.length + m.length ≤ 16777216) : oAdd (tupI l) (tupI m) = some (tupI (l ++ m)) := by
  unfold tupI; rw [oAdd_tup (by simpa using h), List.map_append]
theorem tupI_addR (h : l.length + 1 ≤ 16777216) : oAdd (tupI l) (.tup [.int z]) = some (tupI (l ++ [z])) := tupI_add (m := [z]) (by simpa using h)
theorem tupI_addL (h : l.length + 1 ≤ 16777216) : oAdd (.tup [.int z]) (tupI l) = some (tupI (z :: l)) := tupI_add (l := [z]) (by simpa [Nat.add_comm] using h)
theorem tupI_cut (lo hi : Option Int) : ∃ m, oCut (tupI l) lo hi = some (tupI m) ∧ m.length ≤ l.length := by
  refine ⟨(l.drop (HT.sIx l.length 0 lo)).take (HT.sIx l.length l.length hi - HT.sIx l.length 0 lo), ?_, ?_⟩
  · unfold tupI
    rw [oCut_tup]
    unfold cutD
    rw [List.length_map, List.map_take, List.map_drop]
  · simp
    omega
theorem tupI_at (h0 : -(l.length : Int) ≤ i) (h1 : i < l.length) : ∃ z, oIdx κ (tupI l) (.int i) = some (.int z) := by
  unfold tupI
  rw [oIdx_tup]
  unfold atI ixN
  rw [List.length_map]
  by_cases h : 0 ≤ i
  · rw [if_pos h, if_pos h1]
    simp only [Option.bind_some]
    refine ⟨l[i.toNat]'(by omega), ?_⟩
    rw [List.getElem?_map, List.getElem?_eq_getElem (by omega)]; rfl
  · rw [if_neg h]
    by_cases h2 : 0 ≤ i + l.length
    · rw [if_pos h0]
      simp only [Option.bind_some]
      refine ⟨l[(i + l.length).toNat]'(by omega), ?_⟩
      rw [List.getElem?_map, List.getElem?_eq_getElem (by omega)]; rfl
    · omega
theorem tupI_clk : ∃ F, tupI l = clk l.length F := ⟨_, by unfold tupI; rw [ints_tab]; rfl⟩
theorem clk_tupI {n : Nat} {F : Int → Int} : ∃ l, clk n F = tupI l ∧ l.length = n := ⟨_, clk_ints, by simp⟩
/-- a row of whole numbers, not long -/
def IsT (d : DD) : Prop := ∃ l : List Int, d = tupI l ∧ l.length ≤ 1000
@[simp] theorem nb_tupI : isBor (tupI l) = false := rfl
@[simp] theorem walk_tupI {b : Bool} : walkD b (tupI l) = some (l.map D.int) := rfl
end
section
variable {p q r s : Int}
theorem bent_inner1 {κ : Ka} {DD' KK : D} {l a b : List Int} {k z by' : Int} {ds : List D} {s4 s7 : Sl} (hl : l.length ≤ 100) (hds : ds.length ≤ 100) (ha : a.length ≤ l.length) (hb : b.length ≤ l.length) (e1 : oCut (tupI l) none (some k) = some (tupI a)) (e2 : oIdx κ (tupI l) (.int k) = some (.int z)) (e3 : oCut (tupI l) (some (k + 1)) none = some (tupI b)) :
    sApp 3 (eOp oAdd (eOp oAdd (eCut (eVar 2) sNone (sSome (eVar 5))) (eTup (aCons (eOp oAdd (eIdx (eVar 2) (eVar 5)) (eVar 6)) aNil))) (eCut (eVar 2) (sSome (eOp oAdd (eVar 5) (eC (.int 1)))) sNone)) [.val DD', .val KK, .val (tupI l), .own ds, s4, .val (.int k), .val (.int by'), s7] κ = some (.nx [.val DD', .val KK, .val (tupI l), .own (ds ++ [tupI (a ++ [z + by'] ++ b)]), s4, .val (.int k), .val (.int by'), s7], κ) := by
  have h1 : oAdd (tupI a) (.tup [.int (z + by')]) = _ := tupI_addR (by omega)
  have h2 : oAdd (tupI (a ++ [z + by'])) (tupI b) = _ := tupI_add (by simp; omega)
  have h3 : ¬ 16777216 ≤ ds.length := by omega
  simp [e1, e2, e3, h1, h2, h3]
theorem bent_inner2 {κ : Ka} {DD' KK : D} {l a b : List Int} {k by' : Int} {ds : List D} {s4 s7 : Sl} (hl : l.length ≤ 100) (hds : ds.length ≤ 100) (ha : a.length ≤ l.length) (hb : b.length ≤ l.length) (e1 : oCut (tupI l) none (some k) = some (tupI a)) (e3 : oCut (tupI l) (some k) none = some (tupI b)) :
    sApp 3 (eOp oAdd (eCut (eVar 2) sNone (sSome (eVar 5))) (eBi bTuple (aCons (eFr (eComp [7] (iAny true (eCut (eVar 2) (sSome (eVar 5)) sNone)) (gNm 7) bYes (eOp oAdd (eVar 7) (eVar 6)))) aNil))) [.val DD', .val KK, .val (tupI l), .own ds, s4, .val (.int k), .val (.int by'), s7] κ = some (.nx [.val DD', .val KK, .val (tupI l), .own (ds ++ [tupI (a ++ b.map (· + by'))]), s4, .val (.int k), .val (.int by'), s7], κ) := by
  have e := eComp_map (vs := [7]) (n := iAny true (eCut (eVar 2) (sSome (eVar 5)) sNone)) (g := gNm 7) (e := eOp oAdd (eVar 7) (eVar 6)) (ρ := [.val DD', .val KK, .val (tupI l), .own ds, s4, .val (.int k), .val (.int by'), s7]) (κ := κ) (κ1 := κ) (ds := b.map D.int) (fun d => match d with | .int i => .int (i + by') | d => d) (by simp [e3]) (by simp; omega) (fun d hd => by
    obtain ⟨i, _, rfl⟩ := List.mem_map.mp hd
    exact ⟨_, rfl, rfl, by simp⟩)
  have ec : (b.map D.int).map (fun d => match d with | .int i => D.int (i + by') | d => d) = (b.map (· + by')).map D.int := by
    simp
  rw [ec] at e
  have h1 : oAdd (tupI a) (.tup ((b.map (· + by')).map D.int)) = _ := tupI_add (m := b.map (· + by')) (by simp; omega)
  have h3 : ¬ 16777216 ≤ ds.length := by omega
  generalize (b.map (· + by')).map D.int = B at *
  have eB : eBi bTuple (aCons (eFr (eComp [7] (iAny true (eCut (eVar 2) (sSome (eVar 5)) sNone)) (gNm 7) bYes (eOp oAdd (eVar 7) (eVar 6)))) aNil) [.val DD', .val KK, .val (tupI l), .own ds, s4, .val (.int k), .val (.int by'), s7] κ = some (.ok (.tup B), κ) := by
    rw [eBi_def, aCons_def, eFr_def, e]
    simp
  simp [-eBi_def, eB, e1, h1, h3]
theorem bent_ok (R : List Int) (T i : Int) (h0 : 0 ≤ i) (k : Ki p q r s) (l : List Int) (hl0 : 0 < l.length) (hl : l.length ≤ 100) : ∃ ds j, f__law_bent [dealD R T, kd p q r s, tupI l] (at_ i) = some (.ok (.lst ds), at_ j) ∧ (∀ d ∈ ds, IsT d) ∧ 0 ≤ j := by
  suffices h : wpE (f__law_bent [dealD R T, kd p q r s, tupI l] (at_ i)) fun d κ => ∃ ds j, d = .lst ds ∧ κ = at_ j ∧ (∀ d ∈ ds, IsT d) ∧ 0 ≤ j by
    obtain ⟨d, κ, e, ds, j, rfl, rfl, h1, h2⟩ := wpE_eq.mp h
    exact ⟨ds, j, e, h1, h2⟩
  unfold f__law_bent
  refine mean_wp ?_
  show wpS (m__law_bent [.val (dealD R T), .val (kd p q r s), .val (tupI l), .no, .no, .no, .no, .no] (at_ i)) _ _ _ _
  unfold m__law_bent
  simp only [wpS_seq]
  obtain ⟨c, ec, hc⟩ := tupI_cut (l := l) (some 1) none
  obtain ⟨z, ez⟩ := tupI_at (κ := at_ i) (l := l) (i := -1) (by omega) (by omega)
  have f1 := high' (t := 1) (κ := at_ i) k
  generalize hi r s 1 = hh at f1
  have a1 : oAdd (.tup [.int 1]) (tupI c) = _ := tupI_addL (by omega)
  have a2 : oAdd (tupI l) (.tup [.int (z - 1)]) = _ := tupI_addR (by omega)
  have a3 : oAdd (tupI l) (.tup [.int (z + hh)]) = _ := tupI_addR (by omega)
  have a4 : oAdd (tupI l) (.tup [.int (z + hh + 1)]) = _ := tupI_addR (by omega)
  generalize hKK : kd p q r s = KK at *
  generalize hDD : dealD R T = DD'
  refine wpS_atom (ρ' := [.val DD', .val KK, .val (tupI l), .own [.tup [], tupI (1 :: c), tupI c, tupI (l ++ [z - 1]), .tup [.int 0], tupI (l ++ [z + hh]), tupI (l ++ [z + hh + 1])], .no, .no, .no, .no]) (k := at_ i) (by simp [ec, ez, f1, a1, a2, a3, a4]) ?_
  refine wpS_forE (κ1 := at_ i) (rangeD 0 4) (range1_ok (by omega) (by simp)) (fun m ρ κ => ∃ ds j s4 s5 s6 s7, κ = at_ j ∧ 0 ≤ j ∧ ρ = [.val DD', .val KK, .val (tupI l), .own ds, s4, s5, s6, s7] ∧ (∀ d ∈ ds, IsT d) ∧ ds.length ≤ 7 + 4 * m) ⟨_, _, _, _, _, _, rfl, h0, rfl, ?_, by simp⟩ ?_ ?_
  · intro d hd
    simp only [List.mem_cons, List.not_mem_nil, or_false] at hd
    rcases hd with h | h | h | h | h | h | h
    · exact ⟨[], h, by simp⟩
    · exact ⟨_, h, by simp; omega⟩
    · exact ⟨_, h, by omega⟩
    · exact ⟨_, h, by simp; omega⟩
    · exact ⟨[0], h, by simp⟩
    · exact ⟨_, h, by simp; omega⟩
    · exact ⟨_, h, by simp; omega⟩
  · rintro m d ρ κ hd ⟨ds, j, s4, s5, s6, s7, rfl, hj, rfl, hds, hdl⟩
    obtain ⟨rfl, hm⟩ := mem_range hd
    refine ⟨_, rfl, ?_⟩
    rw [wpS_seq]
    obtain ⟨u, e1, u0, u1⟩ := take_ok R T j l.length hj (by omega)
    rw [hDD] at e1
    refine wpS_atom (ρ' := [.val DD', .val KK, .val (tupI l), .own ds, .val (.int (0 + (m : Int))), .val (.int u), s6, s7]) (k := at_ (j + 1)) (by simp [e1, tupI_len]) ?_
    obtain ⟨a, ea, ha⟩ := tupI_cut (l := l) none (some u)
    obtain ⟨b, eb, hb⟩ := tupI_cut (l := l) (some (u + 1)) none
    obtain ⟨b', eb', hb'⟩ := tupI_cut (l := l) (some u) none
    obtain ⟨y, ey⟩ := tupI_at (κ := at_ (j + 1)) (l := l) (i := u) (by omega) u1
    refine wpS_forE (κ1 := at_ (j + 1)) [.int 1, .int (-1)] (by simp) (fun m' ρ κ => ∃ ds s6 s7, κ = at_ (j + 1) ∧ ρ = [.val DD', .val KK, .val (tupI l), .own ds, .val (.int (0 + (m : Int))), .val (.int u), s6, s7] ∧ (∀ d ∈ ds, IsT d) ∧ ds.length ≤ 7 + 4 * m + 2 * m') ⟨_, _, _, rfl, rfl, hds, by omega⟩ ?_ ?_
    · rintro m' d ρ κ hd ⟨ds, s6, s7, rfl, rfl, hds, hdl⟩
      have hm' : m' < 2 := (List.getElem?_eq_some_iff.mp hd).1
      have : ∃ b, d = .int b := by
        have := List.mem_of_getElem? hd
        simp only [List.mem_cons, List.not_mem_nil, or_false] at this
        rcases this with h | h <;> exact ⟨_, h⟩
      obtain ⟨b0, rfl⟩ := this
      have hm4 : m < 4 := by omega
      refine ⟨_, rfl, ?_⟩
      rw [wpS_seq]
      refine wpS_atom (bent_inner1 (by omega) (by omega) ha hb ea ey eb) ?_
      refine wpS_atom (bent_inner2 (by omega) (by simp; omega) ha hb' ea eb') ?_
      refine ⟨_, _, _, rfl, rfl, ?_, by simp; omega⟩
      intro d hd
      simp only [List.mem_append, List.mem_singleton] at hd
      rcases hd with (h | h) | h
      · exact hds d h
      · exact ⟨_, h, by simp; omega⟩
      · exact ⟨_, h, by simp; omega⟩
    · rintro ρ κ ⟨ds, s6, s7, rfl, rfl, hds, hdl⟩
      exact ⟨_, _, _, _, _, _, rfl, by omega, rfl, hds, by simp at hdl; omega⟩
  · rintro ρ κ ⟨ds, j, s4, s5, s6, s7, rfl, hj, rfl, hds, hdl⟩
    exact wpS_atomR (d := .lst ds) (k := at_ j) (by simp [frz]) ⟨ds, j, rfl, rfl, hds, hj⟩
theorem law_true (ns : List Int) (hns : ns.length ≤ 63) : ∃ κ, f_law [.rol (ns.map DL.D.int)] [] = some (.ok (.bl true), κ) := by
  suffices h : wpE (f_law [.rol (ns.map DL.D.int)] []) fun d κ => d = .bl true by
    obtain ⟨d, κ, e, rfl⟩ := wpE_eq.mp h
    exact ⟨κ, e⟩
  unfold f_law
  refine mean_wp ?_
  show wpS (m_law [.val (.rol (ns.map DL.D.int)), .no, .no, .no, .no] []) _ _ _ _
  unfold m_law
  simp only [wpS_seq]
  obtain ⟨R, T, e1⟩ := deal_ok ns hns
  generalize (D.rol (ns.map DL.D.int)) = SC at *
  refine wpS_atom (ρ' := [.val SC, .val (dealD R T), .no, .no, .no]) (k := at_ 0) (by simp [e1, dealD]) ?_
  obtain ⟨p, q, r, s, j, e2, k, hj⟩ := kind_ok R T 0 (by omega)
  obtain ⟨j2, e3, hj2⟩ := counts_ok R T j hj k
  obtain ⟨j3, e4, hj3⟩ := extremes_ok R T j2 hj2 k
  have e5 := forms_ok p q r s (at_ j)
  obtain ⟨a, e6, a0, a1⟩ := take_ok R T j3 14 hj3 (by omega)
  obtain ⟨F, j4, e7, hF, hj4⟩ := clock_ok R T (j3 + 1) (3 + a) (by omega) k (by omega) (by omega)
  obtain ⟨v, e8, e9, hv⟩ := clk_both (κ := at_ j4) (F := F) k (show (3 + a + 1).toNat ≤ 1000000 by omega)
  rw [hv.mpr hF] at e8 e9
  obtain ⟨l, el, hl⟩ := clk_tupI (n := (3 + a + 1).toNat) (F := F)
  rw [el] at e7 e8 e9
  obtain ⟨ds, j5, e10, hds, hj5⟩ := bent_ok R T j4 hj4 k l (by omega) (by omega)
  have hboth : ∀ d κ, IsT d → ∃ v, f_is_clock [kd p q r s, d] κ = some (.ok (.bl v), κ) ∧ f__law_is_clock [kd p q r s, d] κ = some (.ok (.bl v), κ) := by
    rintro d κ ⟨l, rfl, hl⟩
    obtain ⟨F, e⟩ := tupI_clk (l := l)
    rw [e]
    obtain ⟨v, a, b, _⟩ := clk_both (κ := κ) (F := F) k (show l.length ≤ 1000000 by omega)
    exact ⟨v, a, b⟩
  have nbK : isBor (kd p q r s) = false := rfl
  have nbD : isBor (dealD R T) = false := rfl
  generalize kd p q r s = KK at *
  generalize dealD R T = DD' at *
  refine wpS_atom (ρ' := [.val SC, .val DD', .val KK, .no, .no]) (k := at_ j) (by simp [e2, nbK]) ?_
  refine wpS_atom (ρ' := [.val SC, .val DD', .val KK, .no, .no]) (k := at_ j3) (by simp [e3, e4, e5]) ?_
  refine wpS_atom (ρ' := [.val SC, .val DD', .val KK, .val (tupI l), .no]) (k := at_ j4) (by simp [e6, e7]) ?_
  refine wpS_atom (ρ' := [.val SC, .val DD', .val KK, .val (tupI l), .no]) (k := at_ j4) (by simp [e8, e9]) ?_
  refine wpS_forE (κ1 := at_ j5) ds (by simp [e10]) (fun _ ρ κ => κ = at_ j5 ∧ ∃ s4, ρ = [.val SC, .val DD', .val KK, .val (tupI l), s4]) ⟨rfl, _, rfl⟩ ?_ ?_
  · rintro m d ρ κ hd ⟨rfl, s4, rfl⟩
    have hT := hds d (List.mem_of_getElem? hd)
    obtain ⟨v, g1, g2⟩ := hboth d (at_ j5) hT
    have nb : isBor d = false := by obtain ⟨l, rfl, _⟩ := hT; rfl
    refine ⟨[.val SC, .val DD', .val KK, .val (tupI l), .val d], by simp [nb], ?_⟩
    exact wpS_atom (ρ' := [.val SC, .val DD', .val KK, .val (tupI l), .val d]) (k := at_ j5) (by simp [g1, g2]) ⟨rfl, _, rfl⟩
  · rintro ρ κ ⟨rfl, s4, rfl⟩
    exact wpS_atomR (d := .bl true) (k := at_ j5) (by simp) rfl
end
end K82
set_option Elab.async false
set_option linter.all false
set_option maxRecDepth 100000
set_option maxHeartbeats 4000000
namespace K82
open PySem PySem.Spec PyProof.Rows L2 DL
def topS (i : Nat) : Stmt := PySem.Challenge.pw_dayholds_k82_whole_clocks_of_a_kind.main.body.getD i (.Pass ⟨0, 0, 0, 0⟩)
abbrev s_is_kind : Stmt := topS 2
abbrev N_is_kind : List Str := ["kind", "p", "q", "r", "s"]
theorem sc_is_kind : FnScope N_is_kind ["kind"] (defScope s_is_kind) := ⟨rfl, rfl, rfl, by decide +kernel, rfl, by decide +kernel, by decide +kernel⟩
abbrev s_least_minutes : Stmt := topS 3
abbrev N_least_minutes : List Str := ["kind", "ticks"]
theorem sc_least_minutes : FnScope N_least_minutes ["kind", "ticks"] (defScope s_least_minutes) := ⟨rfl, rfl, rfl, by decide +kernel, rfl, by decide +kernel, by decide +kernel⟩
abbrev s_most_minutes : Stmt := topS 4
abbrev N_most_minutes : List Str := ["kind", "ticks"]
theorem sc_most_minutes : FnScope N_most_minutes ["kind", "ticks"] (defScope s_most_minutes) := ⟨rfl, rfl, rfl, by decide +kernel, rfl, by decide +kernel, by decide +kernel⟩
abbrev s_most_ticks : Stmt := topS 5
abbrev N_most_ticks : List Str := ["kind", "minutes", "p", "q", "r", "s"]
theorem sc_most_ticks : FnScope N_most_ticks ["kind", "minutes"] (defScope s_most_ticks) := ⟨rfl, rfl, rfl, by decide +kernel, rfl, by decide +kernel, by decide +kernel⟩
abbrev s_is_clock : Stmt := topS 6
abbrev N_is_clock : List Str := ["kind", "clock", "a", "b"]
theorem sc_is_clock : FnScope N_is_clock ["kind", "clock"] (defScope s_is_clock) := ⟨rfl, rfl, rfl, by decide +kernel, rfl, by decide +kernel, by decide +kernel⟩
abbrev s_slow_clock : Stmt := topS 7
abbrev N_slow_clock : List Str := ["kind", "phase", "last", "_", "r", "s", "tick"]
theorem sc_slow_clock : FnScope N_slow_clock ["kind", "phase", "last"] (defScope s_slow_clock) := ⟨rfl, rfl, rfl, by decide +kernel, rfl, by decide +kernel, by decide +kernel⟩
abbrev s_fast_clock : Stmt := topS 8
abbrev N_fast_clock : List Str := ["kind", "phase", "last", "p", "q", "_", "tick"]
theorem sc_fast_clock : FnScope N_fast_clock ["kind", "phase", "last"] (defScope s_fast_clock) := ⟨rfl, rfl, rfl, by decide +kernel, rfl, by decide +kernel, by decide +kernel⟩
abbrev s_slowest_from : Stmt := topS 9
abbrev N_slowest_from : List Str := ["kind", "tick", "last"]
theorem sc_slowest_from : FnScope N_slowest_from ["kind", "tick", "last"] (defScope s_slowest_from) := ⟨rfl, rfl, rfl, by decide +kernel, rfl, by decide +kernel, by decide +kernel⟩
abbrev s_fastest_from : Stmt := topS 10
abbrev N_fastest_from : List Str := ["kind", "tick", "last"]
theorem sc_fastest_from : FnScope N_fastest_from ["kind", "tick", "last"] (defScope s_fastest_from) := ⟨rfl, rfl, rfl, by decide +kernel, rfl, by decide +kernel, by decide +kernel⟩
abbrev s__law_deal : Stmt := topS 12
abbrev N__law_deal : List Str := ["script", "row", "k", "cell", "turn", "total"]
theorem sc__law_deal : FnScope N__law_deal ["script"] (defScope s__law_deal) := ⟨rfl, rfl, rfl, by decide +kernel, rfl, by decide +kernel, by decide +kernel⟩
abbrev s__law_take : Stmt := topS 13
abbrev N__law_take : List Str := ["deal", "many", "at", "cell", "turn"]
theorem sc__law_take : FnScope N__law_take ["deal", "many"] (defScope s__law_take) := ⟨rfl, rfl, rfl, by decide +kernel, rfl, by decide +kernel, by decide +kernel⟩
abbrev s__law_same : Stmt := topS 14
abbrev N__law_same : List Str := ["a", "b", "k"]
theorem sc__law_same : FnScope N__law_same ["a", "b"] (defScope s__law_same) := ⟨rfl, rfl, rfl, by decide +kernel, rfl, by decide +kernel, by decide +kernel⟩
abbrev s__law_bool : Stmt := topS 15
abbrev N__law_bool : List Str := ["answer", "due"]
theorem sc__law_bool : FnScope N__law_bool ["answer", "due"] (defScope s__law_bool) := ⟨rfl, rfl, rfl, by decide +kernel, rfl, by decide +kernel, by decide +kernel⟩
abbrev s__law_kind : Stmt := topS 16
abbrev N__law_kind : List Str := ["deal", "way", "q", "s"]
theorem sc__law_kind : FnScope N__law_kind ["deal"] (defScope s__law_kind) := ⟨rfl, rfl, rfl, by decide +kernel, rfl, by decide +kernel, by decide +kernel⟩
abbrev s__law_low : Stmt := topS 17
abbrev N__law_low : List Str := ["kind", "ticks"]
theorem sc__law_low : FnScope N__law_low ["kind", "ticks"] (defScope s__law_low) := ⟨rfl, rfl, rfl, by decide +kernel, rfl, by decide +kernel, by decide +kernel⟩
abbrev s__law_high : Stmt := topS 18
abbrev N__law_high : List Str := ["kind", "ticks"]
theorem sc__law_high : FnScope N__law_high ["kind", "ticks"] (defScope s__law_high) := ⟨rfl, rfl, rfl, by decide +kernel, rfl, by decide +kernel, by decide +kernel⟩
abbrev s__law_is_clock : Stmt := topS 19
abbrev N__law_is_clock : List Str := ["kind", "clock", "a", "b", "gap"]
theorem sc__law_is_clock : FnScope N__law_is_clock ["kind", "clock"] (defScope s__law_is_clock) := ⟨rfl, rfl, rfl, by decide +kernel, rfl, by decide +kernel, by decide +kernel⟩
abbrev s__law_clock : Stmt := topS 20
abbrev N__law_clock : List Str := ["deal", "kind", "last", "found", "way", "c", "low", "high", "a"]
theorem sc__law_clock : FnScope N__law_clock ["deal", "kind", "last"] (defScope s__law_clock) := ⟨rfl, rfl, rfl, by decide +kernel, rfl, by decide +kernel, by decide +kernel⟩
abbrev s__law_form : Stmt := topS 21
abbrev N__law_form : List Str := ["kind", "p", "q", "r", "s"]
theorem sc__law_form : FnScope N__law_form ["kind"] (defScope s__law_form) := ⟨rfl, rfl, rfl, by decide +kernel, rfl, by decide +kernel, by decide +kernel⟩
abbrev s__law_forms : Stmt := topS 22
abbrev N__law_forms : List Str := ["kind", "p", "q", "r", "s", "odds", "odd"]
theorem sc__law_forms : FnScope N__law_forms ["kind"] (defScope s__law_forms) := ⟨rfl, rfl, rfl, by decide +kernel, rfl, by decide +kernel, by decide +kernel⟩
abbrev s__law_greatest : Stmt := topS 23
abbrev N__law_greatest : List Str := ["kind", "ticks"]
theorem sc__law_greatest : FnScope N__law_greatest ["kind", "ticks"] (defScope s__law_greatest) := ⟨rfl, rfl, rfl, by decide +kernel, rfl, by decide +kernel, by decide +kernel⟩
abbrev s__law_counts : Stmt := topS 24
abbrev N__law_counts : List Str := ["deal", "kind", "ticks", "minutes", "told"]
theorem sc__law_counts : FnScope N__law_counts ["deal", "kind"] (defScope s__law_counts) := ⟨rfl, rfl, rfl, by decide +kernel, rfl, by decide +kernel, by decide +kernel⟩
abbrev s__law_bent : Stmt := topS 25
abbrev N__law_bent : List Str := ["deal", "kind", "clock", "found", "turn", "k", "by", "t"]
theorem sc__law_bent : FnScope N__law_bent ["deal", "kind", "clock"] (defScope s__law_bent) := ⟨rfl, rfl, rfl, by decide +kernel, rfl, by decide +kernel, by decide +kernel⟩
abbrev s__law_extremes : Stmt := topS 26
abbrev N__law_extremes : List Str := ["deal", "kind", "p", "q", "r", "s", "last", "tick", "slow", "fast", "one", "two", "c", "phase", "due"]
theorem sc__law_extremes : FnScope N__law_extremes ["deal", "kind"] (defScope s__law_extremes) := ⟨rfl, rfl, rfl, by decide +kernel, rfl, by decide +kernel, by decide +kernel⟩
abbrev s_law : Stmt := topS 27
abbrev N_law : List Str := ["script", "deal", "kind", "clock", "odd"]
theorem sc_law : FnScope N_law ["script"] (defScope s_law) := ⟨rfl, rfl, rfl, by decide +kernel, rfl, by decide +kernel, by decide +kernel⟩
structure Txt (mg : Str → Option Value) : Prop where
  z_abs : mg "abs" = none
  z_bool : mg "bool" = none
  z_int : mg "int" = none
  z_isinstance : mg "isinstance" = none
  z_len : mg "len" = none
  z_list : mg "list" = none
  z_max : mg "max" = none
  z_min : mg "min" = none
  z_range : mg "range" = none
  z_str : mg "str" = none
  z_sum : mg "sum" = none
  z_tuple : mg "tuple" = none
  c_MOST_SHARE : ∃ t, mg "MOST_SHARE" = some (.int (10000) t)
section
variable {P : Program} {w : World} {K : PySem.W.Frag} {mg : Str → Option Value} {base : Heap} {G : Gx}
theorem ok_is_kind (T : Txt mg)  {f : Addr} {fd : FuncData} (F : Fun K "is_kind" "is_kind" s_is_kind f fd) (b : Binds K fd ["kind"] []) (m : mg "is_kind" = some (.ref f)) : FD P w K mg base G 1 "is_kind" 1 f_is_kind :=
  fn_fd F sc_is_kind b m fun cdv A outer s0 H E hr =>
    have nd := sc_is_kind.nd
    show PSsd _ _ _ _ m_is_kind from
    (s_cons (s_asg (pd_var 0) (t_tup (K := K) rfl (ts_cons (t_name 1 nd) (ts_cons (t_name 2 nd) (ts_cons (t_name 3 nd) (ts_cons (t_name 4 nd) ts_nil))))))
      (s_one (s_ret (pd_and (d_chain3 k_le k_le k_le pd_int (pd_var 1) (pd_var 2) (d_gint T.c_MOST_SHARE)) (pd_one (d_chain3 k_le k_le k_le pd_int (pd_var 4) (pd_var 3) (d_gint T.c_MOST_SHARE)))))))
theorem ok_least_minutes (T : Txt mg)  {f : Addr} {fd : FuncData} (F : Fun K "least_minutes" "least_minutes" s_least_minutes f fd) (b : Binds K fd ["kind", "ticks"] []) (m : mg "least_minutes" = some (.ref f)) : FD P w K mg base G 1 "least_minutes" 2 f_least_minutes :=
  fn_fd F sc_least_minutes b m fun cdv A outer s0 H E hr =>
    have nd := sc_least_minutes.nd
    show PSsd _ _ _ _ m_least_minutes from
    (s_one (s_ret (d_fdiv (d_mul (pd_var 1) (d_idx (pd_var 0) pd_int)) (d_idx (pd_var 0) pd_int))))
theorem ok_most_minutes (T : Txt mg)  {f : Addr} {fd : FuncData} (F : Fun K "most_minutes" "most_minutes" s_most_minutes f fd) (b : Binds K fd ["kind", "ticks"] []) (m : mg "most_minutes" = some (.ref f)) : FD P w K mg base G 1 "most_minutes" 2 f_most_minutes :=
  fn_fd F sc_most_minutes b m fun cdv A outer s0 H E hr =>
    have nd := sc_most_minutes.nd
    show PSsd _ _ _ _ m_most_minutes from
    (s_one (s_ret (d_neg' (d_fdiv (d_mul (d_neg' (pd_var 1)) (d_idx (pd_var 0) pd_int)) (d_idx (pd_var 0) pd_int)))))
theorem ok_most_ticks (T : Txt mg)  {f : Addr} {fd : FuncData} (F : Fun K "most_ticks" "most_ticks" s_most_ticks f fd) (b : Binds K fd ["kind", "minutes"] []) (m : mg "most_ticks" = some (.ref f)) : FD P w K mg base G 1 "most_ticks" 2 f_most_ticks :=
  fn_fd F sc_most_ticks b m fun cdv A outer s0 H E hr =>
    have nd := sc_most_ticks.nd
    show PSsd _ _ _ _ m_most_ticks from
    (s_cons (s_asg (pd_var 0) (t_tup (K := K) rfl (ts_cons (t_name 2 nd) (ts_cons (t_name 3 nd) (ts_cons (t_name 4 nd) (ts_cons (t_name 5 nd) ts_nil))))))
      (s_one (s_ret (pd_if (b_cmp k_ge (pd_var 1) pd_int) (d_fdiv (d_mul (pd_var 1) (pd_var 5)) (pd_var 4)) (d_fdiv (d_mul (pd_var 1) (pd_var 3)) (pd_var 2))))))
theorem ok_is_clock (T : Txt mg) (G_least_minutes : FD P w K mg base G 1 "least_minutes" 2 f_least_minutes) (G_most_minutes : FD P w K mg base G 1 "most_minutes" 2 f_most_minutes) {f : Addr} {fd : FuncData} (F : Fun K "is_clock" "is_clock" s_is_clock f fd) (b : Binds K fd ["kind", "clock"] []) (m : mg "is_clock" = some (.ref f)) : FD P w K mg base G 2 "is_clock" 2 f_is_clock :=
  fn_fd F sc_is_clock b m fun cdv A outer s0 H E hr =>
    have nd := sc_is_clock.nd
    show PSsd _ _ _ _ m_is_clock from
    (s_cons (s_if (PBW.pb (pbw_or (b_cmp (k_eq hr.units) (pd_var 1) (pd_tup pl_nil)) (pbw_or1 (b_cmp (k_ne hr.units) (d_idx (pd_var 1) pd_int) pd_int)))) (s_one (s_ret pd_bl)) s_nil)
      (s_cons (s_for PassesOwn.never rfl (w_range1 T.z_range (w_len T.z_len (pd_var 1))) (t_name 2 nd) (s_one (s_for PassesOwn.never rfl (w_range2 T.z_range (d_add (pd_var 2) pd_int) (w_len T.z_len (pd_var 1))) (t_name 3 nd) (s_one (s_if (pb_not (b_chain k_le k_le (d_call G_least_minutes hr (pl_cons (pd_var 0) (pl_cons (d_sub (pd_var 3) (pd_var 2)) pl_nil))) (d_sub (d_idx (pd_var 1) (pd_var 3)) (d_idx (pd_var 1) (pd_var 2))) (d_call G_most_minutes hr (pl_cons (pd_var 0) (pl_cons (d_sub (pd_var 3) (pd_var 2)) pl_nil))))) (s_one (s_ret pd_bl)) s_nil)))))
      (s_one (s_ret pd_bl))))
theorem ok_slow_clock (T : Txt mg)  {f : Addr} {fd : FuncData} (F : Fun K "slow_clock" "slow_clock" s_slow_clock f fd) (b : Binds K fd ["kind", "phase", "last"] []) (m : mg "slow_clock" = some (.ref f)) : FD P w K mg base G 1 "slow_clock" 3 f_slow_clock :=
  fn_fd F sc_slow_clock b m fun cdv A outer s0 H E hr =>
    have nd := sc_slow_clock.nd
    show PSsd _ _ _ _ m_slow_clock from
    (s_cons (s_asg (pd_var 0) (t_tup (K := K) rfl (ts_cons (t_name 3 nd) (ts_cons (t_name 3 nd) (ts_cons (t_name 4 nd) (ts_cons (t_name 5 nd) ts_nil))))))
      (s_one (s_ret (w_tuple T.z_tuple (pd_fr (w_comp (own := [("tick", 6)]) rfl nd (w_range1 T.z_range (d_add (pd_var 2) pd_int)) (by kernel_rfl) (fun _ _ _ _ _ => (t_name 6 nd)) (fun _ _ _ _ _ => c_nil) (fun _ _ _ _ _ => (d_neg' (d_fdiv (d_sub (pd_var 1) (d_mul (pd_var 6) (pd_var 4))) (pd_var 5))))))))))
theorem ok_fast_clock (T : Txt mg)  {f : Addr} {fd : FuncData} (F : Fun K "fast_clock" "fast_clock" s_fast_clock f fd) (b : Binds K fd ["kind", "phase", "last"] []) (m : mg "fast_clock" = some (.ref f)) : FD P w K mg base G 1 "fast_clock" 3 f_fast_clock :=
  fn_fd F sc_fast_clock b m fun cdv A outer s0 H E hr =>
    have nd := sc_fast_clock.nd
    show PSsd _ _ _ _ m_fast_clock from
    (s_cons (s_asg (pd_var 0) (t_tup (K := K) rfl (ts_cons (t_name 3 nd) (ts_cons (t_name 4 nd) (ts_cons (t_name 5 nd) (ts_cons (t_name 5 nd) ts_nil))))))
      (s_one (s_ret (w_tuple T.z_tuple (pd_fr (w_comp (own := [("tick", 6)]) rfl nd (w_range1 T.z_range (d_add (pd_var 2) pd_int)) (by kernel_rfl) (fun _ _ _ _ _ => (t_name 6 nd)) (fun _ _ _ _ _ => c_nil) (fun _ _ _ _ _ => (d_fdiv (d_add (d_mul (pd_var 6) (pd_var 3)) (pd_var 1)) (pd_var 4)))))))))
theorem ok_slowest_from (T : Txt mg) (G_slow_clock : FD P w K mg base G 1 "slow_clock" 3 f_slow_clock) {f : Addr} {fd : FuncData} (F : Fun K "slowest_from" "slowest_from" s_slowest_from f fd) (b : Binds K fd ["kind", "tick", "last"] []) (m : mg "slowest_from" = some (.ref f)) : FD P w K mg base G 2 "slowest_from" 3 f_slowest_from :=
  fn_fd F sc_slowest_from b m fun cdv A outer s0 H E hr =>
    have nd := sc_slowest_from.nd
    show PSsd _ _ _ _ m_slowest_from from
    (s_one (s_ret (d_call G_slow_clock hr (pl_cons (pd_var 0) (pl_cons (d_mod (d_mul (pd_var 1) (d_idx (pd_var 0) pd_int)) (d_idx (pd_var 0) pd_int)) (pl_cons (pd_var 2) pl_nil))))))
theorem ok_fastest_from (T : Txt mg) (G_fast_clock : FD P w K mg base G 1 "fast_clock" 3 f_fast_clock) {f : Addr} {fd : FuncData} (F : Fun K "fastest_from" "fastest_from" s_fastest_from f fd) (b : Binds K fd ["kind", "tick", "last"] []) (m : mg "fastest_from" = some (.ref f)) : FD P w K mg base G 2 "fastest_from" 3 f_fastest_from :=
  fn_fd F sc_fastest_from b m fun cdv A outer s0 H E hr =>
    have nd := sc_fastest_from.nd
    show PSsd _ _ _ _ m_fastest_from from
    (s_one (s_ret (d_call G_fast_clock hr (pl_cons (pd_var 0) (pl_cons (d_mod (d_mul (d_neg' (pd_var 1)) (d_idx (pd_var 0) pd_int)) (d_idx (pd_var 0) pd_int)) (pl_cons (pd_var 2) pl_nil))))))
theorem ok__law_deal (T : Txt mg)  {f : Addr} {fd : FuncData} (F : Fun K "_law_deal" "_law_deal" s__law_deal f fd) (b : Binds K fd ["script"] []) (m : mg "_law_deal" = some (.ref f)) : FD P w K mg base G 1 "_law_deal" 1 f__law_deal :=
  fn_fd F sc__law_deal b m fun cdv A outer s0 H E hr =>
    have nd := sc__law_deal.nd
    show PSsd _ _ _ _ m__law_deal from
    (s_cons (s_own (i := 1) nd (pf_lst pl_nil))
      (s_cons (s_for PassesOwn.never rfl (w_range1 T.z_range (w_min2 T.z_min (w_len T.z_len (pd_var 0)) pd_int)) (t_name 2 nd) (s_cons (s_set (i := 3) nd (w_abs T.z_abs (w_int T.z_int (d_idx (pd_var 0) (pd_var 2)))))
      (s_one (s_if (b_cmp k_ge (pd_var 3) (d_pow pd_int pd_int)) (s_one (s_for PassesOwn.never rfl (w_range1 T.z_range pd_int) (t_name 4 nd) (s_one (s_if (b_cmp k_gt (pd_var 3) pd_int) (s_cons (s_app (i := 1) (d_mod (pd_var 3) pd_int))
      (s_one (s_set (i := 3) nd (d_fdiv (pd_var 3) pd_int)))) s_nil)))) (s_cons (s_set (i := 3) nd (d_add (d_add (d_mul (d_mod (pd_var 3) pd_int) pd_int) (d_mul (pd_var 2) pd_int)) pd_int))
      (s_one (s_for PassesOwn.never rfl (w_range1 T.z_range pd_int) (t_name 4 nd) (s_cons (s_set (i := 3) nd (d_mod (d_add (d_add (d_mul (pd_var 3) pd_int) pd_int) (pd_var 4)) pd_int))
      (s_one (s_app (i := 1) (d_mod (d_fdiv (pd_var 3) pd_int) pd_int)))))))))))
      (s_cons (s_set (i := 5) nd (d_add (w_sum T.z_sum (pd_var 1)) (w_len T.z_len (pd_var 0))))
      (s_one (s_frz 1 (s_ret (pd_fr (pf_lst (pl_cons (pd_var 1) (pl_cons (d_st (pf_lst (pl_cons pd_int pl_nil))) (pl_cons (pd_var 5) pl_nil)))))))))))
theorem ok__law_take (T : Txt mg)  {f : Addr} {fd : FuncData} (F : Fun K "_law_take" "_law_take" s__law_take f fd) (b : Binds K fd ["deal", "many"] []) (m : mg "_law_take" = some (.ref f)) : FD P w K mg base G 1 "_law_take" 2 f__law_take :=
  fn_fd F sc__law_take b m fun cdv A outer s0 H E hr =>
    have nd := sc__law_take.nd
    show PSsd _ _ _ _ m__law_take from
    (s_cons (s_set (i := 2) nd (d_idx (d_idx (pd_var 0) pd_int) pd_int))
      (s_cons (s_seto (d_add (pd_var 2) pd_int) (d_idx (pd_var 0) pd_int) pd_int)
      (s_cons (s_if (b_cmp k_lt (pd_var 2) (w_len T.z_len (d_idx (pd_var 0) pd_int))) (s_one (s_ret (d_mod (d_idx (d_idx (pd_var 0) pd_int) (pd_var 2)) (pd_var 1)))) s_nil)
      (s_cons (s_set (i := 3) nd (d_mod (d_add (d_add (d_mul (pd_var 2) pd_int) (d_mul (d_idx (pd_var 0) pd_int) pd_int)) pd_int) pd_int))
      (s_cons (s_for PassesOwn.never rfl (w_range1 T.z_range pd_int) (t_name 4 nd) (s_one (s_set (i := 3) nd (d_mod (d_add (d_add (d_mul (pd_var 3) (pd_var 3)) (d_mul pd_int (pd_var 2))) pd_int) pd_int))))
      (s_one (s_ret (d_mod (d_fdiv (pd_var 3) pd_int) (pd_var 1)))))))))
theorem ok__law_sameN (T : Txt mg)  {f : Addr} {fd : FuncData} (F : Fun K "_law_same" "_law_same" s__law_same f fd) (b : Binds K fd ["a", "b"] []) (m : mg "_law_same" = some (.ref f)) : ∀ k : Nat, FD P w K mg base G (0 + k) "_law_same" 2 (f__law_sameN k)
  | 0 => FD.zero F b m rfl
  | k + 1 =>
    have self := ok__law_sameN T  F b m k
    fn_fd F sc__law_same b m fun cdv A outer s0 H E hr =>
      have nd := sc__law_same.nd
      show PSsd _ _ _ _ (m__law_same (f__law_sameN k)) from
      (s_cons (s_if (PBW.pb (pbw_or (pb_of (w_isi bt_tuple T.z_isinstance T.z_tuple (pd_var 1))) (pbw_or1 (pb_of (w_isi bt_list T.z_isinstance T.z_list (pd_var 1)))))) (s_cons (s_if (PBW.pb (pbw_or (PBW.pb (pbw_and (pb_of (w_isi bt_tuple T.z_isinstance T.z_tuple (pd_var 1))) (pbw_and1 (pb_not (pb_of (w_isi bt_tuple T.z_isinstance T.z_tuple (pd_var 0))))))) (pbw_or1 (PBW.pb (pbw_and (pb_of (w_isi bt_list T.z_isinstance T.z_list (pd_var 1))) (pbw_and1 (pb_not (pb_of (w_isi bt_list T.z_isinstance T.z_list (pd_var 0)))))))))) (s_one (s_ret pd_bl)) s_nil)
      (s_cons (s_if (b_cmp (k_ne hr.units) (w_len T.z_len (pd_var 0)) (w_len T.z_len (pd_var 1))) (s_one (s_ret pd_bl)) s_nil)
      (s_cons (s_for PassesOwn.never rfl (w_range1 T.z_range (w_len T.z_len (pd_var 1))) (t_name 2 nd) (s_one (s_if (pb_not (pb_of (d_call (hjk := Nat.le_refl _) self hr (pl_cons (d_idx (pd_var 0) (pd_var 2)) (pl_cons (d_idx (pd_var 1) (pd_var 2)) pl_nil))))) (s_one (s_ret pd_bl)) s_nil)))
      (s_one (s_ret pd_bl))))) s_nil)
      (s_cons (s_if (PBW.pb (pbw_or (pb_of (w_isi bt_bool T.z_isinstance T.z_bool (pd_var 0))) (pbw_or1 (pb_of (w_isi bt_bool T.z_isinstance T.z_bool (pd_var 1)))))) (s_one (s_ret (pd_and (w_isi bt_bool T.z_isinstance T.z_bool (pd_var 0)) (pd_and (w_isi bt_bool T.z_isinstance T.z_bool (pd_var 1)) (pd_one (d_cmp (k_eq hr.units) (pd_var 0) (pd_var 1))))))) s_nil)
      (s_cons (s_if (pb_of (w_isi bt_int T.z_isinstance T.z_int (pd_var 1))) (s_one (s_ret (pd_and (w_isi bt_int T.z_isinstance T.z_int (pd_var 0)) (pd_one (d_cmp (k_eq hr.units) (pd_var 0) (pd_var 1)))))) s_nil)
      (s_cons (s_if (pb_of (w_isi bt_str T.z_isinstance T.z_str (pd_var 1))) (s_one (s_ret (pd_and (w_isi bt_str T.z_isinstance T.z_str (pd_var 0)) (pd_one (d_cmp (k_eq hr.units) (pd_var 0) (pd_var 1)))))) s_nil)
      (s_one (s_ret (pd_and (d_cmp k_isn (pd_var 0) pd_non) (pd_one (d_cmp k_isn (pd_var 1) pd_non)))))))))
theorem ok__law_same (T : Txt mg)  {f : Addr} {fd : FuncData} (F : Fun K "_law_same" "_law_same" s__law_same f fd) (b : Binds K fd ["a", "b"] []) (m : mg "_law_same" = some (.ref f)) : FD P w K mg base G 12 "_law_same" 2 f__law_same := (ok__law_sameN T  F b m 12).mono (by decide)
theorem ok__law_bool (T : Txt mg)  {f : Addr} {fd : FuncData} (F : Fun K "_law_bool" "_law_bool" s__law_bool f fd) (b : Binds K fd ["answer", "due"] []) (m : mg "_law_bool" = some (.ref f)) : FD P w K mg base G 1 "_law_bool" 2 f__law_bool :=
  fn_fd F sc__law_bool b m fun cdv A outer s0 H E hr =>
    have nd := sc__law_bool.nd
    show PSsd _ _ _ _ m__law_bool from
    (s_one (s_ret (pd_and (w_isi bt_bool T.z_isinstance T.z_bool (pd_var 0)) (pd_one (d_cmp (k_eq hr.units) (pd_var 0) (pd_var 1))))))
theorem ok__law_kind (T : Txt mg) (G__law_take : FD P w K mg base G 1 "_law_take" 2 f__law_take) {f : Addr} {fd : FuncData} (F : Fun K "_law_kind" "_law_kind" s__law_kind f fd) (b : Binds K fd ["deal"] []) (m : mg "_law_kind" = some (.ref f)) : FD P w K mg base G 2 "_law_kind" 1 f__law_kind :=
  fn_fd F sc__law_kind b m fun cdv A outer s0 H E hr =>
    have nd := sc__law_kind.nd
    show PSsd _ _ _ _ m__law_kind from
    (s_cons (s_set (i := 1) nd (d_call G__law_take hr (pl_cons (pd_var 0) (pl_cons pd_int pl_nil))))
      (s_cons (s_if (b_cmp (k_eq hr.units) (pd_var 1) pd_int) (s_one (s_ret (pd_tup (pl_cons pd_int (pl_cons pd_int (pl_cons pd_int (pl_cons pd_int pl_nil))))))) s_nil)
      (s_cons (s_if (b_cmp (k_eq hr.units) (pd_var 1) pd_int) (s_one (s_ret (pd_tup (pl_cons (d_sub pd_int (d_call G__law_take hr (pl_cons (pd_var 0) (pl_cons pd_int pl_nil)))) (pl_cons pd_int (pl_cons (d_add pd_int (d_call G__law_take hr (pl_cons (pd_var 0) (pl_cons pd_int pl_nil)))) (pl_cons pd_int pl_nil))))))) s_nil)
      (s_cons (s_if (b_cmp (k_eq hr.units) (pd_var 1) pd_int) (s_one (s_ret (pd_tup (pl_cons pd_int (pl_cons (d_add pd_int (d_call G__law_take hr (pl_cons (pd_var 0) (pl_cons pd_int pl_nil)))) (pl_cons (d_add pd_int (d_call G__law_take hr (pl_cons (pd_var 0) (pl_cons pd_int pl_nil)))) (pl_cons pd_int pl_nil))))))) s_nil)
      (s_cons (s_set (i := 2) nd (d_add pd_int (d_call G__law_take hr (pl_cons (pd_var 0) (pl_cons pd_int pl_nil)))))
      (s_cons (s_set (i := 3) nd (d_add pd_int (d_call G__law_take hr (pl_cons (pd_var 0) (pl_cons pd_int pl_nil)))))
      (s_one (s_ret (pd_tup (pl_cons (d_add pd_int (d_call G__law_take hr (pl_cons (pd_var 0) (pl_cons (pd_var 2) pl_nil)))) (pl_cons (pd_var 2) (pl_cons (d_add (pd_var 3) (d_call G__law_take hr (pl_cons (pd_var 0) (pl_cons pd_int pl_nil)))) (pl_cons (pd_var 3) pl_nil)))))))))))))
theorem ok__law_low (T : Txt mg)  {f : Addr} {fd : FuncData} (F : Fun K "_law_low" "_law_low" s__law_low f fd) (b : Binds K fd ["kind", "ticks"] []) (m : mg "_law_low" = some (.ref f)) : FD P w K mg base G 1 "_law_low" 2 f__law_low :=
  fn_fd F sc__law_low b m fun cdv A outer s0 H E hr =>
    have nd := sc__law_low.nd
    show PSsd _ _ _ _ m__law_low from
    (s_one (s_ret (d_fdiv (d_mul (pd_var 1) (d_idx (pd_var 0) pd_int)) (d_idx (pd_var 0) pd_int))))
theorem ok__law_high (T : Txt mg)  {f : Addr} {fd : FuncData} (F : Fun K "_law_high" "_law_high" s__law_high f fd) (b : Binds K fd ["kind", "ticks"] []) (m : mg "_law_high" = some (.ref f)) : FD P w K mg base G 1 "_law_high" 2 f__law_high :=
  fn_fd F sc__law_high b m fun cdv A outer s0 H E hr =>
    have nd := sc__law_high.nd
    show PSsd _ _ _ _ m__law_high from
    (s_one (s_ret (d_fdiv (d_sub (d_add (d_mul (pd_var 1) (d_idx (pd_var 0) pd_int)) (d_idx (pd_var 0) pd_int)) pd_int) (d_idx (pd_var 0) pd_int))))
theorem ok__law_is_clock (T : Txt mg) (G__law_low : FD P w K mg base G 1 "_law_low" 2 f__law_low) (G__law_high : FD P w K mg base G 1 "_law_high" 2 f__law_high) {f : Addr} {fd : FuncData} (F : Fun K "_law_is_clock" "_law_is_clock" s__law_is_clock f fd) (b : Binds K fd ["kind", "clock"] []) (m : mg "_law_is_clock" = some (.ref f)) : FD P w K mg base G 2 "_law_is_clock" 2 f__law_is_clock :=
  fn_fd F sc__law_is_clock b m fun cdv A outer s0 H E hr =>
    have nd := sc__law_is_clock.nd
    show PSsd _ _ _ _ m__law_is_clock from
    (s_cons (s_if (PBW.pb (pbw_or (b_cmp (k_eq hr.units) (w_len T.z_len (pd_var 1)) pd_int) (pbw_or1 (b_cmp (k_ne hr.units) (d_idx (pd_var 1) pd_int) pd_int)))) (s_one (s_ret pd_bl)) s_nil)
      (s_cons (s_for PassesOwn.never rfl (w_range1 T.z_range (w_len T.z_len (pd_var 1))) (t_name 2 nd) (s_one (s_for PassesOwn.never rfl (w_range2 T.z_range (d_add (pd_var 2) pd_int) (w_len T.z_len (pd_var 1))) (t_name 3 nd) (s_cons (s_set (i := 4) nd (d_sub (d_idx (pd_var 1) (pd_var 3)) (d_idx (pd_var 1) (pd_var 2))))
      (s_one (s_if (PBW.pb (pbw_or (b_cmp k_lt (pd_var 4) (d_call G__law_low hr (pl_cons (pd_var 0) (pl_cons (d_sub (pd_var 3) (pd_var 2)) pl_nil)))) (pbw_or1 (b_cmp k_gt (pd_var 4) (d_call G__law_high hr (pl_cons (pd_var 0) (pl_cons (d_sub (pd_var 3) (pd_var 2)) pl_nil))))))) (s_one (s_ret pd_bl)) s_nil))))))
      (s_one (s_ret pd_bl))))
theorem ok__law_clock (T : Txt mg) (G__law_take : FD P w K mg base G 1 "_law_take" 2 f__law_take) (G__law_low : FD P w K mg base G 1 "_law_low" 2 f__law_low) (G__law_high : FD P w K mg base G 1 "_law_high" 2 f__law_high) {f : Addr} {fd : FuncData} (F : Fun K "_law_clock" "_law_clock" s__law_clock f fd) (b : Binds K fd ["deal", "kind", "last"] []) (m : mg "_law_clock" = some (.ref f)) : FD P w K mg base G 2 "_law_clock" 3 f__law_clock :=
  fn_fd F sc__law_clock b m fun cdv A outer s0 H E hr =>
    have nd := sc__law_clock.nd
    show PSsd _ _ _ _ m__law_clock from
    (s_cons (s_own (i := 3) nd (pf_lst (pl_cons pd_int pl_nil)))
      (s_cons (s_set (i := 4) nd (d_call G__law_take hr (pl_cons (pd_var 0) (pl_cons pd_int pl_nil))))
      (s_cons (s_for PassesOwn.never rfl (w_range2 T.z_range pd_int (d_add (pd_var 2) pd_int)) (t_name 5 nd) (s_cons (s_set (i := 6) nd (w_max1 T.z_max (pd_fr (w_comp (own := [("a", 8)]) rfl nd (w_range1 T.z_range (pd_var 5)) (by kernel_rfl) (fun _ _ _ _ _ => (t_name 8 nd)) (fun _ _ _ _ _ => c_nil) (fun _ _ _ _ _ => (d_add (d_idx (pd_var 3) (pd_var 8)) (d_call G__law_low hr (pl_cons (pd_var 1) (pl_cons (d_sub (pd_var 5) (pd_var 8)) pl_nil)))))))))
      (s_cons (s_set (i := 7) nd (w_min1 T.z_min (pd_fr (w_comp (own := [("a", 8)]) rfl nd (w_range1 T.z_range (pd_var 5)) (by kernel_rfl) (fun _ _ _ _ _ => (t_name 8 nd)) (fun _ _ _ _ _ => c_nil) (fun _ _ _ _ _ => (d_add (d_idx (pd_var 3) (pd_var 8)) (d_call G__law_high hr (pl_cons (pd_var 1) (pl_cons (d_sub (pd_var 5) (pd_var 8)) pl_nil)))))))))
      (s_one (s_app (i := 3) (d_idx (pd_fr (pf_lst (pl_cons (pd_var 6) (pl_cons (pd_var 7) (pl_cons (d_add (pd_var 6) (d_call G__law_take hr (pl_cons (pd_var 0) (pl_cons (d_add (w_min2 T.z_min (d_sub (pd_var 7) (pd_var 6)) pd_int) pd_int) pl_nil)))) pl_nil))))) (pd_if (b_cmp (k_eq hr.units) (pd_var 4) pd_int) (d_call G__law_take hr (pl_cons (pd_var 0) (pl_cons pd_int pl_nil))) (pd_var 4))))))))
      (s_one (s_ret (w_tuple T.z_tuple (pd_var 3)))))))
theorem ok__law_form (T : Txt mg)  {f : Addr} {fd : FuncData} (F : Fun K "_law_form" "_law_form" s__law_form f fd) (b : Binds K fd ["kind"] []) (m : mg "_law_form" = some (.ref f)) : FD P w K mg base G 1 "_law_form" 1 f__law_form :=
  fn_fd F sc__law_form b m fun cdv A outer s0 H E hr =>
    have nd := sc__law_form.nd
    show PSsd _ _ _ _ m__law_form from
    (s_cons (s_asg (pd_var 0) (t_tup (K := K) rfl (ts_cons (t_name 1 nd) (ts_cons (t_name 2 nd) (ts_cons (t_name 3 nd) (ts_cons (t_name 4 nd) ts_nil))))))
      (s_cons (s_if (PBW.pb (pbw_or (b_cmp k_lt (pd_var 1) pd_int) (pbw_or (b_cmp k_lt (pd_var 4) pd_int) (pbw_or (b_cmp k_gt (pd_var 1) (pd_var 2)) (pbw_or1 (b_cmp k_gt (pd_var 4) (pd_var 3))))))) (s_one (s_ret pd_bl)) s_nil)
      (s_one (s_ret (pd_and (d_cmp k_le (pd_var 2) pd_int) (pd_one (d_cmp k_le (pd_var 3) pd_int)))))))
theorem ok__law_forms (T : Txt mg) (G_is_kind : FD P w K mg base G 1 "is_kind" 1 f_is_kind) (G__law_form : FD P w K mg base G 1 "_law_form" 1 f__law_form) (G__law_bool : FD P w K mg base G 1 "_law_bool" 2 f__law_bool) {f : Addr} {fd : FuncData} (F : Fun K "_law_forms" "_law_forms" s__law_forms f fd) (b : Binds K fd ["kind"] []) (m : mg "_law_forms" = some (.ref f)) : FD P w K mg base G 2 "_law_forms" 1 f__law_forms :=
  fn_fd F sc__law_forms b m fun cdv A outer s0 H E hr =>
    have nd := sc__law_forms.nd
    show PSsd _ _ _ _ m__law_forms from
    (s_cons (s_asg (pd_var 0) (t_tup (K := K) rfl (ts_cons (t_name 1 nd) (ts_cons (t_name 2 nd) (ts_cons (t_name 3 nd) (ts_cons (t_name 4 nd) ts_nil))))))
      (s_cons (s_set (i := 5) nd (pd_fr (pf_lst (pl_cons (pd_var 0) (pl_cons (pd_tup (pl_cons (pd_var 2) (pl_cons (pd_var 1) (pl_cons (pd_var 3) (pl_cons (pd_var 4) pl_nil))))) (pl_cons (pd_tup (pl_cons (pd_var 1) (pl_cons (pd_var 2) (pl_cons (pd_var 4) (pl_cons (pd_var 3) pl_nil))))) (pl_cons (pd_tup (pl_cons pd_int (pl_cons (pd_var 2) (pl_cons (pd_var 3) (pl_cons (pd_var 4) pl_nil))))) (pl_cons (pd_tup (pl_cons (pd_var 1) (pl_cons (pd_var 2) (pl_cons (pd_var 3) (pl_cons pd_int pl_nil))))) (pl_cons (pd_tup (pl_cons (pd_var 1) (pl_cons pd_int (pl_cons (pd_var 3) (pl_cons (pd_var 4) pl_nil))))) (pl_cons (pd_tup (pl_cons (pd_var 1) (pl_cons (pd_var 2) (pl_cons pd_int (pl_cons (pd_var 4) pl_nil))))) (pl_cons (pd_tup (pl_cons (d_neg' (pd_var 1)) (pl_cons (pd_var 2) (pl_cons (pd_var 3) (pl_cons (pd_var 4) pl_nil))))) (pl_cons (pd_tup (pl_cons (pd_var 1) (pl_cons pd_int (pl_cons pd_int (pl_cons (pd_var 4) pl_nil))))) (pl_cons (pd_tup (pl_cons (pd_var 1) (pl_cons pd_int (pl_cons (pd_var 3) (pl_cons (pd_var 4) pl_nil))))) pl_nil)))))))))))))
      (s_cons (s_set (i := 5) nd (d_add (pd_var 5) (pd_fr (pf_lst (pl_cons (pd_tup (pl_cons (pd_var 1) (pl_cons (pd_var 2) (pl_cons pd_int (pl_cons (pd_var 4) pl_nil))))) (pl_cons (pd_tup (pl_cons (d_add (pd_var 2) pd_int) (pl_cons (pd_var 2) (pl_cons (pd_var 3) (pl_cons (pd_var 4) pl_nil))))) (pl_cons (pd_tup (pl_cons (pd_var 1) (pl_cons (pd_var 2) (pl_cons (d_sub (pd_var 4) pd_int) (pl_cons (pd_var 4) pl_nil))))) (pl_cons (pd_tup (pl_cons (pd_var 2) (pl_cons (pd_var 2) (pl_cons (pd_var 4) (pl_cons (pd_var 4) pl_nil))))) (pl_cons (pd_tup (pl_cons pd_int (pl_cons pd_int (pl_cons pd_int (pl_cons pd_int pl_nil))))) (pl_cons (pd_tup (pl_cons pd_int (pl_cons pd_int (pl_cons (pd_var 3) (pl_cons (pd_var 4) pl_nil))))) (pl_cons (pd_tup (pl_cons (pd_var 1) (pl_cons (pd_var 2) (pl_cons pd_int (pl_cons pd_int pl_nil))))) pl_nil)))))))))))
      (s_one (s_ret (d_cmp (k_eq hr.units) (w_len T.z_len (pd_fr (w_comp (own := [("odd", 6)]) rfl nd (d_iter (pd_var 5)) (by kernel_rfl) (fun _ _ _ _ _ => (t_name 6 nd)) (fun _ _ _ _ _ => (c_one (pb_not (pb_of (d_call G__law_bool hr (pl_cons (d_call G_is_kind hr (pl_cons (pd_var 6) pl_nil)) (pl_cons (d_call G__law_form hr (pl_cons (pd_var 6) pl_nil)) pl_nil))))))) (fun _ _ _ _ _ => pd_int)))) pd_int))))))
theorem ok__law_greatest (T : Txt mg) (G__law_high : FD P w K mg base G 1 "_law_high" 2 f__law_high) (G__law_low : FD P w K mg base G 1 "_law_low" 2 f__law_low) {f : Addr} {fd : FuncData} (F : Fun K "_law_greatest" "_law_greatest" s__law_greatest f fd) (b : Binds K fd ["kind", "ticks"] []) (m : mg "_law_greatest" = some (.ref f)) : FD P w K mg base G 2 "_law_greatest" 2 f__law_greatest :=
  fn_fd F sc__law_greatest b m fun cdv A outer s0 H E hr =>
    have nd := sc__law_greatest.nd
    show PSsd _ _ _ _ m__law_greatest from
    (s_one (s_ret (pd_if (b_cmp k_ge (pd_var 1) pd_int) (d_call G__law_high hr (pl_cons (pd_var 0) (pl_cons (pd_var 1) pl_nil))) (d_sub pd_int (d_call G__law_low hr (pl_cons (pd_var 0) (pl_cons (d_sub pd_int (pd_var 1)) pl_nil)))))))
theorem ok__law_counts (T : Txt mg) (G__law_take : FD P w K mg base G 1 "_law_take" 2 f__law_take) (G_least_minutes : FD P w K mg base G 1 "least_minutes" 2 f_least_minutes) (G__law_low : FD P w K mg base G 1 "_law_low" 2 f__law_low) (G__law_same : FD P w K mg base G 12 "_law_same" 2 f__law_same) (G_most_minutes : FD P w K mg base G 1 "most_minutes" 2 f_most_minutes) (G__law_high : FD P w K mg base G 1 "_law_high" 2 f__law_high) (G_most_ticks : FD P w K mg base G 1 "most_ticks" 2 f_most_ticks) (G__law_greatest : FD P w K mg base G 2 "_law_greatest" 2 f__law_greatest) {f : Addr} {fd : FuncData} (F : Fun K "_law_counts" "_law_counts" s__law_counts f fd) (b : Binds K fd ["deal", "kind"] []) (m : mg "_law_counts" = some (.ref f)) : FD P w K mg base G 13 "_law_counts" 2 f__law_counts :=
  fn_fd F sc__law_counts b m fun cdv A outer s0 H E hr =>
    have nd := sc__law_counts.nd
    show PSsd _ _ _ _ m__law_counts from
    (s_cons (s_for PassesOwn.never rfl (d_iter (pd_fr (pf_lst (pl_cons pd_int (pl_cons pd_int (pl_cons pd_int (pl_cons (d_call G__law_take hr (pl_cons (pd_var 0) (pl_cons pd_int pl_nil))) (pl_cons (d_add pd_int (d_call G__law_take hr (pl_cons (pd_var 0) (pl_cons pd_int pl_nil)))) pl_nil)))))))) (t_name 2 nd) (s_one (s_if (PBW.pb (pbw_or (pb_not (pb_of (d_call G__law_same hr (pl_cons (d_call G_least_minutes hr (pl_cons (pd_var 1) (pl_cons (pd_var 2) pl_nil))) (pl_cons (d_call G__law_low hr (pl_cons (pd_var 1) (pl_cons (pd_var 2) pl_nil))) pl_nil))))) (pbw_or1 (pb_not (pb_of (d_call G__law_same hr (pl_cons (d_call G_most_minutes hr (pl_cons (pd_var 1) (pl_cons (pd_var 2) pl_nil))) (pl_cons (d_call G__law_high hr (pl_cons (pd_var 1) (pl_cons (pd_var 2) pl_nil))) pl_nil)))))))) (s_one (s_ret pd_bl)) s_nil)))
      (s_cons (s_for PassesOwn.never rfl (d_iter (pd_fr (pf_lst (pl_cons pd_int (pl_cons pd_int (pl_cons (d_neg' pd_int) (pl_cons (d_call G__law_take hr (pl_cons (pd_var 0) (pl_cons pd_int pl_nil))) (pl_cons (d_sub pd_int (d_call G__law_take hr (pl_cons (pd_var 0) (pl_cons pd_int pl_nil)))) (pl_cons pd_int (pl_cons (d_neg' pd_int) pl_nil)))))))))) (t_name 3 nd) (s_cons (s_set (i := 4) nd (d_call G_most_ticks hr (pl_cons (pd_var 1) (pl_cons (pd_var 3) pl_nil))))
      (s_cons (s_if (PBW.pb (pbw_or (pb_not (pb_of (w_isi bt_int T.z_isinstance T.z_int (pd_var 4)))) (pbw_or1 (pb_of (w_isi bt_bool T.z_isinstance T.z_bool (pd_var 4)))))) (s_one (s_ret pd_bl)) s_nil)
      (s_one (s_if (PBW.pb (pbw_or (b_cmp k_gt (d_call G__law_greatest hr (pl_cons (pd_var 1) (pl_cons (pd_var 4) pl_nil))) (pd_var 3)) (pbw_or1 (b_cmp k_le (d_call G__law_greatest hr (pl_cons (pd_var 1) (pl_cons (d_add (pd_var 4) pd_int) pl_nil))) (pd_var 3))))) (s_one (s_ret pd_bl)) s_nil)))))
      (s_one (s_ret pd_bl))))
theorem ok__law_bent (T : Txt mg) (G__law_high : FD P w K mg base G 1 "_law_high" 2 f__law_high) (G__law_take : FD P w K mg base G 1 "_law_take" 2 f__law_take) {f : Addr} {fd : FuncData} (F : Fun K "_law_bent" "_law_bent" s__law_bent f fd) (b : Binds K fd ["deal", "kind", "clock"] []) (m : mg "_law_bent" = some (.ref f)) : FD P w K mg base G 2 "_law_bent" 3 f__law_bent :=
  fn_fd F sc__law_bent b m fun cdv A outer s0 H E hr =>
    have nd := sc__law_bent.nd
    show PSsd _ _ _ _ m__law_bent from
    (s_cons (s_own (i := 3) nd (pf_lst (pl_cons (pd_tup pl_nil) (pl_cons (d_add (pd_tup (pl_cons pd_int pl_nil)) (d_cut (pd_var 2) (p_some pd_int) p_none)) (pl_cons (d_cut (pd_var 2) (p_some pd_int) p_none) (pl_cons (d_add (pd_var 2) (pd_tup (pl_cons (d_sub (d_idx (pd_var 2) (d_neg' pd_int)) pd_int) pl_nil))) (pl_cons (pd_tup (pl_cons pd_int pl_nil)) (pl_cons (d_add (pd_var 2) (pd_tup (pl_cons (d_add (d_idx (pd_var 2) (d_neg' pd_int)) (d_call G__law_high hr (pl_cons (pd_var 1) (pl_cons pd_int pl_nil)))) pl_nil))) (pl_cons (d_add (pd_var 2) (pd_tup (pl_cons (d_add (d_add (d_idx (pd_var 2) (d_neg' pd_int)) (d_call G__law_high hr (pl_cons (pd_var 1) (pl_cons pd_int pl_nil)))) pd_int) pl_nil))) pl_nil)))))))))
      (s_cons (s_for PassesOwn.never rfl (w_range1 T.z_range pd_int) (t_name 4 nd) (s_cons (s_set (i := 5) nd (d_call G__law_take hr (pl_cons (pd_var 0) (pl_cons (w_len T.z_len (pd_var 2)) pl_nil))))
      (s_one (s_for PassesOwn.never rfl (d_iter (pd_fr (pf_lst (pl_cons pd_int (pl_cons (d_neg' pd_int) pl_nil))))) (t_name 6 nd) (s_cons (s_app (i := 3) (d_add (d_add (d_cut (pd_var 2) p_none (p_some (pd_var 5))) (pd_tup (pl_cons (d_add (d_idx (pd_var 2) (pd_var 5)) (pd_var 6)) pl_nil))) (d_cut (pd_var 2) (p_some (d_add (pd_var 5) pd_int)) p_none)))
      (s_one (s_app (i := 3) (d_add (d_cut (pd_var 2) p_none (p_some (pd_var 5))) (w_tuple T.z_tuple (pd_fr (w_comp (own := [("t", 7)]) rfl nd (d_iter (d_cut (pd_var 2) (p_some (pd_var 5)) p_none)) (by kernel_rfl) (fun _ _ _ _ _ => (t_name 7 nd)) (fun _ _ _ _ _ => c_nil) (fun _ _ _ _ _ => (d_add (pd_var 7) (pd_var 6))))))))))))))
      (s_one (s_frz 3 (s_ret (pd_var 3))))))
theorem ok__law_extremes (T : Txt mg) (G__law_take : FD P w K mg base G 1 "_law_take" 2 f__law_take) (G_slowest_from : FD P w K mg base G 2 "slowest_from" 3 f_slowest_from) (G_fastest_from : FD P w K mg base G 2 "fastest_from" 3 f_fastest_from) (G_slow_clock : FD P w K mg base G 1 "slow_clock" 3 f_slow_clock) (G__law_same : FD P w K mg base G 12 "_law_same" 2 f__law_same) (G_fast_clock : FD P w K mg base G 1 "fast_clock" 3 f_fast_clock) (G__law_is_clock : FD P w K mg base G 2 "_law_is_clock" 2 f__law_is_clock) (G__law_high : FD P w K mg base G 1 "_law_high" 2 f__law_high) (G__law_low : FD P w K mg base G 1 "_law_low" 2 f__law_low) {f : Addr} {fd : FuncData} (F : Fun K "_law_extremes" "_law_extremes" s__law_extremes f fd) (b : Binds K fd ["deal", "kind"] []) (m : mg "_law_extremes" = some (.ref f)) : FD P w K mg base G 13 "_law_extremes" 2 f__law_extremes :=
  fn_fd F sc__law_extremes b m fun cdv A outer s0 H E hr =>
    have nd := sc__law_extremes.nd
    show PSsd _ _ _ _ m__law_extremes from
    (s_cons (s_asg (pd_var 1) (t_tup (K := K) rfl (ts_cons (t_name 2 nd) (ts_cons (t_name 3 nd) (ts_cons (t_name 4 nd) (ts_cons (t_name 5 nd) ts_nil))))))
      (s_cons (s_set (i := 6) nd (d_add pd_int (d_call G__law_take hr (pl_cons (pd_var 0) (pl_cons pd_int pl_nil)))))
      (s_cons (s_set (i := 7) nd (d_call G__law_take hr (pl_cons (pd_var 0) (pl_cons (pd_var 6) pl_nil))))
      (s_cons (s_par (i := 8) (j := 9) rfl nd (pl_cons (d_call G_slowest_from hr (pl_cons (pd_var 1) (pl_cons (pd_var 7) (pl_cons (pd_var 6) pl_nil)))) (pl_cons (d_call G_fastest_from hr (pl_cons (pd_var 1) (pl_cons (pd_var 7) (pl_cons (pd_var 6) pl_nil)))) pl_nil)) rfl)
      (s_cons (s_par (i := 10) (j := 11) rfl nd (pl_cons (d_sub (d_mul (pd_var 7) (pd_var 4)) (d_mul (d_fdiv (d_mul (pd_var 7) (pd_var 4)) (pd_var 5)) (pd_var 5))) (pl_cons (d_sub (d_mul (d_mul (d_sub (pd_var 3) pd_int) (pd_var 7)) (pd_var 2)) (d_mul (d_fdiv (d_mul (d_mul (d_sub (pd_var 3) pd_int) (pd_var 7)) (pd_var 2)) (pd_var 3)) (pd_var 3))) pl_nil)) rfl)
      (s_cons (s_if (PBW.pb (pbw_or (pb_not (pb_of (d_call G__law_same hr (pl_cons (pd_var 8) (pl_cons (d_call G_slow_clock hr (pl_cons (pd_var 1) (pl_cons (pd_var 10) (pl_cons (pd_var 6) pl_nil)))) pl_nil))))) (pbw_or1 (pb_not (pb_of (d_call G__law_same hr (pl_cons (pd_var 9) (pl_cons (d_call G_fast_clock hr (pl_cons (pd_var 1) (pl_cons (pd_var 11) (pl_cons (pd_var 6) pl_nil)))) pl_nil)))))))) (s_one (s_ret pd_bl)) s_nil)
      (s_cons (s_if (PBW.pb (pbw_or (b_cmp (k_ne hr.units) (w_len T.z_len (pd_var 8)) (d_add (pd_var 6) pd_int)) (pbw_or (b_cmp (k_ne hr.units) (w_len T.z_len (pd_var 9)) (d_add (pd_var 6) pd_int)) (pbw_or (pb_not (pb_of (d_call G__law_is_clock hr (pl_cons (pd_var 1) (pl_cons (pd_var 8) pl_nil))))) (pbw_or1 (pb_not (pb_of (d_call G__law_is_clock hr (pl_cons (pd_var 1) (pl_cons (pd_var 9) pl_nil)))))))))) (s_one (s_ret pd_bl)) s_nil)
      (s_cons (s_for PassesOwn.never rfl (w_range1 T.z_range (d_sub (d_add (pd_var 6) pd_int) (pd_var 7))) (t_name 12 nd) (s_one (s_if (PBW.pb (pbw_or (b_cmp (k_ne hr.units) (d_sub (d_idx (pd_var 8) (d_add (pd_var 7) (pd_var 12))) (d_idx (pd_var 8) (pd_var 7))) (d_call G__law_high hr (pl_cons (pd_var 1) (pl_cons (pd_var 12) pl_nil)))) (pbw_or1 (b_cmp (k_ne hr.units) (d_sub (d_idx (pd_var 9) (d_add (pd_var 7) (pd_var 12))) (d_idx (pd_var 9) (pd_var 7))) (d_call G__law_low hr (pl_cons (pd_var 1) (pl_cons (pd_var 12) pl_nil))))))) (s_one (s_ret pd_bl)) s_nil)))
      (s_cons (s_for PassesOwn.never rfl (d_iter (pd_fr (pf_lst (pl_cons pd_int (pl_cons (d_call G__law_take hr (pl_cons (pd_var 0) (pl_cons (pd_var 5) pl_nil))) (pl_cons (d_sub (pd_var 5) pd_int) pl_nil)))))) (t_name 13 nd) (s_cons (s_set (i := 14) nd (w_tuple T.z_tuple (pd_fr (w_comp (own := [("c", 12)]) rfl nd (w_range1 T.z_range (d_add (pd_var 6) pd_int)) (by kernel_rfl) (fun _ _ _ _ _ => (t_name 12 nd)) (fun _ _ _ _ _ => c_nil) (fun _ _ _ _ _ => (d_fdiv (d_sub (d_add (d_sub (d_mul (pd_var 12) (pd_var 4)) (pd_var 13)) (pd_var 5)) pd_int) (pd_var 5)))))))
      (s_one (s_if (PBW.pb (pbw_or (pb_not (pb_of (d_call G__law_same hr (pl_cons (d_call G_slow_clock hr (pl_cons (pd_var 1) (pl_cons (pd_var 13) (pl_cons (pd_var 6) pl_nil)))) (pl_cons (pd_var 14) pl_nil))))) (pbw_or1 (pb_not (pb_of (d_call G__law_is_clock hr (pl_cons (pd_var 1) (pl_cons (pd_var 14) pl_nil)))))))) (s_one (s_ret pd_bl)) s_nil))))
      (s_cons (s_for PassesOwn.never rfl (d_iter (pd_fr (pf_lst (pl_cons pd_int (pl_cons (d_call G__law_take hr (pl_cons (pd_var 0) (pl_cons (pd_var 3) pl_nil))) (pl_cons (d_sub (pd_var 3) pd_int) pl_nil)))))) (t_name 13 nd) (s_cons (s_set (i := 14) nd (w_tuple T.z_tuple (pd_fr (w_comp (own := [("c", 12)]) rfl nd (w_range1 T.z_range (d_add (pd_var 6) pd_int)) (by kernel_rfl) (fun _ _ _ _ _ => (t_name 12 nd)) (fun _ _ _ _ _ => c_nil) (fun _ _ _ _ _ => (d_fdiv (d_add (d_mul (pd_var 12) (pd_var 2)) (pd_var 13)) (pd_var 3)))))))
      (s_one (s_if (PBW.pb (pbw_or (pb_not (pb_of (d_call G__law_same hr (pl_cons (d_call G_fast_clock hr (pl_cons (pd_var 1) (pl_cons (pd_var 13) (pl_cons (pd_var 6) pl_nil)))) (pl_cons (pd_var 14) pl_nil))))) (pbw_or1 (pb_not (pb_of (d_call G__law_is_clock hr (pl_cons (pd_var 1) (pl_cons (pd_var 14) pl_nil)))))))) (s_one (s_ret pd_bl)) s_nil))))
      (s_one (s_ret pd_bl))))))))))))
theorem ok_law (T : Txt mg) (G__law_deal : FD P w K mg base G 1 "_law_deal" 1 f__law_deal) (G__law_kind : FD P w K mg base G 2 "_law_kind" 1 f__law_kind) (G__law_forms : FD P w K mg base G 2 "_law_forms" 1 f__law_forms) (G__law_counts : FD P w K mg base G 13 "_law_counts" 2 f__law_counts) (G__law_extremes : FD P w K mg base G 13 "_law_extremes" 2 f__law_extremes) (G__law_take : FD P w K mg base G 1 "_law_take" 2 f__law_take) (G__law_clock : FD P w K mg base G 2 "_law_clock" 3 f__law_clock) (G__law_is_clock : FD P w K mg base G 2 "_law_is_clock" 2 f__law_is_clock) (G_is_clock : FD P w K mg base G 2 "is_clock" 2 f_is_clock) (G__law_bool : FD P w K mg base G 1 "_law_bool" 2 f__law_bool) (G__law_bent : FD P w K mg base G 2 "_law_bent" 3 f__law_bent) {f : Addr} {fd : FuncData} (F : Fun K "law" "law" s_law f fd) : FnOk P w K mg base CX0 14 f fd ["script"] (spD G K 1 f_law) :=
  fn_ok F sc_law fun cdv A outer s0 H E hr =>
    have nd := sc_law.nd
    show PSsd _ _ _ _ m_law from
    (s_cons (s_set (i := 1) nd (d_call G__law_deal hr (pl_cons (pd_var 0) pl_nil)))
      (s_cons (s_set (i := 2) nd (d_call G__law_kind hr (pl_cons (pd_var 1) pl_nil)))
      (s_cons (s_if (PBW.pb (pbw_or (pb_not (pb_of (d_call G__law_forms hr (pl_cons (pd_var 2) pl_nil)))) (pbw_or (pb_not (pb_of (d_call G__law_counts hr (pl_cons (pd_var 1) (pl_cons (pd_var 2) pl_nil))))) (pbw_or1 (pb_not (pb_of (d_call G__law_extremes hr (pl_cons (pd_var 1) (pl_cons (pd_var 2) pl_nil))))))))) (s_one (s_ret pd_bl)) s_nil)
      (s_cons (s_set (i := 3) nd (d_call G__law_clock hr (pl_cons (pd_var 1) (pl_cons (pd_var 2) (pl_cons (d_add pd_int (d_call G__law_take hr (pl_cons (pd_var 1) (pl_cons pd_int pl_nil)))) pl_nil)))))
      (s_cons (s_if (PBW.pb (pbw_or (pb_not (pb_of (d_call G__law_is_clock hr (pl_cons (pd_var 2) (pl_cons (pd_var 3) pl_nil))))) (pbw_or1 (pb_not (pb_of (d_call G__law_bool hr (pl_cons (d_call G_is_clock hr (pl_cons (pd_var 2) (pl_cons (pd_var 3) pl_nil))) (pl_cons pd_bl pl_nil)))))))) (s_one (s_ret pd_bl)) s_nil)
      (s_cons (s_for PassesOwn.never rfl (d_iter (d_call G__law_bent hr (pl_cons (pd_var 1) (pl_cons (pd_var 2) (pl_cons (pd_var 3) pl_nil))))) (t_name 4 nd) (s_one (s_if (pb_not (pb_of (d_call G__law_bool hr (pl_cons (d_call G_is_clock hr (pl_cons (pd_var 2) (pl_cons (pd_var 4) pl_nil))) (pl_cons (d_call G__law_is_clock hr (pl_cons (pd_var 2) (pl_cons (pd_var 4) pl_nil))) pl_nil))))) (s_one (s_ret pd_bl)) s_nil)))
      (s_one (s_ret pd_bl))))))))
end
theorem all_mk {l : PySem.W.OpenLaw} {w : World} {K : PySem.W.Frag} {h : Heap} {mg : Str → Option Value} {fa a_is_kind a_least_minutes a_most_minutes a_most_ticks a_is_clock a_slow_clock a_fast_clock a_slowest_from a_fastest_from a__law_deal a__law_take a__law_same a__law_bool a__law_kind a__law_low a__law_high a__law_is_clock a__law_clock a__law_form a__law_forms a__law_greatest a__law_counts a__law_bent a__law_extremes a_law : Addr} (X : K.In h) (G : h.Ns mainGlobals mg) (hfa : mg "law" = some (.ref fa))
    {od_is_kind an_is_kind : Option Addr} {sl_is_kind : Array (Option Value)} {oc_is_kind kV_is_kind dc_is_kind pm_is_kind cd_is_kind ct_is_kind : Value}
    {od_least_minutes an_least_minutes : Option Addr} {sl_least_minutes : Array (Option Value)} {oc_least_minutes kV_least_minutes dc_least_minutes pm_least_minutes cd_least_minutes ct_least_minutes : Value}
    {od_most_minutes an_most_minutes : Option Addr} {sl_most_minutes : Array (Option Value)} {oc_most_minutes kV_most_minutes dc_most_minutes pm_most_minutes cd_most_minutes ct_most_minutes : Value}
    {od_most_ticks an_most_ticks : Option Addr} {sl_most_ticks : Array (Option Value)} {oc_most_ticks kV_most_ticks dc_most_ticks pm_most_ticks cd_most_ticks ct_most_ticks : Value}
    {od_is_clock an_is_clock : Option Addr} {sl_is_clock : Array (Option Value)} {oc_is_clock kV_is_clock dc_is_clock pm_is_clock cd_is_clock ct_is_clock : Value}
    {od_slow_clock an_slow_clock : Option Addr} {sl_slow_clock : Array (Option Value)} {oc_slow_clock kV_slow_clock dc_slow_clock pm_slow_clock cd_slow_clock ct_slow_clock : Value}
    {od_fast_clock an_fast_clock : Option Addr} {sl_fast_clock : Array (Option Value)} {oc_fast_clock kV_fast_clock dc_fast_clock pm_fast_clock cd_fast_clock ct_fast_clock : Value}
    {od_slowest_from an_slowest_from : Option Addr} {sl_slowest_from : Array (Option Value)} {oc_slowest_from kV_slowest_from dc_slowest_from pm_slowest_from cd_slowest_from ct_slowest_from : Value}
    {od_fastest_from an_fastest_from : Option Addr} {sl_fastest_from : Array (Option Value)} {oc_fastest_from kV_fastest_from dc_fastest_from pm_fastest_from cd_fastest_from ct_fastest_from : Value}
    {od__law_deal an__law_deal : Option Addr} {sl__law_deal : Array (Option Value)} {oc__law_deal kV__law_deal dc__law_deal pm__law_deal cd__law_deal ct__law_deal : Value}
    {od__law_take an__law_take : Option Addr} {sl__law_take : Array (Option Value)} {oc__law_take kV__law_take dc__law_take pm__law_take cd__law_take ct__law_take : Value}
    {od__law_same an__law_same : Option Addr} {sl__law_same : Array (Option Value)} {oc__law_same kV__law_same dc__law_same pm__law_same cd__law_same ct__law_same : Value}
    {od__law_bool an__law_bool : Option Addr} {sl__law_bool : Array (Option Value)} {oc__law_bool kV__law_bool dc__law_bool pm__law_bool cd__law_bool ct__law_bool : Value}
    {od__law_kind an__law_kind : Option Addr} {sl__law_kind : Array (Option Value)} {oc__law_kind kV__law_kind dc__law_kind pm__law_kind cd__law_kind ct__law_kind : Value}
    {od__law_low an__law_low : Option Addr} {sl__law_low : Array (Option Value)} {oc__law_low kV__law_low dc__law_low pm__law_low cd__law_low ct__law_low : Value}
    {od__law_high an__law_high : Option Addr} {sl__law_high : Array (Option Value)} {oc__law_high kV__law_high dc__law_high pm__law_high cd__law_high ct__law_high : Value}
    {od__law_is_clock an__law_is_clock : Option Addr} {sl__law_is_clock : Array (Option Value)} {oc__law_is_clock kV__law_is_clock dc__law_is_clock pm__law_is_clock cd__law_is_clock ct__law_is_clock : Value}
    {od__law_clock an__law_clock : Option Addr} {sl__law_clock : Array (Option Value)} {oc__law_clock kV__law_clock dc__law_clock pm__law_clock cd__law_clock ct__law_clock : Value}
    {od__law_form an__law_form : Option Addr} {sl__law_form : Array (Option Value)} {oc__law_form kV__law_form dc__law_form pm__law_form cd__law_form ct__law_form : Value}
    {od__law_forms an__law_forms : Option Addr} {sl__law_forms : Array (Option Value)} {oc__law_forms kV__law_forms dc__law_forms pm__law_forms cd__law_forms ct__law_forms : Value}
    {od__law_greatest an__law_greatest : Option Addr} {sl__law_greatest : Array (Option Value)} {oc__law_greatest kV__law_greatest dc__law_greatest pm__law_greatest cd__law_greatest ct__law_greatest : Value}
    {od__law_counts an__law_counts : Option Addr} {sl__law_counts : Array (Option Value)} {oc__law_counts kV__law_counts dc__law_counts pm__law_counts cd__law_counts ct__law_counts : Value}
    {od__law_bent an__law_bent : Option Addr} {sl__law_bent : Array (Option Value)} {oc__law_bent kV__law_bent dc__law_bent pm__law_bent cd__law_bent ct__law_bent : Value}
    {od__law_extremes an__law_extremes : Option Addr} {sl__law_extremes : Array (Option Value)} {oc__law_extremes kV__law_extremes dc__law_extremes pm__law_extremes cd__law_extremes ct__law_extremes : Value}
    {od_law an_law : Option Addr} {sl_law : Array (Option Value)} {oc_law kV_law dc_law pm_law cd_law ct_law : Value}
    (na_is_kind : PySem.W.nsIn K mainGlobals "is_kind" = some (some (.ref a_is_kind))) (lk_is_kind : K.lookup a_is_kind = some ⟨oc_is_kind, od_is_kind, .func (PySem.W.fnOf "is_kind" "is_kind" (defArgs s_is_kind) (defBody s_is_kind) (defScope s_is_kind) .none kV_is_kind dc_is_kind pm_is_kind an_is_kind cd_is_kind ct_is_kind), sl_is_kind⟩) (co_is_kind : PySem.W.codeIn K cd_is_kind "is_kind" = true) (ke_is_kind : PySem.W.keepIn K (.ref a_is_kind) = true)
    (na_least_minutes : PySem.W.nsIn K mainGlobals "least_minutes" = some (some (.ref a_least_minutes))) (lk_least_minutes : K.lookup a_least_minutes = some ⟨oc_least_minutes, od_least_minutes, .func (PySem.W.fnOf "least_minutes" "least_minutes" (defArgs s_least_minutes) (defBody s_least_minutes) (defScope s_least_minutes) .none kV_least_minutes dc_least_minutes pm_least_minutes an_least_minutes cd_least_minutes ct_least_minutes), sl_least_minutes⟩) (co_least_minutes : PySem.W.codeIn K cd_least_minutes "least_minutes" = true) (ke_least_minutes : PySem.W.keepIn K (.ref a_least_minutes) = true)
    (na_most_minutes : PySem.W.nsIn K mainGlobals "most_minutes" = some (some (.ref a_most_minutes))) (lk_most_minutes : K.lookup a_most_minutes = some ⟨oc_most_minutes, od_most_minutes, .func (PySem.W.fnOf "most_minutes" "most_minutes" (defArgs s_most_minutes) (defBody s_most_minutes) (defScope s_most_minutes) .none kV_most_minutes dc_most_minutes pm_most_minutes an_most_minutes cd_most_minutes ct_most_minutes), sl_most_minutes⟩) (co_most_minutes : PySem.W.codeIn K cd_most_minutes "most_minutes" = true) (ke_most_minutes : PySem.W.keepIn K (.ref a_most_minutes) = true)
    (na_most_ticks : PySem.W.nsIn K mainGlobals "most_ticks" = some (some (.ref a_most_ticks))) (lk_most_ticks : K.lookup a_most_ticks = some ⟨oc_most_ticks, od_most_ticks, .func (PySem.W.fnOf "most_ticks" "most_ticks" (defArgs s_most_ticks) (defBody s_most_ticks) (defScope s_most_ticks) .none kV_most_ticks dc_most_ticks pm_most_ticks an_most_ticks cd_most_ticks ct_most_ticks), sl_most_ticks⟩) (co_most_ticks : PySem.W.codeIn K cd_most_ticks "most_ticks" = true) (ke_most_ticks : PySem.W.keepIn K (.ref a_most_ticks) = true)
    (na_is_clock : PySem.W.nsIn K mainGlobals "is_clock" = some (some (.ref a_is_clock))) (lk_is_clock : K.lookup a_is_clock = some ⟨oc_is_clock, od_is_clock, .func (PySem.W.fnOf "is_clock" "is_clock" (defArgs s_is_clock) (defBody s_is_clock) (defScope s_is_clock) .none kV_is_clock dc_is_clock pm_is_clock an_is_clock cd_is_clock ct_is_clock), sl_is_clock⟩) (co_is_clock : PySem.W.codeIn K cd_is_clock "is_clock" = true) (ke_is_clock : PySem.W.keepIn K (.ref a_is_clock) = true)
    (na_slow_clock : PySem.W.nsIn K mainGlobals "slow_clock" = some (some (.ref a_slow_clock))) (lk_slow_clock : K.lookup a_slow_clock = some ⟨oc_slow_clock, od_slow_clock, .func (PySem.W.fnOf "slow_clock" "slow_clock" (defArgs s_slow_clock) (defBody s_slow_clock) (defScope s_slow_clock) .none kV_slow_clock dc_slow_clock pm_slow_clock an_slow_clock cd_slow_clock ct_slow_clock), sl_slow_clock⟩) (co_slow_clock : PySem.W.codeIn K cd_slow_clock "slow_clock" = true) (ke_slow_clock : PySem.W.keepIn K (.ref a_slow_clock) = true)
    (na_fast_clock : PySem.W.nsIn K mainGlobals "fast_clock" = some (some (.ref a_fast_clock))) (lk_fast_clock : K.lookup a_fast_clock = some ⟨oc_fast_clock, od_fast_clock, .func (PySem.W.fnOf "fast_clock" "fast_clock" (defArgs s_fast_clock) (defBody s_fast_clock) (defScope s_fast_clock) .none kV_fast_clock dc_fast_clock pm_fast_clock an_fast_clock cd_fast_clock ct_fast_clock), sl_fast_clock⟩) (co_fast_clock : PySem.W.codeIn K cd_fast_clock "fast_clock" = true) (ke_fast_clock : PySem.W.keepIn K (.ref a_fast_clock) = true)
    (na_slowest_from : PySem.W.nsIn K mainGlobals "slowest_from" = some (some (.ref a_slowest_from))) (lk_slowest_from : K.lookup a_slowest_from = some ⟨oc_slowest_from, od_slowest_from, .func (PySem.W.fnOf "slowest_from" "slowest_from" (defArgs s_slowest_from) (defBody s_slowest_from) (defScope s_slowest_from) .none kV_slowest_from dc_slowest_from pm_slowest_from an_slowest_from cd_slowest_from ct_slowest_from), sl_slowest_from⟩) (co_slowest_from : PySem.W.codeIn K cd_slowest_from "slowest_from" = true) (ke_slowest_from : PySem.W.keepIn K (.ref a_slowest_from) = true)
    (na_fastest_from : PySem.W.nsIn K mainGlobals "fastest_from" = some (some (.ref a_fastest_from))) (lk_fastest_from : K.lookup a_fastest_from = some ⟨oc_fastest_from, od_fastest_from, .func (PySem.W.fnOf "fastest_from" "fastest_from" (defArgs s_fastest_from) (defBody s_fastest_from) (defScope s_fastest_from) .none kV_fastest_from dc_fastest_from pm_fastest_from an_fastest_from cd_fastest_from ct_fastest_from), sl_fastest_from⟩) (co_fastest_from : PySem.W.codeIn K cd_fastest_from "fastest_from" = true) (ke_fastest_from : PySem.W.keepIn K (.ref a_fastest_from) = true)
    (na__law_deal : PySem.W.nsIn K mainGlobals "_law_deal" = some (some (.ref a__law_deal))) (lk__law_deal : K.lookup a__law_deal = some ⟨oc__law_deal, od__law_deal, .func (PySem.W.fnOf "_law_deal" "_law_deal" (defArgs s__law_deal) (defBody s__law_deal) (defScope s__law_deal) .none kV__law_deal dc__law_deal pm__law_deal an__law_deal cd__law_deal ct__law_deal), sl__law_deal⟩) (co__law_deal : PySem.W.codeIn K cd__law_deal "_law_deal" = true) (ke__law_deal : PySem.W.keepIn K (.ref a__law_deal) = true)
    (na__law_take : PySem.W.nsIn K mainGlobals "_law_take" = some (some (.ref a__law_take))) (lk__law_take : K.lookup a__law_take = some ⟨oc__law_take, od__law_take, .func (PySem.W.fnOf "_law_take" "_law_take" (defArgs s__law_take) (defBody s__law_take) (defScope s__law_take) .none kV__law_take dc__law_take pm__law_take an__law_take cd__law_take ct__law_take), sl__law_take⟩) (co__law_take : PySem.W.codeIn K cd__law_take "_law_take" = true) (ke__law_take : PySem.W.keepIn K (.ref a__law_take) = true)
    (na__law_same : PySem.W.nsIn K mainGlobals "_law_same" = some (some (.ref a__law_same))) (lk__law_same : K.lookup a__law_same = some ⟨oc__law_same, od__law_same, .func (PySem.W.fnOf "_law_same" "_law_same" (defArgs s__law_same) (defBody s__law_same) (defScope s__law_same) .none kV__law_same dc__law_same pm__law_same an__law_same cd__law_same ct__law_same), sl__law_same⟩) (co__law_same : PySem.W.codeIn K cd__law_same "_law_same" = true) (ke__law_same : PySem.W.keepIn K (.ref a__law_same) = true)
    (na__law_bool : PySem.W.nsIn K mainGlobals "_law_bool" = some (some (.ref a__law_bool))) (lk__law_bool : K.lookup a__law_bool = some ⟨oc__law_bool, od__law_bool, .func (PySem.W.fnOf "_law_bool" "_law_bool" (defArgs s__law_bool) (defBody s__law_bool) (defScope s__law_bool) .none kV__law_bool dc__law_bool pm__law_bool an__law_bool cd__law_bool ct__law_bool), sl__law_bool⟩) (co__law_bool : PySem.W.codeIn K cd__law_bool "_law_bool" = true) (ke__law_bool : PySem.W.keepIn K (.ref a__law_bool) = true)
    (na__law_kind : PySem.W.nsIn K mainGlobals "_law_kind" = some (some (.ref a__law_kind))) (lk__law_kind : K.lookup a__law_kind = some ⟨oc__law_kind, od__law_kind, .func (PySem.W.fnOf "_law_kind" "_law_kind" (defArgs s__law_kind) (defBody s__law_kind) (defScope s__law_kind) .none kV__law_kind dc__law_kind pm__law_kind an__law_kind cd__law_kind ct__law_kind), sl__law_kind⟩) (co__law_kind : PySem.W.codeIn K cd__law_kind "_law_kind" = true) (ke__law_kind : PySem.W.keepIn K (.ref a__law_kind) = true)
    (na__law_low : PySem.W.nsIn K mainGlobals "_law_low" = some (some (.ref a__law_low))) (lk__law_low : K.lookup a__law_low = some ⟨oc__law_low, od__law_low, .func (PySem.W.fnOf "_law_low" "_law_low" (defArgs s__law_low) (defBody s__law_low) (defScope s__law_low) .none kV__law_low dc__law_low pm__law_low an__law_low cd__law_low ct__law_low), sl__law_low⟩) (co__law_low : PySem.W.codeIn K cd__law_low "_law_low" = true) (ke__law_low : PySem.W.keepIn K (.ref a__law_low) = true)
    (na__law_high : PySem.W.nsIn K mainGlobals "_law_high" = some (some (.ref a__law_high))) (lk__law_high : K.lookup a__law_high = some ⟨oc__law_high, od__law_high, .func (PySem.W.fnOf "_law_high" "_law_high" (defArgs s__law_high) (defBody s__law_high) (defScope s__law_high) .none kV__law_high dc__law_high pm__law_high an__law_high cd__law_high ct__law_high), sl__law_high⟩) (co__law_high : PySem.W.codeIn K cd__law_high "_law_high" = true) (ke__law_high : PySem.W.keepIn K (.ref a__law_high) = true)
    (na__law_is_clock : PySem.W.nsIn K mainGlobals "_law_is_clock" = some (some (.ref a__law_is_clock))) (lk__law_is_clock : K.lookup a__law_is_clock = some ⟨oc__law_is_clock, od__law_is_clock, .func (PySem.W.fnOf "_law_is_clock" "_law_is_clock" (defArgs s__law_is_clock) (defBody s__law_is_clock) (defScope s__law_is_clock) .none kV__law_is_clock dc__law_is_clock pm__law_is_clock an__law_is_clock cd__law_is_clock ct__law_is_clock), sl__law_is_clock⟩) (co__law_is_clock : PySem.W.codeIn K cd__law_is_clock "_law_is_clock" = true) (ke__law_is_clock : PySem.W.keepIn K (.ref a__law_is_clock) = true)
    (na__law_clock : PySem.W.nsIn K mainGlobals "_law_clock" = some (some (.ref a__law_clock))) (lk__law_clock : K.lookup a__law_clock = some ⟨oc__law_clock, od__law_clock, .func (PySem.W.fnOf "_law_clock" "_law_clock" (defArgs s__law_clock) (defBody s__law_clock) (defScope s__law_clock) .none kV__law_clock dc__law_clock pm__law_clock an__law_clock cd__law_clock ct__law_clock), sl__law_clock⟩) (co__law_clock : PySem.W.codeIn K cd__law_clock "_law_clock" = true) (ke__law_clock : PySem.W.keepIn K (.ref a__law_clock) = true)
    (na__law_form : PySem.W.nsIn K mainGlobals "_law_form" = some (some (.ref a__law_form))) (lk__law_form : K.lookup a__law_form = some ⟨oc__law_form, od__law_form, .func (PySem.W.fnOf "_law_form" "_law_form" (defArgs s__law_form) (defBody s__law_form) (defScope s__law_form) .none kV__law_form dc__law_form pm__law_form an__law_form cd__law_form ct__law_form), sl__law_form⟩) (co__law_form : PySem.W.codeIn K cd__law_form "_law_form" = true) (ke__law_form : PySem.W.keepIn K (.ref a__law_form) = true)
    (na__law_forms : PySem.W.nsIn K mainGlobals "_law_forms" = some (some (.ref a__law_forms))) (lk__law_forms : K.lookup a__law_forms = some ⟨oc__law_forms, od__law_forms, .func (PySem.W.fnOf "_law_forms" "_law_forms" (defArgs s__law_forms) (defBody s__law_forms) (defScope s__law_forms) .none kV__law_forms dc__law_forms pm__law_forms an__law_forms cd__law_forms ct__law_forms), sl__law_forms⟩) (co__law_forms : PySem.W.codeIn K cd__law_forms "_law_forms" = true) (ke__law_forms : PySem.W.keepIn K (.ref a__law_forms) = true)
    (na__law_greatest : PySem.W.nsIn K mainGlobals "_law_greatest" = some (some (.ref a__law_greatest))) (lk__law_greatest : K.lookup a__law_greatest = some ⟨oc__law_greatest, od__law_greatest, .func (PySem.W.fnOf "_law_greatest" "_law_greatest" (defArgs s__law_greatest) (defBody s__law_greatest) (defScope s__law_greatest) .none kV__law_greatest dc__law_greatest pm__law_greatest an__law_greatest cd__law_greatest ct__law_greatest), sl__law_greatest⟩) (co__law_greatest : PySem.W.codeIn K cd__law_greatest "_law_greatest" = true) (ke__law_greatest : PySem.W.keepIn K (.ref a__law_greatest) = true)
    (na__law_counts : PySem.W.nsIn K mainGlobals "_law_counts" = some (some (.ref a__law_counts))) (lk__law_counts : K.lookup a__law_counts = some ⟨oc__law_counts, od__law_counts, .func (PySem.W.fnOf "_law_counts" "_law_counts" (defArgs s__law_counts) (defBody s__law_counts) (defScope s__law_counts) .none kV__law_counts dc__law_counts pm__law_counts an__law_counts cd__law_counts ct__law_counts), sl__law_counts⟩) (co__law_counts : PySem.W.codeIn K cd__law_counts "_law_counts" = true) (ke__law_counts : PySem.W.keepIn K (.ref a__law_counts) = true)
    (na__law_bent : PySem.W.nsIn K mainGlobals "_law_bent" = some (some (.ref a__law_bent))) (lk__law_bent : K.lookup a__law_bent = some ⟨oc__law_bent, od__law_bent, .func (PySem.W.fnOf "_law_bent" "_law_bent" (defArgs s__law_bent) (defBody s__law_bent) (defScope s__law_bent) .none kV__law_bent dc__law_bent pm__law_bent an__law_bent cd__law_bent ct__law_bent), sl__law_bent⟩) (co__law_bent : PySem.W.codeIn K cd__law_bent "_law_bent" = true) (ke__law_bent : PySem.W.keepIn K (.ref a__law_bent) = true)
    (na__law_extremes : PySem.W.nsIn K mainGlobals "_law_extremes" = some (some (.ref a__law_extremes))) (lk__law_extremes : K.lookup a__law_extremes = some ⟨oc__law_extremes, od__law_extremes, .func (PySem.W.fnOf "_law_extremes" "_law_extremes" (defArgs s__law_extremes) (defBody s__law_extremes) (defScope s__law_extremes) .none kV__law_extremes dc__law_extremes pm__law_extremes an__law_extremes cd__law_extremes ct__law_extremes), sl__law_extremes⟩) (co__law_extremes : PySem.W.codeIn K cd__law_extremes "_law_extremes" = true) (ke__law_extremes : PySem.W.keepIn K (.ref a__law_extremes) = true)
    (na_law : PySem.W.nsIn K mainGlobals "law" = some (some (.ref a_law))) (lk_law : K.lookup a_law = some ⟨oc_law, od_law, .func (PySem.W.fnOf "law" "law" (defArgs s_law) (defBody s_law) (defScope s_law) .none kV_law dc_law pm_law an_law cd_law ct_law), sl_law⟩) (co_law : PySem.W.codeIn K cd_law "law" = true) (ke_law : PySem.W.keepIn K (.ref a_law) = true)
    (z_abs : PySem.W.nsIn K mainGlobals "abs" = some none)
    (z_bool : PySem.W.nsIn K mainGlobals "bool" = some none)
    (z_int : PySem.W.nsIn K mainGlobals "int" = some none)
    (z_isinstance : PySem.W.nsIn K mainGlobals "isinstance" = some none)
    (z_len : PySem.W.nsIn K mainGlobals "len" = some none)
    (z_list : PySem.W.nsIn K mainGlobals "list" = some none)
    (z_max : PySem.W.nsIn K mainGlobals "max" = some none)
    (z_min : PySem.W.nsIn K mainGlobals "min" = some none)
    (z_range : PySem.W.nsIn K mainGlobals "range" = some none)
    (z_str : PySem.W.nsIn K mainGlobals "str" = some none)
    (z_sum : PySem.W.nsIn K mainGlobals "sum" = some none)
    (z_tuple : PySem.W.nsIn K mainGlobals "tuple" = some none)
    {t_MOST_SHARE : Tok} (c_MOST_SHARE : PySem.W.nsIn K mainGlobals "MOST_SHARE" = some (some (.int (10000) t_MOST_SHARE)))
    (law_true : ∀ ns : List Int, ns.length ≤ 63 → ∃ κ, f_law [.rol (ns.map DL.D.int)] [] = some (.ok (.bl true), κ)) :
    ∃ fd : FuncData, (∀ (s : Shared) (v : Value), BindsTo s fd ⟨[v], []⟩ [("script", v)]) ∧ ∀ base : Heap, K.In base → base.Ns mainGlobals mg → FnOk l.prog w K mg base CX0 14 fa fd ["script"] (spD ⟨fun _ => 0, fun _ => 0⟩ K 1 f_law) := by
  have e := hfa.symm.trans (PySem.W.mg_of X G na_law)
  cases e
  have T : Txt mg := ⟨PySem.W.mg_none_of X G z_abs, PySem.W.mg_none_of X G z_bool, PySem.W.mg_none_of X G z_int, PySem.W.mg_none_of X G z_isinstance, PySem.W.mg_none_of X G z_len, PySem.W.mg_none_of X G z_list, PySem.W.mg_none_of X G z_max, PySem.W.mg_none_of X G z_min, PySem.W.mg_none_of X G z_range, PySem.W.mg_none_of X G z_str, PySem.W.mg_none_of X G z_sum, PySem.W.mg_none_of X G z_tuple, ⟨_, PySem.W.mg_of X G c_MOST_SHARE⟩⟩
  have F_is_kind := fun_mk (st := s_is_kind) lk_is_kind co_is_kind ke_is_kind
  have b_is_kind := F_is_kind.binds (ps := ["kind"]) fun _ _ _ _ _ _ us hl => match us, hl with | [_], _ => rfl
  have F_least_minutes := fun_mk (st := s_least_minutes) lk_least_minutes co_least_minutes ke_least_minutes
  have b_least_minutes := F_least_minutes.binds (ps := ["kind", "ticks"]) fun _ _ _ _ _ _ us hl => match us, hl with | [_, _], _ => rfl
  have F_most_minutes := fun_mk (st := s_most_minutes) lk_most_minutes co_most_minutes ke_most_minutes
  have b_most_minutes := F_most_minutes.binds (ps := ["kind", "ticks"]) fun _ _ _ _ _ _ us hl => match us, hl with | [_, _], _ => rfl
  have F_most_ticks := fun_mk (st := s_most_ticks) lk_most_ticks co_most_ticks ke_most_ticks
  have b_most_ticks := F_most_ticks.binds (ps := ["kind", "minutes"]) fun _ _ _ _ _ _ us hl => match us, hl with | [_, _], _ => rfl
  have F_is_clock := fun_mk (st := s_is_clock) lk_is_clock co_is_clock ke_is_clock
  have b_is_clock := F_is_clock.binds (ps := ["kind", "clock"]) fun _ _ _ _ _ _ us hl => match us, hl with | [_, _], _ => rfl
  have F_slow_clock := fun_mk (st := s_slow_clock) lk_slow_clock co_slow_clock ke_slow_clock
  have b_slow_clock := F_slow_clock.binds (ps := ["kind", "phase", "last"]) fun _ _ _ _ _ _ us hl => match us, hl with | [_, _, _], _ => rfl
  have F_fast_clock := fun_mk (st := s_fast_clock) lk_fast_clock co_fast_clock ke_fast_clock
  have b_fast_clock := F_fast_clock.binds (ps := ["kind", "phase", "last"]) fun _ _ _ _ _ _ us hl => match us, hl with | [_, _, _], _ => rfl
  have F_slowest_from := fun_mk (st := s_slowest_from) lk_slowest_from co_slowest_from ke_slowest_from
  have b_slowest_from := F_slowest_from.binds (ps := ["kind", "tick", "last"]) fun _ _ _ _ _ _ us hl => match us, hl with | [_, _, _], _ => rfl
  have F_fastest_from := fun_mk (st := s_fastest_from) lk_fastest_from co_fastest_from ke_fastest_from
  have b_fastest_from := F_fastest_from.binds (ps := ["kind", "tick", "last"]) fun _ _ _ _ _ _ us hl => match us, hl with | [_, _, _], _ => rfl
  have F__law_deal := fun_mk (st := s__law_deal) lk__law_deal co__law_deal ke__law_deal
  have b__law_deal := F__law_deal.binds (ps := ["script"]) fun _ _ _ _ _ _ us hl => match us, hl with | [_], _ => rfl
  have F__law_take := fun_mk (st := s__law_take) lk__law_take co__law_take ke__law_take
  have b__law_take := F__law_take.binds (ps := ["deal", "many"]) fun _ _ _ _ _ _ us hl => match us, hl with | [_, _], _ => rfl
  have F__law_same := fun_mk (st := s__law_same) lk__law_same co__law_same ke__law_same
  have b__law_same := F__law_same.binds (ps := ["a", "b"]) fun _ _ _ _ _ _ us hl => match us, hl with | [_, _], _ => rfl
  have F__law_bool := fun_mk (st := s__law_bool) lk__law_bool co__law_bool ke__law_bool
  have b__law_bool := F__law_bool.binds (ps := ["answer", "due"]) fun _ _ _ _ _ _ us hl => match us, hl with | [_, _], _ => rfl
  have F__law_kind := fun_mk (st := s__law_kind) lk__law_kind co__law_kind ke__law_kind
  have b__law_kind := F__law_kind.binds (ps := ["deal"]) fun _ _ _ _ _ _ us hl => match us, hl with | [_], _ => rfl
  have F__law_low := fun_mk (st := s__law_low) lk__law_low co__law_low ke__law_low
  have b__law_low := F__law_low.binds (ps := ["kind", "ticks"]) fun _ _ _ _ _ _ us hl => match us, hl with | [_, _], _ => rfl
  have F__law_high := fun_mk (st := s__law_high) lk__law_high co__law_high ke__law_high
  have b__law_high := F__law_high.binds (ps := ["kind", "ticks"]) fun _ _ _ _ _ _ us hl => match us, hl with | [_, _], _ => rfl
  have F__law_is_clock := fun_mk (st := s__law_is_clock) lk__law_is_clock co__law_is_clock ke__law_is_clock
  have b__law_is_clock := F__law_is_clock.binds (ps := ["kind", "clock"]) fun _ _ _ _ _ _ us hl => match us, hl with | [_, _], _ => rfl
  have F__law_clock := fun_mk (st := s__law_clock) lk__law_clock co__law_clock ke__law_clock
  have b__law_clock := F__law_clock.binds (ps := ["deal", "kind", "last"]) fun _ _ _ _ _ _ us hl => match us, hl with | [_, _, _], _ => rfl
  have F__law_form := fun_mk (st := s__law_form) lk__law_form co__law_form ke__law_form
  have b__law_form := F__law_form.binds (ps := ["kind"]) fun _ _ _ _ _ _ us hl => match us, hl with | [_], _ => rfl
  have F__law_forms := fun_mk (st := s__law_forms) lk__law_forms co__law_forms ke__law_forms
  have b__law_forms := F__law_forms.binds (ps := ["kind"]) fun _ _ _ _ _ _ us hl => match us, hl with | [_], _ => rfl
  have F__law_greatest := fun_mk (st := s__law_greatest) lk__law_greatest co__law_greatest ke__law_greatest
  have b__law_greatest := F__law_greatest.binds (ps := ["kind", "ticks"]) fun _ _ _ _ _ _ us hl => match us, hl with | [_, _], _ => rfl
  have F__law_counts := fun_mk (st := s__law_counts) lk__law_counts co__law_counts ke__law_counts
  have b__law_counts := F__law_counts.binds (ps := ["deal", "kind"]) fun _ _ _ _ _ _ us hl => match us, hl with | [_, _], _ => rfl
  have F__law_bent := fun_mk (st := s__law_bent) lk__law_bent co__law_bent ke__law_bent
  have b__law_bent := F__law_bent.binds (ps := ["deal", "kind", "clock"]) fun _ _ _ _ _ _ us hl => match us, hl with | [_, _, _], _ => rfl
  have F__law_extremes := fun_mk (st := s__law_extremes) lk__law_extremes co__law_extremes ke__law_extremes
  have b__law_extremes := F__law_extremes.binds (ps := ["deal", "kind"]) fun _ _ _ _ _ _ us hl => match us, hl with | [_, _], _ => rfl
  have F_law := fun_mk (st := s_law) lk_law co_law ke_law
  have b_law := F_law.binds (ps := ["script"]) fun _ _ _ _ _ _ us hl => match us, hl with | [_], _ => rfl
  refine ⟨PySem.W.fnOf "law" "law" (defArgs s_law) (defBody s_law) (defScope s_law) .none kV_law dc_law pm_law an_law cd_law ct_law, fun s v => .of_eq rfl, fun base _ _ => ?_⟩
  have G_is_kind := ok_is_kind (P := l.prog) (w := w) (base := base) (G := ⟨fun _ => 0, fun _ => 0⟩) T  F_is_kind b_is_kind (PySem.W.mg_of X G na_is_kind)
  have G_least_minutes := ok_least_minutes (P := l.prog) (w := w) (base := base) (G := ⟨fun _ => 0, fun _ => 0⟩) T  F_least_minutes b_least_minutes (PySem.W.mg_of X G na_least_minutes)
  have G_most_minutes := ok_most_minutes (P := l.prog) (w := w) (base := base) (G := ⟨fun _ => 0, fun _ => 0⟩) T  F_most_minutes b_most_minutes (PySem.W.mg_of X G na_most_minutes)
  have G_most_ticks := ok_most_ticks (P := l.prog) (w := w) (base := base) (G := ⟨fun _ => 0, fun _ => 0⟩) T  F_most_ticks b_most_ticks (PySem.W.mg_of X G na_most_ticks)
  have G_is_clock := ok_is_clock (P := l.prog) (w := w) (base := base) (G := ⟨fun _ => 0, fun _ => 0⟩) T G_least_minutes G_most_minutes F_is_clock b_is_clock (PySem.W.mg_of X G na_is_clock)
  have G_slow_clock := ok_slow_clock (P := l.prog) (w := w) (base := base) (G := ⟨fun _ => 0, fun _ => 0⟩) T  F_slow_clock b_slow_clock (PySem.W.mg_of X G na_slow_clock)
  have G_fast_clock := ok_fast_clock (P := l.prog) (w := w) (base := base) (G := ⟨fun _ => 0, fun _ => 0⟩) T  F_fast_clock b_fast_clock (PySem.W.mg_of X G na_fast_clock)
  have G_slowest_from := ok_slowest_from (P := l.prog) (w := w) (base := base) (G := ⟨fun _ => 0, fun _ => 0⟩) T G_slow_clock F_slowest_from b_slowest_from (PySem.W.mg_of X G na_slowest_from)
  have G_fastest_from := ok_fastest_from (P := l.prog) (w := w) (base := base) (G := ⟨fun _ => 0, fun _ => 0⟩) T G_fast_clock F_fastest_from b_fastest_from (PySem.W.mg_of X G na_fastest_from)
  have G__law_deal := ok__law_deal (P := l.prog) (w := w) (base := base) (G := ⟨fun _ => 0, fun _ => 0⟩) T  F__law_deal b__law_deal (PySem.W.mg_of X G na__law_deal)
  have G__law_take := ok__law_take (P := l.prog) (w := w) (base := base) (G := ⟨fun _ => 0, fun _ => 0⟩) T  F__law_take b__law_take (PySem.W.mg_of X G na__law_take)
  have G__law_same := ok__law_same (P := l.prog) (w := w) (base := base) (G := ⟨fun _ => 0, fun _ => 0⟩) T  F__law_same b__law_same (PySem.W.mg_of X G na__law_same)
  have G__law_bool := ok__law_bool (P := l.prog) (w := w) (base := base) (G := ⟨fun _ => 0, fun _ => 0⟩) T  F__law_bool b__law_bool (PySem.W.mg_of X G na__law_bool)
  have G__law_kind := ok__law_kind (P := l.prog) (w := w) (base := base) (G := ⟨fun _ => 0, fun _ => 0⟩) T G__law_take F__law_kind b__law_kind (PySem.W.mg_of X G na__law_kind)
  have G__law_low := ok__law_low (P := l.prog) (w := w) (base := base) (G := ⟨fun _ => 0, fun _ => 0⟩) T  F__law_low b__law_low (PySem.W.mg_of X G na__law_low)
  have G__law_high := ok__law_high (P := l.prog) (w := w) (base := base) (G := ⟨fun _ => 0, fun _ => 0⟩) T  F__law_high b__law_high (PySem.W.mg_of X G na__law_high)
  have G__law_is_clock := ok__law_is_clock (P := l.prog) (w := w) (base := base) (G := ⟨fun _ => 0, fun _ => 0⟩) T G__law_low G__law_high F__law_is_clock b__law_is_clock (PySem.W.mg_of X G na__law_is_clock)
  have G__law_clock := ok__law_clock (P := l.prog) (w := w) (base := base) (G := ⟨fun _ => 0, fun _ => 0⟩) T G__law_take G__law_low G__law_high F__law_clock b__law_clock (PySem.W.mg_of X G na__law_clock)
  have G__law_form := ok__law_form (P := l.prog) (w := w) (base := base) (G := ⟨fun _ => 0, fun _ => 0⟩) T  F__law_form b__law_form (PySem.W.mg_of X G na__law_form)
  have G__law_forms := ok__law_forms (P := l.prog) (w := w) (base := base) (G := ⟨fun _ => 0, fun _ => 0⟩) T G_is_kind G__law_form G__law_bool F__law_forms b__law_forms (PySem.W.mg_of X G na__law_forms)
  have G__law_greatest := ok__law_greatest (P := l.prog) (w := w) (base := base) (G := ⟨fun _ => 0, fun _ => 0⟩) T G__law_high G__law_low F__law_greatest b__law_greatest (PySem.W.mg_of X G na__law_greatest)
  have G__law_counts := ok__law_counts (P := l.prog) (w := w) (base := base) (G := ⟨fun _ => 0, fun _ => 0⟩) T G__law_take G_least_minutes G__law_low G__law_same G_most_minutes G__law_high G_most_ticks G__law_greatest F__law_counts b__law_counts (PySem.W.mg_of X G na__law_counts)
  have G__law_bent := ok__law_bent (P := l.prog) (w := w) (base := base) (G := ⟨fun _ => 0, fun _ => 0⟩) T G__law_high G__law_take F__law_bent b__law_bent (PySem.W.mg_of X G na__law_bent)
  have G__law_extremes := ok__law_extremes (P := l.prog) (w := w) (base := base) (G := ⟨fun _ => 0, fun _ => 0⟩) T G__law_take G_slowest_from G_fastest_from G_slow_clock G__law_same G_fast_clock G__law_is_clock G__law_high G__law_low F__law_extremes b__law_extremes (PySem.W.mg_of X G na__law_extremes)
  exact ok_law T G__law_deal G__law_kind G__law_forms G__law_counts G__law_extremes G__law_take G__law_clock G__law_is_clock G_is_clock G__law_bool G__law_bent F_law
end K82
open PySem PySem.W PyProof.Rows
set_option maxHeartbeats 0 in
theorem PySem.Challenge.cw_dayholds_k82_whole_clocks_of_a_kind_holds : PySem.Challenge.rw_dayholds_k82_whole_clocks_of_a_kind.Holds := by
  w_on; o_law; k_head; (case hw => w_witness2)
  k_fill
  refine L2.walk_of (l := PySem.Challenge.rw_dayholds_k82_whole_clocks_of_a_kind) (n := 63) (k := 14) (x := "script") (CX := fun _ => L2.CX0) (sp := fun w => DL.spD ⟨fun _ => 0, fun _ => 0⟩ _ 1 K82.f_law) rfl (by decide) rfl ⟨rfl, by decide, by decide⟩ (fun w h Y => PySem.W.kIn_of Y) ?F (fun _ H a ns hl _ hS => DL.law_end K82.law_true H a ns hl hS) (fun _ _ _ _ _ h => h)
  case F =>
    intro w mg fa h KX G hmg
    refine' K82.all_mk KX G hmg ?na_is_kind ?lk_is_kind ?co_is_kind ?ke_is_kind ?na_least_minutes ?lk_least_minutes ?co_least_minutes ?ke_least_minutes ?na_most_minutes ?lk_most_minutes ?co_most_minutes ?ke_most_minutes ?na_most_ticks ?lk_most_ticks ?co_most_ticks ?ke_most_ticks ?na_is_clock ?lk_is_clock ?co_is_clock ?ke_is_clock ?na_slow_clock ?lk_slow_clock ?co_slow_clock ?ke_slow_clock ?na_fast_clock ?lk_fast_clock ?co_fast_clock ?ke_fast_clock ?na_slowest_from ?lk_slowest_from ?co_slowest_from ?ke_slowest_from ?na_fastest_from ?lk_fastest_from ?co_fastest_from ?ke_fastest_from ?na__law_deal ?lk__law_deal ?co__law_deal ?ke__law_deal ?na__law_take ?lk__law_take ?co__law_take ?ke__law_take ?na__law_same ?lk__law_same ?co__law_same ?ke__law_same ?na__law_bool ?lk__law_bool ?co__law_bool ?ke__law_bool ?na__law_kind ?lk__law_kind ?co__law_kind ?ke__law_kind ?na__law_low ?lk__law_low ?co__law_low ?ke__law_low ?na__law_high ?lk__law_high ?co__law_high ?ke__law_high ?na__law_is_clock ?lk__law_is_clock ?co__law_is_clock ?ke__law_is_clock ?na__law_clock ?lk__law_clock ?co__law_clock ?ke__law_clock ?na__law_form ?lk__law_form ?co__law_form ?ke__law_form ?na__law_forms ?lk__law_forms ?co__law_forms ?ke__law_forms ?na__law_greatest ?lk__law_greatest ?co__law_greatest ?ke__law_greatest ?na__law_counts ?lk__law_counts ?co__law_counts ?ke__law_counts ?na__law_bent ?lk__law_bent ?co__law_bent ?ke__law_bent ?na__law_extremes ?lk__law_extremes ?co__law_extremes ?ke__law_extremes ?na_law ?lk_law ?co_law ?ke_law ?z_abs ?z_bool ?z_int ?z_isinstance ?z_len ?z_list ?z_max ?z_min ?z_range ?z_str ?z_sum ?z_tuple ?c_MOST_SHARE K82.law_true
    (case na_is_kind => k_is); (case lk_is_kind => k_is); (case co_is_kind => k_is); (case ke_is_kind => k_is); (case na_least_minutes => k_is); (case lk_least_minutes => k_is); (case co_least_minutes => k_is); (case ke_least_minutes => k_is); (case na_most_minutes => k_is); (case lk_most_minutes => k_is); (case co_most_minutes => k_is); (case ke_most_minutes => k_is); (case na_most_ticks => k_is); (case lk_most_ticks => k_is); (case co_most_ticks => k_is); (case ke_most_ticks => k_is); (case na_is_clock => k_is); (case lk_is_clock => k_is); (case co_is_clock => k_is); (case ke_is_clock => k_is); (case na_slow_clock => k_is); (case lk_slow_clock => k_is); (case co_slow_clock => k_is); (case ke_slow_clock => k_is); (case na_fast_clock => k_is); (case lk_fast_clock => k_is); (case co_fast_clock => k_is); (case ke_fast_clock => k_is); (case na_slowest_from => k_is); (case lk_slowest_from => k_is); (case co_slowest_from => k_is); (case ke_slowest_from => k_is); (case na_fastest_from => k_is); (case lk_fastest_from => k_is); (case co_fastest_from => k_is); (case ke_fastest_from => k_is); (case na__law_deal => k_is); (case lk__law_deal => k_is); (case co__law_deal => k_is); (case ke__law_deal => k_is); (case na__law_take => k_is); (case lk__law_take => k_is); (case co__law_take => k_is); (case ke__law_take => k_is); (case na__law_same => k_is); (case lk__law_same => k_is); (case co__law_same => k_is); (case ke__law_same => k_is); (case na__law_bool => k_is); (case lk__law_bool => k_is); (case co__law_bool => k_is); (case ke__law_bool => k_is); (case na__law_kind => k_is); (case lk__law_kind => k_is); (case co__law_kind => k_is); (case ke__law_kind => k_is); (case na__law_low => k_is); (case lk__law_low => k_is); (case co__law_low => k_is); (case ke__law_low => k_is); (case na__law_high => k_is); (case lk__law_high => k_is); (case co__law_high => k_is); (case ke__law_high => k_is); (case na__law_is_clock => k_is); (case lk__law_is_clock => k_is); (case co__law_is_clock => k_is); (case ke__law_is_clock => k_is); (case na__law_clock => k_is); (case lk__law_clock => k_is); (case co__law_clock => k_is); (case ke__law_clock => k_is); (case na__law_form => k_is); (case lk__law_form => k_is); (case co__law_form => k_is); (case ke__law_form => k_is); (case na__law_forms => k_is); (case lk__law_forms => k_is); (case co__law_forms => k_is); (case ke__law_forms => k_is); (case na__law_greatest => k_is); (case lk__law_greatest => k_is); (case co__law_greatest => k_is); (case ke__law_greatest => k_is); (case na__law_counts => k_is); (case lk__law_counts => k_is); (case co__law_counts => k_is); (case ke__law_counts => k_is); (case na__law_bent => k_is); (case lk__law_bent => k_is); (case co__law_bent => k_is); (case ke__law_bent => k_is); (case na__law_extremes => k_is); (case lk__law_extremes => k_is); (case co__law_extremes => k_is); (case ke__law_extremes => k_is); (case na_law => k_is); (case lk_law => k_is); (case co_law => k_is); (case ke_law => k_is); (case z_abs => k_is); (case z_bool => k_is); (case z_int => k_is); (case z_isinstance => k_is); (case z_len => k_is); (case z_list => k_is); (case z_max => k_is); (case z_min => k_is); (case z_range => k_is); (case z_str => k_is); (case z_sum => k_is); (case z_tuple => k_is); (case c_MOST_SHARE => k_is)
