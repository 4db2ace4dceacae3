import PyProof.Rows.All
import HandS.ForMost
import HandS.IsInst
import HandS.Flow
import HandS.Wide
import HandS.TupAny
import HandS.TupLe
import HandS.TupMul
import HandS.Zip
import HandS.SortInts
import HandS.Deep
import HandS.Style
import KE.GoesMore
import HandS.Conv
import HandS.Exc
import HandS.ExcOwn
import HandS.WordsExc
import HandS.ExcIs
import HandS.Strs
import HandS.SetFor
import PySem.Challenge.RW_dayholds_k87_whole_clocks_watched_by_tic
set_option Elab.async false
set_option linter.all false
set_option maxRecDepth 100000
set_option maxHeartbeats 4000000
/-! DL: a layer of plain data over HandS. D is data, the store Ka holds what may change; each construct has a meaning (a plain function of slots and store) and one lemma that ties it to the machine. -/
namespace DL
open PySem PySem.Spec PyProof.Rows L2

/-! ### data, the store, results -/
inductive D where
  | non | bl (b : Bool) | int (i : Int) | str (x : Str) | tup (ds : List D) | lst (ds : List D)
  /-- a list that is lent: it stands, and is read -/
  | bor (ds : List D)
  /-- a thing of the store -/
  | obj (n : Nat)
  /-- a list that nobody writes (the script) -/
  | rol (ds : List D)
inductive Cell where
  | lst (ds : List D)
  | ins (c : Nat) (fs : List (Str × D))
abbrev Ka := List Cell
/-- a slot: nothing, data, or a list of the frame's own, that may change -/
inductive Sl where
  | no | val (d : D) | own (ds : List D)
inductive Ox (α : Type) where
  | ok (a : α) | er (c : Nat)
abbrev Re (α : Type) := Option (Ox α × Ka)
abbrev Ev (α : Type) := List Sl → Ka → Re α
def Re.bind {α β : Type} (r : Re α) (f : α → Ka → Re β) : Re β :=
  match r with
  | none => none
  | some (.ok a, k) => f a k
  | some (.er c, k) => some (.er c, k)
/-- the addresses of the classes that the text makes things of, and of its errors -/
structure Gx where
  cls : Nat → Addr
  exc : Nat → Addr

/-! ### data in the heap -/
mutual
inductive Rp (K : PySem.W.Frag) (α : List Addr) (F : Hp) : D → V → Prop
  | non : Rp K α F .non .non
  | bl (b : Bool) : Rp K α F (.bl b) (.bl b)
  | int (i : Int) : Rp K α F (.int i) (.int i)
  | str (x : Str) : Rp K α F (.str x) (.str x)
  | tup {a : Addr} {xs : List V} {ds : List D} : SqT K F a xs → RpL K α F ds xs → Rp K α F (.tup ds) (.ref a)
  | lst {a : Addr} {xs : List V} {ds : List D} : F a = some (.lst xs) → RpL K α F ds xs → Rp K α F (.lst ds) (.ref a)
  | obj {n : Nat} {a : Addr} : α[n]? = some a → Rp K α F (.obj n) (.ref a)
  | rol {a : Addr} {xs : List V} {ds : List D} : SqL K F a xs → RpL K α F ds xs → Rp K α F (.rol ds) (.ref a)
inductive RpL (K : PySem.W.Frag) (α : List Addr) (F : Hp) : List D → List V → Prop
  | nil : RpL K α F [] []
  | cons {d : D} {v : V} {ds : List D} {vs : List V} : Rp K α F d v → RpL K α F ds vs → RpL K α F (d :: ds) (v :: vs)
end
theorem same_tup {K : PySem.W.Frag} {H H' : Hp} {a : Addr} {xs : List V} (e : Same H H') (h : SqT K H a xs) : SqT K H' a xs := by
  rcases h with h | h
  · rcases h with h | ⟨o, h⟩
    · exact .inl (.inl (e _ _ h))
    · exact .inl (.inr ⟨o, e _ _ h⟩)
  · exact .inr h
section
variable {K : PySem.W.Frag} {α β : List Addr} {F F' : Hp}
mutual
theorem Rp.mono (e : Same F F') : ∀ {d : D} {v : V}, Rp K α F d v → Rp K (α ++ β) F' d v
  | _, _, .non => .non
  | _, _, .bl b => .bl b
  | _, _, .int i => .int i
  | _, _, .str x => .str x
  | _, _, .tup h r => .tup (same_tup e h) (RpL.mono e r)
  | _, _, .lst h r => .lst (e _ _ h) (RpL.mono e r)
  | _, _, .rol h r => .rol (Same.seq e h) (RpL.mono e r)
  | _, _, .obj h => .obj (by rw [List.getElem?_append_left (List.getElem?_eq_some_iff.mp h).1]; exact h)
theorem RpL.mono (e : Same F F') : ∀ {ds : List D} {vs : List V}, RpL K α F ds vs → RpL K (α ++ β) F' ds vs
  | _, _, .nil => .nil
  | _, _, .cons h t => .cons (Rp.mono e h) (RpL.mono e t)
end
theorem RpL.length {ds : List D} {vs : List V} (r : RpL K α F ds vs) : ds.length = vs.length := by
  induction ds generalizing vs with
  | nil => cases r; rfl
  | cons d ds ih => cases r with | cons h t => simp [ih t]
theorem RpL.get {ds : List D} {vs : List V} (r : RpL K α F ds vs) {i : Nat} {d : D} (h : ds[i]? = some d) : ∃ v, vs[i]? = some v ∧ Rp K α F d v := by
  induction ds generalizing vs i with
  | nil => simp at h
  | cons e ds ih =>
    cases r with
    | cons h1 t =>
      cases i with
      | zero => simp at h; subst h; exact ⟨_, by simp, h1⟩
      | succ i => obtain ⟨v, a, b⟩ := ih t (i := i) (by simpa using h); exact ⟨v, by simpa using a, b⟩
theorem RpL.getV {ds : List D} {vs : List V} (r : RpL K α F ds vs) {i : Nat} {v : V} (h : vs[i]? = some v) : ∃ d, ds[i]? = some d ∧ Rp K α F d v := by
  induction ds generalizing vs i with
  | nil => cases r; simp at h
  | cons e ds ih =>
    cases r with
    | cons h1 t =>
      cases i with
      | zero => simp at h; subst h; exact ⟨_, by simp, h1⟩
      | succ i => obtain ⟨d, a, b⟩ := ih t (i := i) (by simpa using h); exact ⟨d, by simpa using a, b⟩
theorem RpL.append {ds es : List D} {vs us : List V} (r : RpL K α F ds vs) (q : RpL K α F es us) : RpL K α F (ds ++ es) (vs ++ us) := by
  induction ds generalizing vs with
  | nil => cases r; exact q
  | cons d ds ih => cases r with | cons h t => exact .cons h (ih t)
theorem RpL.take {ds : List D} {vs : List V} (r : RpL K α F ds vs) (n : Nat) : RpL K α F (ds.take n) (vs.take n) := by
  induction ds generalizing vs n with
  | nil => cases r; simp; exact .nil
  | cons d ds ih => cases r with | cons h t => cases n with | zero => exact .nil | succ n => exact .cons h (ih t n)
theorem RpL.drop {ds : List D} {vs : List V} (r : RpL K α F ds vs) (n : Nat) : RpL K α F (ds.drop n) (vs.drop n) := by
  induction ds generalizing vs n with
  | nil => cases r; simp; exact .nil
  | cons d ds ih => cases r with | cons h t => cases n with | zero => exact .cons h t | succ n => exact ih t n
theorem RpL.set {ds : List D} {vs : List V} (r : RpL K α F ds vs) {d : D} {v : V} (q : Rp K α F d v) (i : Nat) : RpL K α F (ds.set i d) (vs.set i v) := by
  induction ds generalizing vs i with
  | nil => cases r; exact .nil
  | cons e ds ih => cases r with | cons h t => cases i with | zero => exact .cons q t | succ i => exact .cons h (ih t i)
theorem RpL.ints {ns : List Int} {vs : List V} (r : RpL K α F (ns.map D.int) vs) : vs = ns.map V.int := by
  induction ns generalizing vs with
  | nil => cases r; rfl
  | cons n ns ih => cases r with | cons h t => cases h; rw [ih t]; rfl
theorem RpL.of_ints (ns : List Int) : RpL K α F (ns.map D.int) (ns.map V.int) := by
  induction ns with
  | nil => exact .nil
  | cons n ns ih => exact .cons (.int n) ih
/-- fields of a thing -/
inductive RpF (K : PySem.W.Frag) (α : List Addr) (F : Hp) : List (Str × D) → List (Str × V) → Prop
  | nil : RpF K α F [] []
  | cons {x : Str} {d : D} {v : V} {ds : List (Str × D)} {vs : List (Str × V)} : Rp K α F d v → RpF K α F ds vs → RpF K α F ((x, d) :: ds) ((x, v) :: vs)
theorem RpF.mono (e : Same F F') {ds : List (Str × D)} {vs : List (Str × V)} (r : RpF K α F ds vs) : RpF K (α ++ β) F' ds vs := by
  induction r with
  | nil => exact .nil
  | cons h _ ih => exact .cons (h.mono e) ih
end

/-! ### growth, the world, the slots -/
structure Gr (α : List Addr) (F H : Hp) (α' : List Addr) (F' H' : Hp) : Prop where
  al : ∃ β, α' = α ++ β ∧ ∀ a ∈ β, H a = none
  fr : Same F F'
  fn : ∀ a, F a = none → H a ≠ none → F' a = none
  ke : ∀ a o, H a = some o → a ∉ α → H' a = some o
  dm : ∀ a, H a ≠ none → H' a ≠ none
theorem Gr.refl (α : List Addr) (F H : Hp) : Gr α F H α F H := ⟨⟨[], by simp, by simp⟩, Same.refl _, fun _ h _ => h, fun _ _ h _ => h, fun _ h => h⟩
theorem Gr.notin {α α' : List Addr} {F F' H H' : Hp} (g : Gr α F H α' F' H') {a : Addr} (h : H a ≠ none) (n : a ∉ α) : a ∉ α' := by
  obtain ⟨β, rfl, hb⟩ := g.al
  intro m
  rcases List.mem_append.mp m with m | m
  · exact n m
  · exact h (hb a m)
theorem Gr.trans {α α1 α2 : List Addr} {F F1 F2 H H1 H2 : Hp} (a : Gr α F H α1 F1 H1) (b : Gr α1 F1 H1 α2 F2 H2) : Gr α F H α2 F2 H2 := by
  refine ⟨?_, a.fr.trans b.fr, fun c h1 h2 => b.fn c (a.fn c h1 h2) (a.dm c h2), fun c o h n => b.ke c o (a.ke c o h n) (a.notin (by rw [h]; simp) n), fun c h => b.dm c (a.dm c h)⟩
  obtain ⟨β, rfl, hb⟩ := a.al
  obtain ⟨γ, rfl, hc⟩ := b.al
  refine ⟨β ++ γ, by simp, fun c hm => ?_⟩
  rcases List.mem_append.mp hm with m | m
  · exact hb c m
  · cases q : H c with
    | none => rfl
    | some o => exact absurd (hc c m) (a.dm c (by rw [q]; simp))
section
variable {K : PySem.W.Frag} {α α' : List Addr} {F F' H H' : Hp} {d : D} {v : V} {ds : List D} {vs : List V}
theorem Rp.gr (g : Gr α F H α' F' H') (r : Rp K α F d v) : Rp K α' F' d v := by
  obtain ⟨β, rfl, _⟩ := g.al
  exact r.mono g.fr
theorem RpL.gr (g : Gr α F H α' F' H') (r : RpL K α F ds vs) : RpL K α' F' ds vs := by
  obtain ⟨β, rfl, _⟩ := g.al
  exact r.mono g.fr
end
/-- a lent list -/
def Lent (K : PySem.W.Frag) (α : List Addr) (F H : Hp) (ds : List D) (v : V) : Prop := ∃ a xs, v = .ref a ∧ H a = some (.lst xs) ∧ a ∉ α ∧ F a = none ∧ RpL K α F ds xs
/-- a value in hand: data, or a lent list -/
def Rv (K : PySem.W.Frag) (α : List Addr) (F H : Hp) (d : D) (v : V) : Prop := match d with
  | .bor ds => Lent K α F H ds v
  | d => Rp K α F d v
inductive RvL (K : PySem.W.Frag) (α : List Addr) (F H : Hp) : List D → List V → Prop
  | nil : RvL K α F H [] []
  | cons {d : D} {v : V} {ds : List D} {vs : List V} : Rv K α F H d v → RvL K α F H ds vs → RvL K α F H (d :: ds) (v :: vs)
section
variable {K : PySem.W.Frag} {α α' : List Addr} {F F' H H' : Hp} {d : D} {v : V} {ds : List D} {vs : List V}
theorem Lent.gr (g : Gr α F H α' F' H') (r : Lent K α F H ds v) : Lent K α' F' H' ds v := by
  obtain ⟨a, xs, rfl, h, n, f, r⟩ := r
  exact ⟨a, xs, rfl, g.ke _ _ h n, g.notin (by rw [h]; simp) n, g.fn _ f (by rw [h]; simp), r.gr g⟩
theorem Rp.rv (r : Rp K α F d v) : Rv K α F H d v := by
  cases d with
  | bor ds => cases r
  | _ => exact r
theorem Rv.gr (g : Gr α F H α' F' H') (r : Rv K α F H d v) : Rv K α' F' H' d v := by
  cases d with
  | bor ds => exact Lent.gr g r
  | _ => exact Rp.gr g r
theorem RvL.gr (g : Gr α F H α' F' H') (r : RvL K α F H ds vs) : RvL K α' F' H' ds vs := by
  induction r with
  | nil => exact .nil
  | cons h _ ih => exact .cons (h.gr g) ih
theorem RvL.length (r : RvL K α F H ds vs) : ds.length = vs.length := by
  induction r with
  | nil => rfl
  | cons _ _ ih => simp [ih]
/-- data alone, nothing lent -/
def isBor : D → Bool
  | .bor _ => true
  | _ => false
theorem Rv.rp (r : Rv K α F H d v) (n : isBor d = false) : Rp K α F d v := by
  cases d with
  | bor ds => cases n
  | _ => exact r
def noBor (ds : List D) : Bool := ds.all fun d => !isBor d
theorem RvL.rpl (r : RvL K α F H ds vs) (n : noBor ds = true) : RpL K α F ds vs := by
  induction r with
  | nil => exact .nil
  | cons h _ ih =>
    unfold noBor at n
    simp only [List.all_cons, Bool.and_eq_true, Bool.not_eq_true'] at n
    exact .cons (h.rp n.1) (ih n.2)
theorem RpL.rvl (r : RpL K α F ds vs) : RvL K α F H ds vs := by
  induction ds generalizing vs with
  | nil => cases r; exact .nil
  | cons d ds ih => cases r with | cons h t => exact .cons h.rv (ih t)
end
def CellOk (G : Gx) (K : PySem.W.Frag) (α : List Addr) (F H : Hp) (a : Addr) : Cell → Prop
  | .lst ds => ∃ xs, H a = some (.lst xs) ∧ RpL K α F ds xs
  | .ins c fs => ∃ dx vs, H a = some (.ins (G.cls c) dx vs) ∧ RpF K α F fs vs
structure Wd (G : Gx) (K : PySem.W.Frag) (α : List Addr) (F H : Hp) (κ : Ka) : Prop where
  sub : Same F H
  len : α.length = κ.length
  inj : ∀ (i j : Nat) (a : Addr), α[i]? = some a → α[j]? = some a → i = j
  fre : ∀ a, a ∈ α → F a = none
  cel : ∀ (n : Nat) (a : Addr) (c : Cell), α[n]? = some a → κ[n]? = some c → CellOk G K α F H a c
theorem CellOk.dom {G : Gx} {K : PySem.W.Frag} {α : List Addr} {F H : Hp} {a : Addr} {c : Cell} (h : CellOk G K α F H a c) : H a ≠ none := by
  cases c with
  | lst ds => obtain ⟨xs, e, _⟩ := h; rw [e]; simp
  | ins c fs => obtain ⟨dx, vs, e, _⟩ := h; rw [e]; simp
theorem Wd.dom {G : Gx} {K : PySem.W.Frag} {α : List Addr} {F H : Hp} {κ : Ka} (w : Wd G K α F H κ) {a : Addr} (h : a ∈ α) : H a ≠ none := by
  obtain ⟨i, hi, e⟩ := List.mem_iff_getElem.mp h
  have h1 : α[i]? = some a := by rw [List.getElem?_eq_getElem hi, e]
  have h2 : i < κ.length := by rw [← w.len]; exact hi
  exact (w.cel i a _ h1 (List.getElem?_eq_getElem h2)).dom
theorem CellOk.keep {G : Gx} {K : PySem.W.Frag} {α β : List Addr} {F F' H H' : Hp} {a : Addr} {c : Cell} (h : CellOk G K α F H a c) (e : Same F F') (he : H' a = H a) : CellOk G K (α ++ β) F' H' a c := by
  cases c with
  | lst ds => obtain ⟨xs, q, r⟩ := h; exact ⟨xs, he.trans q, r.mono e⟩
  | ins c fs => obtain ⟨dx, vs, q, r⟩ := h; exact ⟨dx, vs, he.trans q, r.mono e⟩
/-- what a slot tells; Bs: the heap at the frame's entry -/
def SlOk (K : PySem.W.Frag) (α : List Addr) (F H Bs : Hp) (s : Sl) (o : Option V) : Prop := match s with
  | .no => True
  | .val d => ∃ v, o = some v ∧ Rv K α F H d v ∧ (isBor d = true → ∃ a, v = .ref a ∧ Bs a ≠ none)
  | .own ds => ∃ a xs, o = some (.ref a) ∧ H a = some (.lst xs) ∧ F a = none ∧ a ∉ α ∧ Bs a = none ∧ RpL K α F ds xs
structure Sls (K : PySem.W.Frag) (α : List Addr) (F H Bs : Hp) (ρ : List Sl) (σ : L2.St) : Prop where
  len : ρ.length = σ.length
  at' : ∀ (i : Nat) (s : Sl), ρ[i]? = some s → ∃ o, σ[i]? = some o ∧ SlOk K α F H Bs s o
  sep : ∀ (i j : Nat) (a : Addr) (ds es : List D), ρ[i]? = some (.own ds) → ρ[j]? = some (.own es) → σ[i]? = some (some (.ref a)) → σ[j]? = some (some (.ref a)) → i = j
theorem SlOk.gr {K : PySem.W.Frag} {α α' : List Addr} {F F' H H' Bs : Hp} {s : Sl} {o : Option V} (g : Gr α F H α' F' H') (h : SlOk K α F H Bs s o) : SlOk K α' F' H' Bs s o := by
  cases s with
  | no => trivial
  | val d => obtain ⟨v, e, r, b⟩ := h; exact ⟨v, e, r.gr g, b⟩
  | own ds =>
    obtain ⟨a, xs, e, h, f, n, b, r⟩ := h
    exact ⟨a, xs, e, g.ke _ _ h n, g.fn _ f (by rw [h]; simp), g.notin (by rw [h]; simp) n, b, r.gr g⟩
theorem Sls.gr {K : PySem.W.Frag} {α α' : List Addr} {F F' H H' Bs : Hp} {ρ : List Sl} {σ : L2.St} (g : Gr α F H α' F' H') (h : Sls K α F H Bs ρ σ) : Sls K α' F' H' Bs ρ σ :=
  ⟨h.len, fun i s e => let ⟨o, a, b⟩ := h.at' i s e; ⟨o, a, b.gr g⟩, h.sep⟩

/-! ### the readings -/
/-- what is wanted behind an expression -/
def PO (G : Gx) (W : XK) (K : PySem.W.Frag) (α : List Addr) (F H : Hp) (Q : VK) : Re D → Prop
  | none => False
  | some (o, κ') => ∀ α' F' H', Gr α F H α' F' H' → Wd G K α' F' H' κ' → match o with
    | .ok d => ∀ v, Rv K α' F' H' d v → Q v H'
    | .er c => W (.ref (G.exc c)) none H'
def POL (G : Gx) (W : XK) (K : PySem.W.Frag) (α : List Addr) (F H : Hp) (Q : List V → Hp → Prop) : Re (List D) → Prop
  | none => False
  | some (o, κ') => ∀ α' F' H', Gr α F H α' F' H' → Wd G K α' F' H' κ' → match o with
    | .ok d => ∀ v, RvL K α' F' H' d v → Q v H'
    | .er c => W (.ref (G.exc c)) none H'
/-- .. behind one that makes a new list -/
def POF (G : Gx) (W : XK) (K : PySem.W.Frag) (α : List Addr) (F H : Hp) (Q : VK) : Re (List D) → Prop
  | none => False
  | some (o, κ') => ∀ α' F' H', Gr α F H α' F' H' → Wd G K α' F' H' κ' → match o with
    | .ok ds => ∀ a xs, H' a = some (.lst xs) → F' a = none → a ∉ α' → H a = none → RpL K α' F' ds xs → Q (.ref a) H'
    | .er c => W (.ref (G.exc c)) none H'
def tD (G : Gx) (W : XK) (K : PySem.W.Frag) (m : Ev D) : TE := fun σ H Q => ∃ α F ρ κ Bs, Wd G K α F H κ ∧ Sls K α F H Bs ρ σ ∧ PO G W K α F H Q (m ρ κ)
def tL (G : Gx) (W : XK) (K : PySem.W.Frag) (m : Ev (List D)) : TA := fun σ H Q => ∃ α F ρ κ Bs, Wd G K α F H κ ∧ Sls K α F H Bs ρ σ ∧ POL G W K α F H Q (m ρ κ)
def tF (G : Gx) (W : XK) (K : PySem.W.Frag) (m : Ev (List D)) : TE := fun σ H Q => ∃ α F ρ κ Bs, Wd G K α F H κ ∧ Sls K α F H Bs ρ σ ∧ POF G W K α F H Q (m ρ κ)
structure PD (G : Gx) (W : XK) (X : Cx) (e : Expr) (m : Ev D) : Prop where
  run : PE X e (tD G W X.K m)
structure PDL (G : Gx) (W : XK) (X : Cx) (es : List Expr) (m : Ev (List D)) : Prop where
  run : PA X es (tL G W X.K m)
structure PF (G : Gx) (W : XK) (X : Cx) (e : Expr) (m : Ev (List D)) : Prop where
  run : PE X e (tF G W X.K m)
theorem pe_imp {X : Cx} {e : Expr} {t t' : TE} (h : PE X e t) (hi : ∀ σ H Q, t' σ H Q → t σ H Q) : PE X e t' := ⟨fun pins s σ H Q I q => h.run pins s σ H Q I (hi σ H Q q)⟩
theorem pt_imp {X : Cx} {e : Expr} {t t' : TT} (h : PT X e t) (hi : ∀ σ H Q, t' σ H Q → t σ H Q) : PT X e t' := ⟨fun pins s σ H Q I q => h.run pins s σ H Q I (hi σ H Q q)⟩
theorem pa_imp {X : Cx} {es : List Expr} {t t' : TA} (h : PA X es t) (hi : ∀ σ H Q, t' σ H Q → t σ H Q) : PA X es t' := ⟨fun pos pins s σ H Q I q => h.run pos pins s σ H Q I (hi σ H Q q)⟩
section
variable {G : Gx} {W : XK} {K : PySem.W.Frag} {α α' : List Addr} {F F' H H' : Hp} {κ : Ka} {Q : VK} {QL : List V → Hp → Prop} {σ : L2.St} {ρ : List Sl} {Bs : Hp}
theorem PO.gr {r : Re D} (g : Gr α F H α' F' H') (h : PO G W K α F H Q r) : PO G W K α' F' H' Q r := by
  rcases r with _ | ⟨o, κ'⟩
  · exact h
  · exact fun α2 F2 H2 g2 w2 => h α2 F2 H2 (g.trans g2) w2
theorem POL.gr {r : Re (List D)} (g : Gr α F H α' F' H') (h : POL G W K α F H QL r) : POL G W K α' F' H' QL r := by
  rcases r with _ | ⟨o, κ'⟩
  · exact h
  · exact fun α2 F2 H2 g2 w2 => h α2 F2 H2 (g.trans g2) w2
theorem POF.gr {r : Re (List D)} (g : Gr α F H α' F' H') (h : POF G W K α F H Q r) : POF G W K α' F' H' Q r := by
  rcases r with _ | ⟨o, κ'⟩
  · exact h
  · intro α2 F2 H2 g2 w2
    have := h α2 F2 H2 (g.trans g2) w2
    cases o with
    | er c => exact this
    | ok ds => exact fun a xs h1 h2 h3 h4 => this a xs h1 h2 h3 (by
        cases q : H a with
        | none => rfl
        | some o => exact absurd h4 (g.dm a (by rw [q]; simp)))
theorem PO.ok {d : D} {v : V} (w : Wd G K α F H κ) (h : PO G W K α F H Q (some (.ok d, κ))) (r : Rv K α F H d v) : Q v H := h α F H (Gr.refl _ _ _) w v r
/-- an expression, and what follows with its value -/
theorem tD_bind {m : Ev D} {f : D → Ka → Re D} (w : Wd G K α F H κ) (sl : Sls K α F H Bs ρ σ) (h : PO G W K α F H Q ((m ρ κ).bind f)) :
    tD G W K m σ H fun x H1 => ∃ α1 F1 κ1 d, Gr α F H α1 F1 H1 ∧ Wd G K α1 F1 H1 κ1 ∧ Sls K α1 F1 H1 Bs ρ σ ∧ Rv K α1 F1 H1 d x ∧ PO G W K α1 F1 H1 Q (f d κ1) := by
  refine ⟨α, F, ρ, κ, Bs, w, sl, ?_⟩
  rcases hm : m ρ κ with _ | ⟨o, κ'⟩
  · rw [hm] at h; exact h
  · rw [hm] at h
    cases o with
    | ok d => exact fun α' F' H' g w' v r => ⟨α', F', κ', d, g, w', sl.gr g, r, PO.gr g h⟩
    | er c => exact h
theorem tD_bindF {m : Ev D} {f : D → Ka → Re (List D)} (w : Wd G K α F H κ) (sl : Sls K α F H Bs ρ σ) (h : POF G W K α F H Q ((m ρ κ).bind f)) :
    tD G W K m σ H fun x H1 => ∃ α1 F1 κ1 d, Gr α F H α1 F1 H1 ∧ Wd G K α1 F1 H1 κ1 ∧ Sls K α1 F1 H1 Bs ρ σ ∧ Rv K α1 F1 H1 d x ∧ POF G W K α1 F1 H1 Q (f d κ1) := by
  refine ⟨α, F, ρ, κ, Bs, w, sl, ?_⟩
  rcases hm : m ρ κ with _ | ⟨o, κ'⟩
  · rw [hm] at h; exact h
  · rw [hm] at h
    cases o with
    | ok d => exact fun α' F' H' g w' v r => ⟨α', F', κ', d, g, w', sl.gr g, r, POF.gr g h⟩
    | er c => exact h
theorem tD_bindL {m : Ev D} {f : D → Ka → Re (List D)} (w : Wd G K α F H κ) (sl : Sls K α F H Bs ρ σ) (h : POL G W K α F H QL ((m ρ κ).bind f)) :
    tD G W K m σ H fun x H1 => ∃ α1 F1 κ1 d, Gr α F H α1 F1 H1 ∧ Wd G K α1 F1 H1 κ1 ∧ Sls K α1 F1 H1 Bs ρ σ ∧ Rv K α1 F1 H1 d x ∧ POL G W K α1 F1 H1 QL (f d κ1) := by
  refine ⟨α, F, ρ, κ, Bs, w, sl, ?_⟩
  rcases hm : m ρ κ with _ | ⟨o, κ'⟩
  · rw [hm] at h; exact h
  · rw [hm] at h
    cases o with
    | ok d => exact fun α' F' H' g w' v r => ⟨α', F', κ', d, g, w', sl.gr g, r, POL.gr g h⟩
    | er c => exact h
theorem tL_bind {m : Ev (List D)} {f : List D → Ka → Re D} (w : Wd G K α F H κ) (sl : Sls K α F H Bs ρ σ) (h : PO G W K α F H Q ((m ρ κ).bind f)) :
    tL G W K m σ H fun x H1 => ∃ α1 F1 κ1 d, Gr α F H α1 F1 H1 ∧ Wd G K α1 F1 H1 κ1 ∧ Sls K α1 F1 H1 Bs ρ σ ∧ RvL K α1 F1 H1 d x ∧ PO G W K α1 F1 H1 Q (f d κ1) := by
  refine ⟨α, F, ρ, κ, Bs, w, sl, ?_⟩
  rcases hm : m ρ κ with _ | ⟨o, κ'⟩
  · rw [hm] at h; exact h
  · rw [hm] at h
    cases o with
    | ok d => exact fun α' F' H' g w' v r => ⟨α', F', κ', d, g, w', sl.gr g, r, PO.gr g h⟩
    | er c => exact h
theorem tL_bindF {m : Ev (List D)} {f : List D → Ka → Re (List D)} (w : Wd G K α F H κ) (sl : Sls K α F H Bs ρ σ) (h : POF G W K α F H Q ((m ρ κ).bind f)) :
    tL G W K m σ H fun x H1 => ∃ α1 F1 κ1 d, Gr α F H α1 F1 H1 ∧ Wd G K α1 F1 H1 κ1 ∧ Sls K α1 F1 H1 Bs ρ σ ∧ RvL K α1 F1 H1 d x ∧ POF G W K α1 F1 H1 Q (f d κ1) := by
  refine ⟨α, F, ρ, κ, Bs, w, sl, ?_⟩
  rcases hm : m ρ κ with _ | ⟨o, κ'⟩
  · rw [hm] at h; exact h
  · rw [hm] at h
    cases o with
    | ok d => exact fun α' F' H' g w' v r => ⟨α', F', κ', d, g, w', sl.gr g, r, POF.gr g h⟩
    | er c => exact h
theorem tL_bindL {m : Ev (List D)} {f : List D → Ka → Re (List D)} (w : Wd G K α F H κ) (sl : Sls K α F H Bs ρ σ) (h : POL G W K α F H QL ((m ρ κ).bind f)) :
    tL G W K m σ H fun x H1 => ∃ α1 F1 κ1 d, Gr α F H α1 F1 H1 ∧ Wd G K α1 F1 H1 κ1 ∧ Sls K α1 F1 H1 Bs ρ σ ∧ RvL K α1 F1 H1 d x ∧ POL G W K α1 F1 H1 QL (f d κ1) := by
  refine ⟨α, F, ρ, κ, Bs, w, sl, ?_⟩
  rcases hm : m ρ κ with _ | ⟨o, κ'⟩
  · rw [hm] at h; exact h
  · rw [hm] at h
    cases o with
    | ok d => exact fun α' F' H' g w' v r => ⟨α', F', κ', d, g, w', sl.gr g, r, POL.gr g h⟩
    | er c => exact h
/-! ### a new tuple, a new list -/
theorem Gr.new {p : Addr} {o : HO} (w : Wd G K α F H κ) (h : H p = none) : Gr α F H α (upd F p o) (upd H p o) ∧ Wd G K α (upd F p o) (upd H p o) κ := by
  have fp : F p = none := w.sub.free h
  have ne : ∀ a, H a ≠ none → a ≠ p := fun a n e => n (e ▸ h)
  refine ⟨⟨⟨[], by simp, by simp⟩, fun b u e => ?_, fun a f n => ?_, fun a u e n => ?_, fun a n => ?_⟩, ⟨fun b u e => ?_, w.len, w.inj, fun a m => ?_, fun n a c e1 e2 => ?_⟩⟩
  · rw [upd_ne (ne_of_none e fp)]; exact e
  · rw [upd_ne (ne a n)]; exact f
  · rw [upd_ne (ne a (by rw [e]; simp))]; exact e
  · rw [upd_ne (ne a n)]; exact n
  · by_cases hb : b = p
    · subst hb; rw [upd_same] at e ⊢; exact e
    · rw [upd_ne hb] at e ⊢; exact w.sub _ _ e
  · rw [upd_ne (ne a (w.dom m))]; exact w.fre a m
  · have m := List.mem_of_getElem? e1
    have := (w.cel n a c e1 e2).keep (β := []) (F' := upd F p o) (H' := upd H p o) (fun b u e => by rw [upd_ne (ne_of_none e fp)]; exact e) (upd_ne (ne a (w.dom m)))
    rwa [List.append_nil] at this
/-- a new list that is not yet data -/
theorem Gr.newH {p : Addr} {o : HO} (w : Wd G K α F H κ) (h : H p = none) : Gr α F H α F (upd H p o) ∧ Wd G K α F (upd H p o) κ := by
  have fp : F p = none := w.sub.free h
  have ne : ∀ a, H a ≠ none → a ≠ p := fun a n e => n (e ▸ h)
  refine ⟨⟨⟨[], by simp, by simp⟩, Same.refl _, fun a f n => f, fun a u e n => ?_, fun a n => ?_⟩, ⟨fun b u e => ?_, w.len, w.inj, w.fre, fun n a c e1 e2 => ?_⟩⟩
  · rw [upd_ne (ne a (by rw [e]; simp))]; exact e
  · rw [upd_ne (ne a n)]; exact n
  · rw [upd_ne (ne b (by rw [w.sub _ _ e]; simp))]; exact w.sub _ _ e
  · have m := List.mem_of_getElem? e1
    have := (w.cel n a c e1 e2).keep (β := []) (F' := F) (H' := upd H p o) (Same.refl _) (upd_ne (ne a (w.dom m)))
    rwa [List.append_nil] at this
/-- a list of the heap becomes data -/
theorem Gr.frz {p : Addr} {o : HO} (w : Wd G K α F H κ) (h : H p = some o) (n : p ∉ α) (f : F p = none) {H0 : Hp} {α0 : List Addr} {F0 : Hp} (g : Gr α0 F0 H0 α F H) (hn : H0 p = none) :
    Gr α0 F0 H0 α (upd F p o) H ∧ Wd G K α (upd F p o) H κ := by
  have sm : Same F (upd F p o) := fun b u e => by rw [upd_ne (ne_of_none e f)]; exact e
  refine ⟨⟨g.al, g.fr.trans sm, fun a f' n' => ?_, g.ke, g.dm⟩, ⟨fun b u e => ?_, w.len, w.inj, fun a m => ?_, fun k a c e1 e2 => ?_⟩⟩
  · rw [upd_ne (fun (e : a = p) => n' (e ▸ hn))]; exact g.fn a f' n'
  · by_cases hb : b = p
    · subst hb; rw [upd_same] at e; cases e; exact h
    · rw [upd_ne hb] at e; exact w.sub _ _ e
  · rw [upd_ne (fun (e : a = p) => n (e ▸ m))]; exact w.fre a m
  · have := (w.cel k a c e1 e2).keep (β := []) (F' := upd F p o) (H' := H) sm rfl
    rwa [List.append_nil] at this
end
end DL
set_option Elab.async false
set_option linter.all false
set_option maxRecDepth 100000
set_option maxHeartbeats 4000000
/-! DL2: expressions. -/
namespace DL
open PySem PySem.Spec PyProof.Rows L2

/-! ### equality of data, as the library tells it -/
mutual
def D.py : D → PyData
  | .non => .none | .bl b => .bool b | .int i => .int i | .str x => .str x
  | .tup ds => .tuple (D.pys ds) | .lst ds => .list (D.pys ds) | .bor ds => .list (D.pys ds) | .obj _ => .none | .rol ds => .list (D.pys ds)
def D.pys : List D → List PyData
  | [] => []
  | d :: ds => D.py d :: D.pys ds
end
mutual
def D.nob : D → Bool
  | .non => true | .bl _ => true | .int _ => true | .str _ => true
  | .tup ds => D.nobs ds | .lst ds => D.nobs ds | .bor ds => D.nobs ds | .obj _ => false | .rol ds => D.nobs ds
def D.nobs : List D → Bool
  | [] => true
  | d :: ds => D.nob d && D.nobs ds
end
def D.fit (d : D) : Bool := D.nob d && SeqAt.shaped (D.py d)
def eqD (d e : D) : Option Bool := if D.fit d && D.fit e then some (PyData.eqv (D.py d) (D.py e)) else none
section
variable {K : PySem.W.Frag} {α : List Addr} {F H : Hp}
theorem SqL.of_sub (s : Same F H) {a : Addr} {xs : List V} (h : F a = some (.lst xs)) : SqL K H a xs := .inl (.inl (s _ _ h))
mutual
theorem Rp.dp (s : Same F H) : ∀ (d : D) (v : V), Rp K α F d v → D.nob d = true → Dp K H v (D.py d)
  | .non, _, r, _ => by cases r; simp only [D.py]; exact .non
  | .bl b, _, r, _ => by cases r; simp only [D.py]; exact .bl _
  | .int i, _, r, _ => by cases r; simp only [D.py]; exact .int _
  | .str x, _, r, _ => by cases r; simp only [D.py]; exact .str _
  | .tup ds, _, r, n => by
    cases r with
    | tup h q => simp only [D.py]; exact .tup (same_tup s h) (RpL.dp s ds _ q (by simpa only [D.nob] using n))
  | .lst ds, _, r, n => by
    cases r with
    | lst h q => simp only [D.py]; exact .lst (SqL.of_sub s h) (RpL.dp s ds _ q (by simpa only [D.nob] using n))
  | .bor ds, _, r, _ => by cases r
  | .obj n, _, r, h => by simp [D.nob] at h
  | .rol ds, _, r, n => by
    cases r with
    | rol h q => simp only [D.py]; exact .lst (Same.seq s h) (RpL.dp s ds _ q (by simpa only [D.nob] using n))
theorem RpL.dp (s : Same F H) : ∀ (ds : List D) (vs : List V), RpL K α F ds vs → D.nobs ds = true → DpAll K H vs (D.pys ds)
  | [], _, r, _ => by cases r; simp only [D.pys]; exact .nil
  | d :: ds, _, r, n => by
    have n' : D.nob d = true ∧ D.nobs ds = true := by simpa only [D.nobs, Bool.and_eq_true] using n
    cases r with
    | cons h t => simp only [D.pys]; exact .cons (Rp.dp s d _ h n'.1) (RpL.dp s ds _ t n'.2)
end
theorem Rv.dp (s : Same F H) {d : D} {v : V} (r : Rv K α F H d v) (n : D.nob d = true) : Dp K H v (D.py d) := by
  cases d with
  | bor ds =>
    obtain ⟨a, xs, rfl, h, _, _, q⟩ := r
    simp only [D.py]
    exact .lst (.inl (.inl h)) (RpL.dp s ds _ q (by simpa only [D.nob] using n))
  | _ => exact Rp.dp s _ _ r n
end

/-! ### meanings -/
def ret (d : D) (κ : Ka) : Re D := some (.ok d, κ)
def eVar (i : Nat) : Ev D := fun ρ κ => match ρ[i]? with
  | some (.val d) => some (.ok d, κ)
  | some (.own ds) => some (.ok (.bor ds), κ)
  | _ => none
def eC (d : D) : Ev D := fun _ κ => some (.ok d, κ)
def eBin (f : D → D → Ka → Re D) (ma mb : Ev D) : Ev D := fun ρ κ => (ma ρ κ).bind fun x κ1 => (mb ρ κ1).bind fun y κ2 => f x y κ2
def eUn (f : D → Ka → Re D) (ma : Ev D) : Ev D := fun ρ κ => (ma ρ κ).bind f
def rOf (o : Option D) (κ : Ka) : Re D := match o with
  | some d => some (.ok d, κ)
  | none => none
def rOfB (o : Option Bool) (κ : Ka) : Re Bool := match o with
  | some d => some (.ok d, κ)
  | none => none
/-- a pure operation -/
def eOp (f : D → D → Option D) (ma mb : Ev D) : Ev D := eBin (fun x y κ => rOf (f x y) κ) ma mb
def eCmp (c : D → D → Option Bool) (ma mb : Ev D) : Ev D := eBin (fun x y κ => rOf ((c x y).map D.bl) κ) ma mb
def bCmp (c : D → D → Option Bool) (ma mb : Ev D) : Ev Bool := fun ρ κ => (ma ρ κ).bind fun x κ1 => (mb ρ κ1).bind fun y κ2 => rOfB (c x y) κ2
def eChain (c c' : D → D → Option Bool) (ma mb mc : Ev D) : Ev D := fun ρ κ => (ma ρ κ).bind fun x κ1 => (mb ρ κ1).bind fun y κ2 => match c x y with
  | some true => (mc ρ κ2).bind fun z κ3 => rOf ((c' y z).map D.bl) κ3
  | some false => ret (.bl false) κ2
  | none => none
def bChain (c c' : D → D → Option Bool) (ma mb mc : Ev D) : Ev Bool := fun ρ κ => (ma ρ κ).bind fun x κ1 => (mb ρ κ1).bind fun y κ2 => match c x y with
  | some true => (mc ρ κ2).bind fun z κ3 => rOfB (c' y z) κ3
  | some false => some (.ok false, κ2)
  | none => none
/-- a value's truth -/
def truth (d : D) : Option Bool := match d with
  | .non => some false
  | .bl b => some b
  | .int i => some (i != 0)
  | .str x => if x.length ≤ 16777216 then some ((x.length : Int) != 0) else none
  | .tup ds => some (!ds.isEmpty)
  | .lst ds => some (!ds.isEmpty)
  | .bor ds => some (!ds.isEmpty)
  | .rol ds => some (!ds.isEmpty)
  | .obj _ => none
def bOf (m : Ev D) : Ev Bool := fun ρ κ => (m ρ κ).bind fun d κ1 => rOfB (truth d) κ1
def bAnd (m n : Ev Bool) : Ev Bool := fun ρ κ => (m ρ κ).bind fun b κ1 => if b = true then n ρ κ1 else some (.ok false, κ1)
def bOr (m n : Ev Bool) : Ev Bool := fun ρ κ => (m ρ κ).bind fun b κ1 => if b = true then some (.ok true, κ1) else n ρ κ1
def bNot (m : Ev Bool) : Ev Bool := fun ρ κ => (m ρ κ).bind fun b κ1 => some (.ok (!b), κ1)
/-- and, or, not as values -/
def eAnd (m n : Ev D) : Ev D := fun ρ κ => (m ρ κ).bind fun d κ1 => match truth d with
  | some true => n ρ κ1
  | some false => ret d κ1
  | none => none
def eOr (m n : Ev D) : Ev D := fun ρ κ => (m ρ κ).bind fun d κ1 => match truth d with
  | some true => ret d κ1
  | some false => n ρ κ1
  | none => none
def eNot (m : Ev D) : Ev D := fun ρ κ => (m ρ κ).bind fun d κ1 => rOf ((truth d).map fun b => .bl (!b)) κ1
def eIf (c : Ev Bool) (m n : Ev D) : Ev D := fun ρ κ => (c ρ κ).bind fun b κ1 => if b = true then m ρ κ1 else n ρ κ1
def aNil : Ev (List D) := fun _ κ => some (.ok [], κ)
def aCons (m : Ev D) (n : Ev (List D)) : Ev (List D) := fun ρ κ => (m ρ κ).bind fun d κ1 => (n ρ κ1).bind fun ds κ2 => some (.ok (d :: ds), κ2)
def eTup (n : Ev (List D)) : Ev D := fun ρ κ => (n ρ κ).bind fun ds κ1 => if noBor ds = true ∧ ds.length ≤ 16777216 then ret (.tup ds) κ1 else none
def fLst (n : Ev (List D)) : Ev (List D) := fun ρ κ => (n ρ κ).bind fun ds κ1 => if noBor ds = true ∧ ds.length ≤ 16777216 then some (.ok ds, κ1) else none
/-- a new list as data -/
def eFr (m : Ev (List D)) : Ev D := fun ρ κ => (m ρ κ).bind fun ds κ1 => ret (.lst ds) κ1
/-- a new list as a thing of the store -/
def eSt (m : Ev (List D)) : Ev D := fun ρ κ => (m ρ κ).bind fun ds κ1 => some (.ok (.obj κ1.length), κ1 ++ [.lst ds])
def eCall (ar : Nat) (f : List D → Ka → Re D) (n : Ev (List D)) : Ev D := fun ρ κ => (n ρ κ).bind fun ds κ1 => if ds.length = ar then f ds κ1 else none

/-! ### tests -/
def POB (G : Gx) (W : XK) (K : PySem.W.Frag) (α : List Addr) (F H : Hp) (Q : Bool → Hp → Prop) : Re Bool → Prop
  | none => False
  | some (o, κ') => ∀ α' F' H', Gr α F H α' F' H' → Wd G K α' F' H' κ' → match o with
    | .ok d => Q d H'
    | .er c => W (.ref (G.exc c)) none H'
def tT (G : Gx) (W : XK) (K : PySem.W.Frag) (m : Ev Bool) : TT := fun σ H Q => ∃ α F ρ κ Bs, Wd G K α F H κ ∧ Sls K α F H Bs ρ σ ∧ POB G W K α F H Q (m ρ κ)
structure PB (G : Gx) (W : XK) (X : Cx) (e : Expr) (m : Ev Bool) : Prop where
  run : PT X e (tT G W X.K m)
structure PBW (G : Gx) (W : XK) (X : Cx) (e : Expr) (m : Ev Bool) : Prop where
  run : PW X e (tT G W X.K m)
section
variable {G : Gx} {W : XK} {K : PySem.W.Frag} {α α' : List Addr} {F F' H H' : Hp} {κ : Ka} {Q : VK} {QB : Bool → Hp → Prop} {QL : List V → Hp → Prop} {σ : L2.St} {ρ : List Sl} {Bs : Hp}
theorem POB.gr {r : Re Bool} (g : Gr α F H α' F' H') (h : POB G W K α F H QB r) : POB G W K α' F' H' QB r := by
  rcases r with _ | ⟨o, κ'⟩
  · exact h
  · exact fun α2 F2 H2 g2 w2 => h α2 F2 H2 (g.trans g2) w2
theorem tD_bindB {m : Ev D} {f : D → Ka → Re Bool} (w : Wd G K α F H κ) (sl : Sls K α F H Bs ρ σ) (h : POB G W K α F H QB ((m ρ κ).bind f)) :
    tD G W K m σ H fun x H1 => ∃ α1 F1 κ1 d, Gr α F H α1 F1 H1 ∧ Wd G K α1 F1 H1 κ1 ∧ Sls K α1 F1 H1 Bs ρ σ ∧ Rv K α1 F1 H1 d x ∧ POB G W K α1 F1 H1 QB (f d κ1) := by
  refine ⟨α, F, ρ, κ, Bs, w, sl, ?_⟩
  rcases hm : m ρ κ with _ | ⟨o, κ'⟩
  · rw [hm] at h; exact h
  · rw [hm] at h
    cases o with
    | ok d => exact fun α' F' H' g w' v r => ⟨α', F', κ', d, g, w', sl.gr g, r, POB.gr g h⟩
    | er c => exact h
theorem tT_bind {m : Ev Bool} {f : Bool → Ka → Re D} (w : Wd G K α F H κ) (sl : Sls K α F H Bs ρ σ) (h : PO G W K α F H Q ((m ρ κ).bind f)) :
    tT G W K m σ H fun b H1 => ∃ α1 F1 κ1, Gr α F H α1 F1 H1 ∧ Wd G K α1 F1 H1 κ1 ∧ Sls K α1 F1 H1 Bs ρ σ ∧ PO G W K α1 F1 H1 Q (f b κ1) := by
  refine ⟨α, F, ρ, κ, Bs, w, sl, ?_⟩
  rcases hm : m ρ κ with _ | ⟨o, κ'⟩
  · rw [hm] at h; exact h
  · rw [hm] at h
    cases o with
    | ok d => exact fun α' F' H' g w' => ⟨α', F', κ', g, w', sl.gr g, PO.gr g h⟩
    | er c => exact h
theorem tT_bindB {m : Ev Bool} {f : Bool → Ka → Re Bool} (w : Wd G K α F H κ) (sl : Sls K α F H Bs ρ σ) (h : POB G W K α F H QB ((m ρ κ).bind f)) :
    tT G W K m σ H fun b H1 => ∃ α1 F1 κ1, Gr α F H α1 F1 H1 ∧ Wd G K α1 F1 H1 κ1 ∧ Sls K α1 F1 H1 Bs ρ σ ∧ POB G W K α1 F1 H1 QB (f b κ1) := by
  refine ⟨α, F, ρ, κ, Bs, w, sl, ?_⟩
  rcases hm : m ρ κ with _ | ⟨o, κ'⟩
  · rw [hm] at h; exact h
  · rw [hm] at h
    cases o with
    | ok d => exact fun α' F' H' g w' => ⟨α', F', κ', g, w', sl.gr g, POB.gr g h⟩
    | er c => exact h
theorem PO.now {d : D} {v : V} (w : Wd G K α F H κ) (h : PO G W K α F H Q (ret d κ)) (r : Rv K α F H d v) : Q v H := h α F H (Gr.refl _ _ _) w v r
theorem POB.now {b : Bool} (w : Wd G K α F H κ) (h : POB G W K α F H QB (some (.ok b, κ))) : QB b H := h α F H (Gr.refl _ _ _) w
theorem POL.now {ds : List D} {vs : List V} (w : Wd G K α F H κ) (h : POL G W K α F H QL (some (.ok ds, κ))) (r : RvL K α F H ds vs) : QL vs H := h α F H (Gr.refl _ _ _) w vs r
end

theorem PO.mono {G : Gx} {W : XK} {K : PySem.W.Frag} {α : List Addr} {F H : Hp} {Q Q' : VK} {r : Re D} (hq : ∀ v H, Q v H → Q' v H) (h : PO G W K α F H Q r) : PO G W K α F H Q' r := by
  rcases r with _ | ⟨o, κ'⟩
  · exact h
  · cases o with
    | er c => exact h
    | ok d => exact fun α' F' H' g w v r => hq v H' (h α' F' H' g w v r)
theorem tD_mono {G : Gx} {W : XK} {K : PySem.W.Frag} {m : Ev D} {σ : L2.St} {H : Hp} {Q Q' : VK} (hq : ∀ v H, Q v H → Q' v H) (h : tD G W K m σ H Q) : tD G W K m σ H Q' := by
  obtain ⟨α, F, ρ, κ, Bs, w, sl, h⟩ := h
  exact ⟨α, F, ρ, κ, Bs, w, sl, h.mono hq⟩
theorem tL_mono {G : Gx} {W : XK} {K : PySem.W.Frag} {m : Ev (List D)} {σ : L2.St} {H : Hp} {Q Q' : List V → Hp → Prop} (hq : ∀ v H, Q v H → Q' v H) (h : tL G W K m σ H Q) : tL G W K m σ H Q' := by
  obtain ⟨α, F, ρ, κ, Bs, w, sl, h⟩ := h
  refine ⟨α, F, ρ, κ, Bs, w, sl, ?_⟩
  rcases hm : m ρ κ with _ | ⟨o, κ'⟩
  · rw [hm] at h; exact h
  · rw [hm] at h
    cases o with
    | er c => exact h
    | ok d => exact fun α' F' H' g w v r => hq v H' (h α' F' H' g w v r)
theorem tT_mono {G : Gx} {W : XK} {K : PySem.W.Frag} {m : Ev Bool} {σ : L2.St} {H : Hp} {Q Q' : Bool → Hp → Prop} (hq : ∀ v H, Q v H → Q' v H) (h : tT G W K m σ H Q) : tT G W K m σ H Q' := by
  obtain ⟨α, F, ρ, κ, Bs, w, sl, h⟩ := h
  refine ⟨α, F, ρ, κ, Bs, w, sl, ?_⟩
  rcases hm : m ρ κ with _ | ⟨o, κ'⟩
  · rw [hm] at h; exact h
  · rw [hm] at h
    cases o with
    | er c => exact h
    | ok d => exact fun α' F' H' g w => hq d H' (h α' F' H' g w)

section
variable {G : Gx} {W : XK} {X : Cx} {e a b c : Expr} {es : List Expr} {m ma mb mc : Ev D} {n : Ev (List D)} {pos : Pos}
theorem pd_var (i : Nat) {x : Str} (hN : X.N[i]? = some x := by rfl) (hv : Vis X.env.scope x := by first | exact Or.inl rfl | exact Or.inr (Or.inl rfl) | exact Or.inr (Or.inr rfl)) (hd : (x == ("__debug__" : Str)) = false := by decide)
    (hcd : (x == ("__classdict__" : Str)) = false := by decide) : PD G W X (.Name x pos) (eVar i) := ⟨pe_imp (pe_var hN hv hd hcd) fun σ H Q ⟨α, F, ρ, κ, Bs, w, sl, h⟩ => by
  unfold eVar at h
  rcases hr : ρ[i]? with _ | s
  · rw [hr] at h; exact h.elim
  · rw [hr] at h
    obtain ⟨o, ho, so⟩ := sl.at' i s hr
    cases s with
    | no => exact h.elim
    | val d =>
      obtain ⟨v, rfl, r, _⟩ := so
      exact ⟨v, ho, PO.now w h r⟩
    | own ds =>
      obtain ⟨a, xs, rfl, h1, h2, h3, _, r⟩ := so
      exact ⟨.ref a, ho, PO.now w h ⟨a, xs, rfl, h1, h3, h2, r⟩⟩⟩
theorem pd_int {i : Int} {j : Nat} : PD G W X (.Constant (.int i) j pos) (eC (.int i)) := ⟨pe_imp pe_int fun σ H Q ⟨α, F, ρ, κ, Bs, w, sl, h⟩ => PO.now w h (.int i)⟩
theorem pd_bl {i : Bool} {j : Nat} : PD G W X (.Constant (.bool i) j pos) (eC (.bl i)) := ⟨pe_imp pe_bl fun σ H Q ⟨α, F, ρ, κ, Bs, w, sl, h⟩ => PO.now w h (.bl i)⟩
theorem pd_non {j : Nat} : PD G W X (.Constant .none j pos) (eC .non) := ⟨pe_imp pe_non fun σ H Q ⟨α, F, ρ, κ, Bs, w, sl, h⟩ => PO.now w h .non⟩
theorem pd_str {i : Str} {j : Nat} : PD G W X (.Constant (.str i) j pos) (eC (.str i)) := ⟨pe_imp pe_str fun σ H Q ⟨α, F, ρ, κ, Bs, w, sl, h⟩ => PO.now w h (.str i)⟩
theorem pd_glob {x : Str} {v : V} {u : Value} {d : D} (hg : Gl X x) (hm : X.mg x = some u) (r : RelV v u) (hd : ∀ α F, Rp X.K α F d v) (hdb : (x == ("__debug__" : Str)) = false := by decide) : PD G W X (.Name x pos) (eC d) :=
  ⟨pe_imp (pe_glob hg hm r hdb) fun σ H Q ⟨α, F, ρ, κ, Bs, w, sl, h⟩ => PO.now w h (hd α F).rv⟩

/-- an operator by what its meaning makes of data -/
def OpD (X : Cx) (r : R2) (f : D → D → Option D) : Prop := ∀ (G : Gx) (W : XK) (α : List Addr) (F H : Hp) (κ : Ka) (Q : VK) (d e : D) (x y : V), Wd G X.K α F H κ → Rv X.K α F H d x → Rv X.K α F H e y → PO G W X.K α F H Q (rOf (f d e) κ) → r x y H Q
theorem pd_op {op : Operator} {r : R2} {f : D → D → Option D} (ho : OpR X (binaryOp op) r) (hf : OpD X r f) (ha : PD G W X a ma) (hb : PD G W X b mb) : PD G W X (.BinOp a op b pos) (eOp f ma mb) :=
  ⟨pe_imp (pe_op ho ha.run hb.run) fun σ H Q ⟨α, F, ρ, κ, Bs, w, sl, h⟩ =>
    tD_mono (fun x H1 ⟨α1, F1, κ1, d, g1, w1, sl1, r1, h1⟩ => tD_mono (fun y H2 ⟨α2, F2, κ2, e, g2, w2, sl2, r2, h2⟩ => hf G W α2 F2 H2 κ2 Q d e x y w2 (r1.gr g2) r2 h2) (tD_bind w1 sl1 h1)) (tD_bind w sl h)⟩
theorem pd_un {op : UnaryOp} {r : V → Hp → VK → Prop} {f : D → Option D} (ho : UnR X (unaryOp op) r)
    (hf : ∀ (G : Gx) (W : XK) (α : List Addr) (F H : Hp) (κ : Ka) (Q : VK) (d : D) (x : V), Wd G X.K α F H κ → Rv X.K α F H d x → PO G W X.K α F H Q (rOf (f d) κ) → r x H Q) (ha : PD G W X a ma) : PD G W X (.UnaryOp op a pos) (eUn (fun d κ => rOf (f d) κ) ma) :=
  ⟨pe_imp (pe_un ho ha.run) fun σ H Q ⟨α, F, ρ, κ, Bs, w, sl, h⟩ =>
    tD_mono (fun x H1 ⟨α1, F1, κ1, d, g1, w1, sl1, r1, h1⟩ => hf G W α1 F1 H1 κ1 Q d x w1 r1 h1) (tD_bind w sl h)⟩
/-- a comparison by what its meaning makes of data -/
def CmpD (X : Cx) (r : R2) (c : D → D → Option Bool) : Prop := ∀ (G : Gx) (α : List Addr) (F H : Hp) (κ : Ka) (Q : VK) (d e : D) (x y : V) (b : Bool), Wd G X.K α F H κ → Rv X.K α F H d x → Rv X.K α F H e y → c d e = some b → Q (.bl b) H → r x y H Q
theorem PO.bl {G : Gx} {W : XK} {K : PySem.W.Frag} {α : List Addr} {F H : Hp} {κ : Ka} {Q : VK} {o : Option Bool} (w : Wd G K α F H κ) (h : PO G W K α F H Q (rOf (o.map D.bl) κ)) : ∃ b, o = some b ∧ Q (.bl b) H := by
  cases o with
  | none => exact h.elim
  | some b => exact ⟨b, rfl, PO.now w h (.bl b)⟩
theorem POB.bl {G : Gx} {W : XK} {K : PySem.W.Frag} {α : List Addr} {F H : Hp} {κ : Ka} {Q : Bool → Hp → Prop} {o : Option Bool} (w : Wd G K α F H κ) (h : POB G W K α F H Q (rOfB o κ)) : ∃ b, o = some b ∧ Q b H := by
  cases o with
  | none => exact h.elim
  | some b => exact ⟨b, rfl, POB.now w h⟩
theorem pd_cmp {op : CmpOp} {r : R2} {f : D → D → Option Bool} (ho : OpR X (compareOp op) r) (hf : CmpD X r f) (ha : PD G W X a ma) (hb : PD G W X b mb) (hm : behindInMarks op b = false := by first | exact nomark _ | rfl) : PD G W X (.Compare a [op] [b] pos) (eCmp f ma mb) :=
  ⟨pe_imp (pe_cmpR ho ha.run hb.run hm) fun σ H Q ⟨α, F, ρ, κ, Bs, w, sl, h⟩ =>
    tD_mono (fun x H1 ⟨α1, F1, κ1, d, g1, w1, sl1, r1, h1⟩ => tD_mono (fun y H2 ⟨α2, F2, κ2, e, g2, w2, sl2, r2, h2⟩ => by
      obtain ⟨k, e1, q⟩ := PO.bl w2 h2
      exact hf G α2 F2 H2 κ2 Q d e x y k w2 (r1.gr g2) r2 e1 q) (tD_bind w1 sl1 h1)) (tD_bind w sl h)⟩
theorem pb_cmp {op : CmpOp} {r : R2} {f : D → D → Option Bool} (ho : OpR X (compareOp op) r) (hf : CmpD X r f) (ha : PD G W X a ma) (hb : PD G W X b mb) (hm : behindInMarks op b = false := by first | exact nomark _ | rfl) : PB G W X (.Compare a [op] [b] pos) (bCmp f ma mb) :=
  ⟨pt_imp (pt_cmpR ho ha.run hb.run hm) fun σ H Q ⟨α, F, ρ, κ, Bs, w, sl, h⟩ =>
    tD_mono (fun x H1 ⟨α1, F1, κ1, d, g1, w1, sl1, r1, h1⟩ => tD_mono (fun y H2 ⟨α2, F2, κ2, e, g2, w2, sl2, r2, h2⟩ => by
      obtain ⟨k, e1, q⟩ := POB.bl w2 h2
      exact hf G α2 F2 H2 κ2 _ d e x y k w2 (r1.gr g2) r2 e1 ⟨k, rfl, q⟩) (tD_bindB w1 sl1 h1)) (tD_bindB w sl h)⟩
theorem pd_chain {op op' : CmpOp} {r r' : R2} {f f' : D → D → Option Bool} (ho : OpR X (compareOp op) r) (hf : CmpD X r f) (ho' : OpR X (compareOp op') r') (hf' : CmpD X r' f') (ha : PD G W X a ma) (hb : PD G W X b mb) (hc : PD G W X c mc) (hm : lastMarks [op, op'] [b, c] = false := by rfl) :
    PD G W X (.Compare a [op, op'] [b, c] pos) (eChain f f' ma mb mc) :=
  ⟨pe_imp (pe_chain ho ho' ha.run hb.run hc.run hm) fun σ H Q ⟨α, F, ρ, κ, Bs, w, sl, h⟩ =>
    tD_mono (fun x H1 ⟨α1, F1, κ1, d, g1, w1, sl1, r1, h1⟩ => tD_mono (fun y H2 ⟨α2, F2, κ2, e, g2, w2, sl2, r2, h2⟩ => by
      rcases hfe : f d e with _ | k
      · rw [hfe] at h2; exact h2.elim
      · rw [hfe] at h2
        refine hf G α2 F2 H2 κ2 _ d e x y k w2 (r1.gr g2) r2 hfe ⟨k, rfl, ?_⟩
        cases k with
        | false => rw [if_neg Bool.false_ne_true]; exact PO.now w2 h2 (.bl false)
        | true =>
          rw [if_pos rfl]
          refine tD_mono (fun z H3 ⟨α3, F3, κ3, u, g3, w3, sl3, r3, h3⟩ => ?_) (tD_bind w2 sl2 h2)
          obtain ⟨k, e1, q⟩ := PO.bl w3 h3
          exact hf' G α3 F3 H3 κ3 Q e u y z k w3 (r2.gr g3) r3 e1 q) (tD_bind w1 sl1 h1)) (tD_bind w sl h)⟩
theorem pb_chain {op op' : CmpOp} {r r' : R2} {f f' : D → D → Option Bool} (ho : OpR X (compareOp op) r) (hf : CmpD X r f) (ho' : OpR X (compareOp op') r') (hf' : CmpD X r' f') (ha : PD G W X a ma) (hb : PD G W X b mb) (hc : PD G W X c mc) (hm : lastMarks [op, op'] [b, c] = false := by rfl) :
    PB G W X (.Compare a [op, op'] [b, c] pos) (bChain f f' ma mb mc) :=
  ⟨pt_imp (pt_chain ho ho' ha.run hb.run hc.run hm) fun σ H Q ⟨α, F, ρ, κ, Bs, w, sl, h⟩ =>
    tD_mono (fun x H1 ⟨α1, F1, κ1, d, g1, w1, sl1, r1, h1⟩ => tD_mono (fun y H2 ⟨α2, F2, κ2, e, g2, w2, sl2, r2, h2⟩ => by
      rcases hfe : f d e with _ | k
      · rw [hfe] at h2; exact h2.elim
      · rw [hfe] at h2
        refine hf G α2 F2 H2 κ2 _ d e x y k w2 (r1.gr g2) r2 hfe ⟨k, rfl, ?_⟩
        cases k with
        | false => rw [if_neg Bool.false_ne_true]; exact ⟨false, rfl, POB.now w2 h2⟩
        | true =>
          rw [if_pos rfl]
          refine tD_mono (fun z H3 ⟨α3, F3, κ3, u, g3, w3, sl3, r3, h3⟩ => ?_) (tD_bindB w2 sl2 h2)
          obtain ⟨k, e1, q⟩ := POB.bl w3 h3
          exact hf' G α3 F3 H3 κ3 _ e u y z k w3 (r2.gr g3) r3 e1 ⟨k, rfl, q⟩) (tD_bindB w1 sl1 h1)) (tD_bindB w sl h)⟩
/-! ### truth -/
theorem tru_of {K : PySem.W.Frag} {G : Gx} {α : List Addr} {F H : Hp} {κ : Ka} {d : D} {x : V} {b : Bool} (w : Wd G K α F H κ) (r : Rv K α F H d x) (h : truth d = some b) : TruV K x H b := by
  cases d with
  | non => cases r; cases h; rfl
  | bl c => cases r; cases h; rfl
  | int i => cases r; cases h; rfl
  | str y =>
    cases r
    simp only [truth] at h
    split at h
    · rename_i hl
      cases h
      exact ⟨by rw [sizeLine_eq]; exact hl, rfl⟩
    · cases h
  | tup ds =>
    cases h
    cases r with
    | tup hs q => exact .inr (.inl ⟨_, same_tup w.sub hs, by cases q <;> rfl⟩)
  | lst ds =>
    cases h
    cases r with
    | lst hs q => exact .inl ⟨_, SqL.of_sub w.sub hs, by cases q <;> rfl⟩
  | bor ds =>
    cases h
    obtain ⟨a, xs, rfl, h1, _, _, q⟩ := r
    exact .inl ⟨_, SqL.of h1, by cases q <;> rfl⟩
  | rol ds =>
    cases h
    cases r with
    | rol hs q => exact .inl ⟨_, Same.seq w.sub hs, by cases q <;> rfl⟩
  | obj n => cases h
theorem pb_of (ha : PD G W X a ma) (he : ∀ whole, isTrue a X.env whole = (do let v ← whole; standAt a.pos; holding [v] (truthy v)) := by intro _; rfl) : PB G W X a (bOf ma) :=
  ⟨pt_imp (pt_truth ha.run he) fun σ H Q ⟨α, F, ρ, κ, Bs, w, sl, h⟩ =>
    tD_mono (fun x H1 ⟨α1, F1, κ1, d, g1, w1, sl1, r1, h1⟩ => by
      obtain ⟨k, e1, q⟩ := POB.bl w1 h1
      exact ⟨k, tru_of w1 r1 e1, q⟩) (tD_bindB w sl h)⟩
variable {rest : List Expr} {na nb : Ev Bool}
theorem PBW.pb {e : Expr} {m : Ev Bool} (h : PBW G W X e m) : PB G W X e m := ⟨h.run.pt⟩
theorem pw_imp {e : Expr} {t t' : TT} (h : PW X e t) (hi : ∀ σ H Q, t' σ H Q → t σ H Q) : PW X e t' := ⟨fun wh pins s σ H Q I q => h.run wh pins s σ H Q I (hi σ H Q q)⟩
theorem pbw_and1 (ha : PB G W X a na) : PBW G W X (.BoolOp .And [a] pos) na := ⟨pw_and1 ha.run⟩
theorem pbw_or1 (ha : PB G W X a na) : PBW G W X (.BoolOp .Or [a] pos) na := ⟨pw_or1 ha.run⟩
theorem pbw_and (ha : PB G W X a na) (hb : PBW G W X (.BoolOp .And (b :: rest) pos) nb) : PBW G W X (.BoolOp .And (a :: b :: rest) pos) (bAnd na nb) :=
  ⟨pw_imp (pw_and ha.run hb.run) fun σ H Q ⟨α, F, ρ, κ, Bs, w, sl, h⟩ =>
    tT_mono (fun k H1 ⟨α1, F1, κ1, g1, w1, sl1, h1⟩ => by
      cases k with
      | true => exact ⟨α1, F1, ρ, κ1, Bs, w1, sl1, h1⟩
      | false => exact POB.now w1 h1) (tT_bindB w sl h)⟩
theorem pbw_or (ha : PB G W X a na) (hb : PBW G W X (.BoolOp .Or (b :: rest) pos) nb) : PBW G W X (.BoolOp .Or (a :: b :: rest) pos) (bOr na nb) :=
  ⟨pw_imp (pw_or ha.run hb.run) fun σ H Q ⟨α, F, ρ, κ, Bs, w, sl, h⟩ =>
    tT_mono (fun k H1 ⟨α1, F1, κ1, g1, w1, sl1, h1⟩ => by
      cases k with
      | false => exact ⟨α1, F1, ρ, κ1, Bs, w1, sl1, h1⟩
      | true => exact POB.now w1 h1) (tT_bindB w sl h)⟩
theorem pb_not (ha : PB G W X a na) : PB G W X (.UnaryOp .Not a pos) (bNot na) :=
  ⟨pt_imp (pt_not ha.run) fun σ H Q ⟨α, F, ρ, κ, Bs, w, sl, h⟩ =>
    tT_mono (fun k H1 ⟨α1, F1, κ1, g1, w1, sl1, h1⟩ => POB.now w1 h1) (tT_bindB w sl h)⟩
theorem pd_one {op : BoolOp} (ha : PD G W X a ma) : PD G W X (.BoolOp op [a] pos) ma := ⟨pe_one ha.run⟩
theorem pd_and (ha : PD G W X a ma) (hb : PD G W X (.BoolOp .And (b :: rest) pos) mb) : PD G W X (.BoolOp .And (a :: b :: rest) pos) (eAnd ma mb) :=
  ⟨pe_imp (pe_andT ha.run hb.run) fun σ H Q ⟨α, F, ρ, κ, Bs, w, sl, h⟩ =>
    tD_mono (fun x H1 ⟨α1, F1, κ1, d, g1, w1, sl1, r1, h1⟩ => by
      rcases ht : truth d with _ | k
      · rw [ht] at h1; exact h1.elim
      · rw [ht] at h1
        refine ⟨k, tru_of w1 r1 ht, ?_⟩
        cases k with
        | true => exact iteT ⟨α1, F1, ρ, κ1, Bs, w1, sl1, h1⟩
        | false => exact iteF (PO.now w1 h1 r1)) (tD_bind w sl h)⟩
theorem pd_or (ha : PD G W X a ma) (hb : PD G W X (.BoolOp .Or (b :: rest) pos) mb) : PD G W X (.BoolOp .Or (a :: b :: rest) pos) (eOr ma mb) :=
  ⟨pe_imp (pe_orT ha.run hb.run) fun σ H Q ⟨α, F, ρ, κ, Bs, w, sl, h⟩ =>
    tD_mono (fun x H1 ⟨α1, F1, κ1, d, g1, w1, sl1, r1, h1⟩ => by
      rcases ht : truth d with _ | k
      · rw [ht] at h1; exact h1.elim
      · rw [ht] at h1
        refine ⟨k, tru_of w1 r1 ht, ?_⟩
        cases k with
        | false => exact iteF ⟨α1, F1, ρ, κ1, Bs, w1, sl1, h1⟩
        | true => exact iteT (PO.now w1 h1 r1)) (tD_bind w sl h)⟩
theorem pd_not (ha : PD G W X a ma) : PD G W X (.UnaryOp .Not a pos) (eNot ma) :=
  ⟨pe_imp (pe_notT ha.run) fun σ H Q ⟨α, F, ρ, κ, Bs, w, sl, h⟩ =>
    tD_mono (fun x H1 ⟨α1, F1, κ1, d, g1, w1, sl1, r1, h1⟩ => by
      rcases ht : truth d with _ | k
      · rw [ht] at h1; exact h1.elim
      · rw [ht] at h1
        exact ⟨k, tru_of w1 r1 ht, PO.now w1 h1 (.bl _)⟩) (tD_bind w sl h)⟩
theorem pd_if (hc : PB G W X c na) (ha : PD G W X a ma) (hb : PD G W X b mb) : PD G W X (.IfExp c a b pos) (eIf na ma mb) :=
  ⟨pe_imp (pe_ifExp hc.run ha.run hb.run) fun σ H Q ⟨α, F, ρ, κ, Bs, w, sl, h⟩ =>
    tT_mono (fun k H1 ⟨α1, F1, κ1, g1, w1, sl1, h1⟩ => by
      cases k with
      | true => exact ⟨α1, F1, ρ, κ1, Bs, w1, sl1, h1⟩
      | false => exact ⟨α1, F1, ρ, κ1, Bs, w1, sl1, h1⟩) (tT_bind w sl h)⟩

/-! ### argument lists, displays -/
theorem pl_nil : PDL G W X [] aNil := ⟨pa_imp pa_nil fun σ H Q ⟨α, F, ρ, κ, Bs, w, sl, h⟩ => POL.now w h .nil⟩
theorem pl_cons (ha : PD G W X e m) (hr : PDL G W X es n) (hs : starEach (e :: es) X.env = (false, eval e X.env) :: starEach es X.env := by rfl) : PDL G W X (e :: es) (aCons m n) :=
  ⟨pa_imp (pa_cons ha.run hr.run hs) fun σ H Q ⟨α, F, ρ, κ, Bs, w, sl, h⟩ =>
    tD_mono (fun x H1 ⟨α1, F1, κ1, d, g1, w1, sl1, r1, h1⟩ => tL_mono (fun xs H2 ⟨α2, F2, κ2, ds, g2, w2, sl2, r2, h2⟩ => POL.now w2 h2 (.cons (r1.gr g2) r2)) (tL_bindL w1 sl1 h1)) (tD_bindL w sl h)⟩
theorem pd_tup {x1} (h : PDL G W X es n) : PD G W X (.Tuple es x1 pos) (eTup n) :=
  ⟨pe_imp (pe_tup h.run) fun σ H Q ⟨α, F, ρ, κ, Bs, w, sl, h⟩ =>
    tL_mono (fun xs H1 ⟨α1, F1, κ1, ds, g1, w1, sl1, r1, h1⟩ => by
      split at h1
      · rename_i hc
        refine ⟨by rw [sizeLine_eq, ← r1.length]; exact hc.2, fun p hp => ?_⟩
        obtain ⟨g2, w2⟩ := Gr.new (o := .tup xs) w1 hp
        exact h1 _ _ _ g2 w2 _ (Rp.rv (.tup (SqT.of upd_same) ((r1.rpl hc.1).gr g2)))
      · exact h1.elim) (tL_bind w sl h)⟩
theorem pf_lst (h : PDL G W X es n) : PF G W X (.List es pos) (fLst n) :=
  ⟨pe_imp (pe_lst h.run) fun σ H Q ⟨α, F, ρ, κ, Bs, w, sl, h⟩ =>
    tL_mono (fun xs H1 ⟨α1, F1, κ1, ds, g1, w1, sl1, r1, h1⟩ => by
      split at h1
      · rename_i hc
        refine ⟨by rw [sizeLine_eq, ← r1.length]; exact hc.2, fun p hp => ?_⟩
        obtain ⟨g2, w2⟩ := Gr.newH (o := .lst xs) w1 hp
        exact h1 _ _ _ g2 w2 p xs upd_same (w1.sub.free hp) (fun m => w1.dom m hp) hp ((r1.rpl hc.1).gr g2)
      · exact h1.elim) (tL_bindF w sl h)⟩
theorem pd_fr (h : PF G W X e n) : PD G W X e (eFr n) :=
  ⟨pe_imp h.run fun σ H Q ⟨α, F, ρ, κ, Bs, w, sl, h⟩ => by
    refine ⟨α, F, ρ, κ, Bs, w, sl, ?_⟩
    unfold eFr at h
    rcases hm : n ρ κ with _ | ⟨o, κ'⟩
    · rw [hm] at h; exact h
    · rw [hm] at h
      cases o with
      | er c => exact h
      | ok ds =>
        intro α' F' H' g w' a xs h1 h2 h3 h4 r
        obtain ⟨g2, w2⟩ := Gr.frz w' h1 h3 h2 g h4
        have sm : Same F' (upd F' a (.lst xs)) := fun b u e => by rw [upd_ne (ne_of_none e h2)]; exact e
        exact h α' _ H' g2 w2 _ (Rp.rv (.lst upd_same (by have := RpL.mono (β := []) sm r; rwa [List.append_nil] at this)))⟩
/-! ### calls -/
/-- a def's promise: its meaning f of data -/
def spD (G : Gx) (K : PySem.W.Frag) (ar : Nat) (f : List D → Ka → Re D) : Sp := fun vs H Q E => vs.length = ar ∧ ∃ α F κ ds, Wd G K α F H κ ∧ RvL K α F H ds vs ∧ PO G E K α F H Q (f ds κ)
theorem pd_call {CX : CXT} {k : Nat} {f : Addr} {fd : FuncData} {ps : List Str} {x : Str} {p : Pos} {ar : Nat} {fm : List D → Ka → Re D} (FO : FnOk X.prog X.w X.K X.mg X.base CX k f fd ps (spD G X.K ar fm)) (hr : Room k X.A) (hg : Gl X x) (hm : X.mg x = some (.ref f))
    (hk : PySem.W.keepIn X.K (.ref f) = true) (hb : Binds X.K fd ps []) (hx : Passes CX X W) (ha : PDL G W X (e :: es) n)
    (hdb : (x == ("__debug__" : Str)) = false := by decide) (he : starEach (e :: es) X.env = (false, eval e X.env) :: starEach es X.env := by rfl) (hpl : (backTo pos (starEach es X.env)).any (·.1) = false := by rfl) :
    PD G W X (.Call (.Name x p) (e :: es) [] pos) (eCall ar fm n) :=
  ⟨pe_imp (pe_call FO hr hg hm hk hb .nil hx ha.run hdb he hpl) fun σ H Q ⟨α, F, ρ, κ, Bs, w, sl, h⟩ =>
    tL_mono (fun xs H1 ⟨α1, F1, κ1, ds, g1, w1, sl1, r1, h1⟩ => by
      split at h1
      · rename_i hl
        exact ⟨by rw [List.append_nil, ← r1.length]; exact hl, α1, F1, κ1, ds, w1, by rw [List.append_nil]; exact r1, h1⟩
      · exact h1.elim) (tL_bind w sl h)⟩
theorem pd_call0 {CX : CXT} {k : Nat} {f : Addr} {fd : FuncData} {ps : List Str} {x : Str} {p : Pos} {fm : List D → Ka → Re D} (FO : FnOk X.prog X.w X.K X.mg X.base CX k f fd ps (spD G X.K 0 fm)) (hr : Room k X.A) (hg : Gl X x) (hm : X.mg x = some (.ref f))
    (hk : PySem.W.keepIn X.K (.ref f) = true) (hb : Binds X.K fd ps []) (hx : Passes CX X W) (hdb : (x == ("__debug__" : Str)) = false := by decide) : PD G W X (.Call (.Name x p) [] [] pos) (eCall 0 fm aNil) :=
  ⟨pe_imp (pe_call0 FO hr hg hm hk hb .nil hx hdb) fun σ H Q ⟨α, F, ρ, κ, Bs, w, sl, h⟩ => ⟨rfl, α, F, κ, [], w, .nil, h⟩⟩
end
end DL
set_option Elab.async false
set_option linter.all false
set_option maxRecDepth 100000
set_option maxHeartbeats 4000000
/-! DL3: operators, subscripts, slices, built-in calls. -/
namespace DL
noncomputable section
open PySem PySem.Spec PyProof.Rows L2

/-! ### operators on data -/
def mulSm (i : Int) : Prop := -18446744073709551616 < i ∧ i < 18446744073709551616
def mulOk (i j : Int) : Bool := @decide (mulSm i ∨ mulSm j) (Classical.propDecidable _)
def items : D → Option (List D)
  | .tup ds => some ds
  | .lst ds => some ds
  | .bor ds => some ds
  | _ => none
def listOf : D → Option (List D)
  | .lst ds => some ds
  | .bor ds => some ds
  | _ => none
def oAdd (x y : D) : Option D := match x, y with
  | .int i, .int j => some (.int (i + j))
  | .str a, .str b => if a.length + b.length ≤ 16777216 then some (.str (a ++ b)) else none
  | .tup a, .tup b => if a.length + b.length ≤ 16777216 then some (.tup (a ++ b)) else none
  | .lst a, .lst b => if a.length + b.length ≤ 16777216 then some (.lst (a ++ b)) else none
  | .lst a, .bor b => if a.length + b.length ≤ 16777216 then some (.lst (a ++ b)) else none
  | .bor a, .lst b => if a.length + b.length ≤ 16777216 then some (.lst (a ++ b)) else none
  | .bor a, .bor b => if a.length + b.length ≤ 16777216 then some (.lst (a ++ b)) else none
  | _, _ => none
def oSub (x y : D) : Option D := match x, y with
  | .int i, .int j => some (.int (i - j))
  | _, _ => none
def oMul (x y : D) : Option D := match x, y with
  | .int i, .int j => if mulOk i j = true then some (.int (i * j)) else none
  | _, _ => none
def oFdiv (x y : D) : Option D := match x, y with
  | .int i, .int j => if j ≠ 0 ∧ j.natAbs < 1073741824 then some (.int (i.fdiv j)) else none
  | _, _ => none
def oMod (x y : D) : Option D := match x, y with
  | .int i, .int j => if j ≠ 0 then some (.int (i.fmod j)) else none
  | _, _ => none
def oPow (x y : D) : Option D := match x, y with
  | .int i, .int j => if 0 ≤ j ∧ j ≤ 1000000 ∧ i.natAbs < 2 ^ 64 then some (.int (i ^ j.toNat)) else none
  | _, _ => none
def oNeg (x : D) : Option D := match x with
  | .int i => some (.int (-i))
  | _ => none
def cInt (p : Int → Int → Bool) (x y : D) : Option Bool := match x, y with
  | .int i, .int j => some (p i j)
  | _, _ => none
def cLt : D → D → Option Bool := cInt fun i j => decide (i < j)
def cLe : D → D → Option Bool := cInt fun i j => decide (i ≤ j)
def cGt : D → D → Option Bool := cInt fun i j => decide (j < i)
def cGe : D → D → Option Bool := cInt fun i j => decide (j ≤ i)
def cEq (x y : D) : Option Bool := eqD x y
def cNe (x y : D) : Option Bool := (eqD x y).map fun b => !b
def isNon : D → Bool
  | .non => true
  | _ => false
def cIs (x y : D) : Option Bool := match y with
  | .non => some (isNon x)
  | _ => none
def cIsNot (x y : D) : Option Bool := match y with
  | .non => some (!isNon x)
  | _ => none
/-- flat data: what «in» asks item by item -/
def flatD : D → Bool
  | .non => true | .bl _ => true | .int _ => true | .str _ => true
  | _ => false
def scalEq : D → D → Bool
  | .non, .non => true
  | .bl a, .bl b => a == b
  | .bl a, .int j => (if a then 1 else 0) == j
  | .int i, .bl b => i == (if b then 1 else 0)
  | .int i, .int j => i == j
  | .str x, .str y => x == y
  | _, _ => false
def cIn (x y : D) : Option Bool := match x, y with
  | .str a, .str b => some (!(Builtin.Str.occurrences b a 0 b.length 1).isEmpty)
  | x, y => match items y with
    | some ds => if flatD x = true ∧ ds.all flatD = true then some (ds.any fun e => scalEq e x) else none
    | none => none
def cNotIn (x y : D) : Option Bool := (cIn x y).map fun b => !b

section
variable {X : Cx} {G : Gx} {W : XK} {K : PySem.W.Frag} {α : List Addr} {F H : Hp} {κ : Ka} {Q : VK} {d e : D} {x y : V} {ds es : List D} {vs us : List V}
theorem rv_int {i : Int} (r : Rv K α F H (.int i) x) : x = .int i := by cases r; rfl
theorem rv_str {i : Str} (r : Rv K α F H (.str i) x) : x = .str i := by cases r; rfl
theorem rv_bl {i : Bool} (r : Rv K α F H (.bl i) x) : x = .bl i := by cases r; rfl
theorem rv_non (r : Rv K α F H .non x) : x = .non := by cases r; rfl
theorem rv_tup (w : Wd G K α F H κ) (r : Rv K α F H (.tup ds) x) : ∃ a xs, x = .ref a ∧ SqT K H a xs ∧ RpL K α F ds xs := by
  cases r with
  | tup h q => exact ⟨_, _, rfl, same_tup w.sub h, q⟩
theorem rv_list (w : Wd G K α F H κ) (r : Rv K α F H d x) (h : listOf d = some ds) : ∃ a xs, x = .ref a ∧ H a = some (.lst xs) ∧ RpL K α F ds xs := by
  cases d with
  | lst ds => cases h; cases r with | lst h q => exact ⟨_, _, rfl, w.sub _ _ h, q⟩
  | bor ds => cases h; obtain ⟨a, xs, rfl, h1, _, _, q⟩ := r; exact ⟨a, xs, rfl, h1, q⟩
  | _ => cases h
theorem PO.of {o : Option D} (h : PO G W K α F H Q (rOf o κ)) : ∃ d, o = some d ∧ PO G W K α F H Q (ret d κ) := by
  cases o with
  | none => exact h.elim
  | some d => exact ⟨d, rfl, h⟩
theorem PO.tupNew {p : Addr} {xs : List V} (w : Wd G K α F H κ) (h : PO G W K α F H Q (ret (.tup ds) κ)) (r : RpL K α F ds xs) (hp : H p = none) : Q (.ref p) (upd H p (.tup xs)) := by
  obtain ⟨g2, w2⟩ := Gr.new (o := .tup xs) w hp
  exact h _ _ _ g2 w2 _ (Rp.rv (.tup (SqT.of upd_same) (r.gr g2)))
theorem PO.lstNew {p : Addr} {xs : List V} (w : Wd G K α F H κ) (h : PO G W K α F H Q (ret (.lst ds) κ)) (r : RpL K α F ds xs) (hp : H p = none) : Q (.ref p) (upd H p (.lst xs)) := by
  obtain ⟨g2, w2⟩ := Gr.new (o := .lst xs) w hp
  exact h _ _ _ g2 w2 _ (Rp.rv (.lst upd_same (r.gr g2)))
theorem POF.lstNew {p : Addr} {xs : List V} (w : Wd G K α F H κ) (h : POF G W K α F H Q (some (.ok ds, κ))) (r : RpL K α F ds xs) (hp : H p = none) : Q (.ref p) (upd H p (.lst xs)) := by
  obtain ⟨g2, w2⟩ := Gr.newH (o := .lst xs) w hp
  exact h _ _ _ g2 w2 p xs upd_same (w.sub.free hp) (fun m => w.dom m hp) hp (r.gr g2)
def rAddD (K : PySem.W.Frag) : R2 := fun x y H Q => ((rI0 fun i j => .int (i + j)) x y H Q ∨ (∃ i j, x = .str i ∧ y = .str j ∧ i.length + j.length ≤ sizeLine ∧ Q (.str (i ++ j)) H)) ∨ (rCatA K x y H Q ∨ rCat x y H Q)
theorem op_addD : OpR X (binaryOp .Add) (rAddD X.K) :=
  (op_add.or op_add_str).or (op_catA.or op_cat)
theorem cat_lists {a b : D} {xs ys : List D} (w : Wd G K α F H κ) (ra : Rv K α F H a x) (rb : Rv K α F H b y) (ha : listOf a = some xs) (hb : listOf b = some ys) (hl : xs.length + ys.length ≤ 16777216)
    (h : ∀ (zs : List V) (p : Addr), RpL K α F (xs ++ ys) zs → H p = none → Q (.ref p) (upd H p (.lst zs))) : rCat x y H Q := by
  obtain ⟨p, us, rfl, h1, q1⟩ := rv_list w ra ha
  obtain ⟨q, zs, rfl, h2, q2⟩ := rv_list w rb hb
  exact ⟨p, q, us, zs, rfl, rfl, h1, h2, by rw [sizeLine_eq, ← q1.length, ← q2.length]; exact hl, fun p hp => h _ p (q1.append q2) hp⟩
theorem addD : OpD X (rAddD X.K) oAdd := fun G W α F H κ Q d e x y w rx ry h => by
  obtain ⟨z, hz, h⟩ := PO.of h
  unfold oAdd at hz
  split at hz
  · cases hz; exact .inl (.inl ⟨_, _, rv_int rx, rv_int ry, PO.now w h (.int _)⟩)
  · split at hz
    · rename_i hl
      cases hz; exact .inl (.inr ⟨_, _, rv_str rx, rv_str ry, by rw [sizeLine_eq]; exact hl, PO.now w h (.str _)⟩)
    · cases hz
  · split at hz
    · rename_i hl
      cases hz
      obtain ⟨p, us, rfl, h1, q1⟩ := rv_tup w rx
      obtain ⟨q, zs, rfl, h2, q2⟩ := rv_tup w ry
      refine .inr (.inl ⟨p, q, us, zs, rfl, rfl, h1, h2, by rw [sizeLine_eq, ← q1.length, ← q2.length]; exact hl, fun e => ?_, fun e1 e2 => ?_, fun e1 e2 p hp => PO.tupNew w h (q1.append q2) hp⟩)
      · subst e
        cases q1
        exact PO.now w h ry
      · subst e2
        cases q2
        rw [List.append_nil] at h
        exact PO.now w h rx
    · cases hz
  all_goals first
    | (split at hz
       · rename_i hl
         cases hz
         exact .inr (.inr (cat_lists w rx ry rfl rfl hl fun zs p r hp => PO.lstNew w h r hp))
       · cases hz)
    | cases hz
theorem subD : OpD X (rI0 fun i j => .int (i - j)) oSub := fun G W α F H κ Q d e x y w rx ry h => by
  obtain ⟨z, hz, h⟩ := PO.of h
  unfold oSub at hz
  split at hz
  · cases hz; exact ⟨_, _, rv_int rx, rv_int ry, PO.now w h (.int _)⟩
  · cases hz
theorem mulD : OpD X (rI CMul fun i j => .int (i * j)) oMul := fun G W α F H κ Q d e x y w rx ry h => by
  obtain ⟨z, hz, h⟩ := PO.of h
  unfold oMul at hz
  split at hz
  · split at hz
    · rename_i i j hl
      cases hz
      refine ⟨_, _, rv_int rx, rv_int ry, ?_, PO.now w h (.int _)⟩
      unfold mulOk at hl
      simp only [Bool.or_eq_true, Bool.and_eq_true, decide_eq_true_eq] at hl
      exact hl
    · cases hz
  · cases hz
theorem fdivD : OpD X (rI CDivN fun i j => .int (i.fdiv j)) oFdiv := fun G W α F H κ Q d e x y w rx ry h => by
  obtain ⟨z, hz, h⟩ := PO.of h
  unfold oFdiv at hz
  split at hz
  · split at hz
    · rename_i i j hl
      cases hz
      exact ⟨_, _, rv_int rx, rv_int ry, hl, PO.now w h (.int _)⟩
    · cases hz
  · cases hz
theorem modD : OpD X (rI (fun _ j => j ≠ 0) fun i j => .int (i.fmod j)) oMod := fun G W α F H κ Q d e x y w rx ry h => by
  obtain ⟨z, hz, h⟩ := PO.of h
  unfold oMod at hz
  split at hz
  · split at hz
    · rename_i i j hl
      cases hz
      exact ⟨_, _, rv_int rx, rv_int ry, hl, PO.now w h (.int _)⟩
    · cases hz
  · cases hz
theorem powD : OpD X (rI CPow fun i j => .int (i ^ j.toNat)) oPow := fun G W α F H κ Q d e x y w rx ry h => by
  obtain ⟨z, hz, h⟩ := PO.of h
  unfold oPow at hz
  split at hz
  · split at hz
    · rename_i i j hl
      cases hz
      exact ⟨_, _, rv_int rx, rv_int ry, hl, PO.now w h (.int _)⟩
    · cases hz
  · cases hz
theorem intD {p : Int → Int → Bool} : CmpD X (rI0 fun i j => .bl (p i j)) (cInt p) := fun G α F H κ Q d e x y b w rx ry h q => by
  unfold cInt at h
  split at h
  · cases h; exact ⟨_, _, rv_int rx, rv_int ry, q⟩
  · cases h
theorem eq_dp (w : Wd G K α F H κ) (rx : Rv K α F H d x) (ry : Rv K α F H e y) {b : Bool} (h : eqD d e = some b) :
    Dp K H x d.py ∧ Dp K H y e.py ∧ SeqAt.shaped d.py = true ∧ SeqAt.shaped e.py = true ∧ b = PyData.eqv d.py e.py := by
  unfold eqD at h
  split at h
  · rename_i hf
    cases h
    simp only [D.fit, Bool.and_eq_true] at hf
    exact ⟨rx.dp w.sub hf.1.1, ry.dp w.sub hf.2.1, hf.1.2, hf.2.2, rfl⟩
  · cases h
theorem eqDD : CmpD X (rEqD X.K) cEq := fun G α F H κ Q d e x y b w rx ry h q => by
  obtain ⟨h1, h2, h3, h4, rfl⟩ := eq_dp w rx ry h
  exact ⟨_, _, h1, h2, h3, h4, q⟩
theorem neDD : CmpD X (rNeD X.K) cNe := fun G α F H κ Q d e x y b w rx ry h q => by
  unfold cNe at h
  obtain ⟨b', h', rfl⟩ := Option.map_eq_some_iff.mp h
  obtain ⟨h1, h2, h3, h4, rfl⟩ := eq_dp w rx ry h'
  exact ⟨_, _, h1, h2, h3, h4, q⟩
theorem isNon_v (r : Rv K α F H d x) : decide (x = .non) = isNon d := by
  cases d with
  | bor ds => obtain ⟨a, xs, rfl, _⟩ := r; rfl
  | _ => cases r <;> rfl
theorem isD : CmpD X (fun x y H Q => y = .non ∧ Q (.bl (decide (x = .non))) H) cIs := fun G α F H κ Q d e x y b w rx ry h q => by
  unfold cIs at h
  split at h
  · cases h; exact ⟨rv_non ry, by rw [isNon_v rx]; exact q⟩
  · cases h
theorem isNotD : CmpD X (fun x y H Q => y = .non ∧ Q (.bl (!decide (x = .non))) H) cIsNot := fun G α F H κ Q d e x y b w rx ry h q => by
  unfold cIsNot at h
  split at h
  · cases h; exact ⟨rv_non ry, by rw [isNon_v rx]; exact q⟩
  · cases h
theorem flat_v (r : Rv K α F H d x) (h : flatD d = true) : flatV x = true := by
  cases d with
  | non => cases r; rfl
  | bl => cases r; rfl
  | int => cases r; rfl
  | str => cases r; rfl
  | _ => cases h
theorem scal_v (rx : Rv K α F H d x) (ry : Rv K α F H e y) (h : flatD d = true) (h' : flatD e = true) : eqV x y = scalEq d e := by
  cases d <;> first | (cases h; done) | (cases e <;> first | (cases h'; done) | (cases rx; cases ry; simp [eqV, scalEq]))
theorem flat_all (r : RpL K α F ds vs) (h : ds.all flatD = true) : vs.all flatV = true := by
  induction ds generalizing vs with
  | nil => cases r; rfl
  | cons d ds ih =>
    cases r with
    | cons h1 t =>
      simp only [List.all_cons, Bool.and_eq_true] at h ⊢
      exact ⟨flat_v (H := F) h1.rv h.1, ih t h.2⟩
theorem any_v (r : RpL K α F ds vs) (rx : Rv K α F H d x) (h : ds.all flatD = true) (hx : flatD d = true) : inV x vs = ds.any fun e => scalEq e d := by
  unfold inV
  induction ds generalizing vs with
  | nil => cases r; rfl
  | cons e ds ih =>
    cases r with
    | cons h1 t =>
      simp only [List.all_cons, Bool.and_eq_true] at h
      simp only [List.any_cons]
      rw [ih t h.2, scal_v (H := H) h1.rv rx h.1 hx]
theorem rv_items (w : Wd G K α F H κ) (r : Rv K α F H d x) (h : items d = some ds) : ∃ a xs, x = .ref a ∧ (SqL K H a xs ∨ SqT K H a xs) ∧ RpL K α F ds xs := by
  cases d with
  | tup ds => cases h; obtain ⟨a, xs, e, h1, q⟩ := rv_tup w r; exact ⟨a, xs, e, .inr h1, q⟩
  | lst ds => obtain ⟨a, xs, e, h1, q⟩ := rv_list w r h; exact ⟨a, xs, e, .inl (SqL.of h1), q⟩
  | bor ds => obtain ⟨a, xs, e, h1, q⟩ := rv_list w r h; exact ⟨a, xs, e, .inl (SqL.of h1), q⟩
  | _ => cases h
def rInX (K : PySem.W.Frag) : R2 := fun x y H Q => rIn K false x y H Q ∨ ∃ i j, x = .str i ∧ y = .str j ∧ Q (.bl (!(Builtin.Str.occurrences j i 0 j.length 1).isEmpty)) H
def rNotInX (K : PySem.W.Frag) : R2 := fun x y H Q => rIn K true x y H Q ∨ ∃ i j, x = .str i ∧ y = .str j ∧ Q (.bl (!(!(Builtin.Str.occurrences j i 0 j.length 1).isEmpty))) H
theorem op_inX : OpR X (compareOp .In) (rInX X.K) := op_in_seq.or op_in_str
theorem op_notInX : OpR X (compareOp .NotIn) (rNotInX X.K) := op_notIn_seq.or L2.op_notin_str
theorem in_some (w : Wd G K α F H κ) (rx : Rv K α F H d x) (ry : Rv K α F H e y) {b : Bool} (h : cIn d e = some b) :
    (∃ p xs, y = .ref p ∧ (SqL K H p xs ∨ SqT K H p xs) ∧ flatV x = true ∧ xs.all flatV = true ∧ inV x xs = b) ∨ ∃ i j, x = .str i ∧ y = .str j ∧ b = (!(Builtin.Str.occurrences j i 0 j.length 1).isEmpty) := by
  unfold cIn at h
  split at h
  · cases h; exact .inr ⟨_, _, rv_str rx, rv_str ry, rfl⟩
  · rcases hi : items e with _ | ds
    · rw [hi] at h; cases h
    · rw [hi] at h
      simp only at h
      split at h
      · rename_i hf
        cases h
        obtain ⟨a, xs, e1, h1, q⟩ := rv_items w ry hi
        exact .inl ⟨a, xs, e1, h1, flat_v rx hf.1, flat_all q hf.2, any_v q rx hf.2 hf.1⟩
      · cases h
theorem inD : CmpD X (rInX X.K) cIn := fun G α F H κ Q d e x y b w rx ry h q => by
  rcases in_some w rx ry h with ⟨p, xs, h1, h2, h3, h4, h5⟩ | ⟨i, j, h1, h2, h3⟩
  · refine .inl ⟨p, xs, h1, h2, h3, h4, ?_⟩
    rw [if_neg (by decide), h5]; exact q
  · exact .inr ⟨i, j, h1, h2, by rw [← h3]; exact q⟩
theorem notInD : CmpD X (rNotInX X.K) cNotIn := fun G α F H κ Q d e x y b w rx ry h q => by
  unfold cNotIn at h
  obtain ⟨b', h', rfl⟩ := Option.map_eq_some_iff.mp h
  rcases in_some w rx ry h' with ⟨p, xs, h1, h2, h3, h4, h5⟩ | ⟨i, j, h1, h2, h3⟩
  · refine .inl ⟨p, xs, h1, h2, h3, h4, ?_⟩
    rw [if_pos rfl, h5]; exact q
  · exact .inr ⟨i, j, h1, h2, by rw [← h3]; exact q⟩
end

/-! ### the rules as the printer writes them -/
section
variable {G : Gx} {W : XK} {X : Cx} {e a b c : Expr} {es : List Expr} {m ma mb mc : Ev D} {n : Ev (List D)} {pos : Pos}
theorem d_add (ha : PD G W X a ma) (hb : PD G W X b mb) : PD G W X (.BinOp a .Add b pos) (eOp oAdd ma mb) := pd_op op_addD addD ha hb
theorem d_sub (ha : PD G W X a ma) (hb : PD G W X b mb) : PD G W X (.BinOp a .Sub b pos) (eOp oSub ma mb) := pd_op op_sub subD ha hb
theorem d_mul (ha : PD G W X a ma) (hb : PD G W X b mb) : PD G W X (.BinOp a .Mult b pos) (eOp oMul ma mb) := pd_op op_mul mulD ha hb
theorem d_fdiv (ha : PD G W X a ma) (hb : PD G W X b mb) : PD G W X (.BinOp a .FloorDiv b pos) (eOp oFdiv ma mb) := pd_op op_fdivN fdivD ha hb
theorem d_mod (ha : PD G W X a ma) (hb : PD G W X b mb) : PD G W X (.BinOp a .Mod b pos) (eOp oMod ma mb) := pd_op op_modN modD ha hb
theorem d_pow (ha : PD G W X a ma) (hb : PD G W X b mb) : PD G W X (.BinOp a .Pow b pos) (eOp oPow ma mb) := pd_op op_pow powD ha hb
theorem d_neg (ha : PD G W X a ma) : PD G W X (.UnaryOp .USub a pos) (eUn (fun d κ => rOf (oNeg d) κ) ma) := pd_un un_neg (fun G W α F H κ Q d x w r h => by
  obtain ⟨z, hz, h⟩ := PO.of h
  unfold oNeg at hz
  split at hz
  · cases hz; exact ⟨_, rv_int r, PO.now w h (.int _)⟩
  · cases hz) ha
/-- a comparison's rule: the operator, its reading, its meaning -/
structure Cm (X : Cx) (op : CmpOp) (f : D → D → Option Bool) : Prop where
  ex : ∃ r, OpR X (compareOp op) r ∧ CmpD X r f
theorem k_lt : Cm X .Lt cLt := ⟨_, op_lt, intD⟩
theorem k_le : Cm X .LtE cLe := ⟨_, op_le, intD⟩
theorem k_gt : Cm X .Gt cGt := ⟨_, op_gt, intD⟩
theorem k_ge : Cm X .GtE cGe := ⟨_, op_ge, intD⟩
theorem k_eq (hu : X.A.units + 64 < cLine) : Cm X .Eq cEq := ⟨_, op_eqD hu, eqDD⟩
theorem k_ne (hu : X.A.units + 64 < cLine) : Cm X .NotEq cNe := ⟨_, op_neD hu, neDD⟩
theorem k_isn : Cm X .Is cIs := ⟨_, op_isN, isD⟩
theorem k_isnot : Cm X .IsNot cIsNot := ⟨_, op_notN, isNotD⟩
theorem k_in : Cm X .In cIn := ⟨_, op_inX, inD⟩
theorem k_notin : Cm X .NotIn cNotIn := ⟨_, op_notInX, notInD⟩
variable {op op' : CmpOp} {f f' : D → D → Option Bool}
theorem d_cmp (k : Cm X op f) (ha : PD G W X a ma) (hb : PD G W X b mb) (hm : behindInMarks op b = false := by first | exact nomark _ | rfl) : PD G W X (.Compare a [op] [b] pos) (eCmp f ma mb) :=
  let ⟨_, h1, h2⟩ := k.ex; pd_cmp h1 h2 ha hb hm
theorem b_cmp (k : Cm X op f) (ha : PD G W X a ma) (hb : PD G W X b mb) (hm : behindInMarks op b = false := by first | exact nomark _ | rfl) : PB G W X (.Compare a [op] [b] pos) (bCmp f ma mb) :=
  let ⟨_, h1, h2⟩ := k.ex; pb_cmp h1 h2 ha hb hm
theorem d_chain (k : Cm X op f) (k' : Cm X op' f') (ha : PD G W X a ma) (hb : PD G W X b mb) (hc : PD G W X c mc) (hm : lastMarks [op, op'] [b, c] = false := by rfl) : PD G W X (.Compare a [op, op'] [b, c] pos) (eChain f f' ma mb mc) :=
  let ⟨_, h1, h2⟩ := k.ex; let ⟨_, h3, h4⟩ := k'.ex; pd_chain h1 h2 h3 h4 ha hb hc hm
theorem b_chain (k : Cm X op f) (k' : Cm X op' f') (ha : PD G W X a ma) (hb : PD G W X b mb) (hc : PD G W X c mc) (hm : lastMarks [op, op'] [b, c] = false := by rfl) : PB G W X (.Compare a [op, op'] [b, c] pos) (bChain f f' ma mb mc) :=
  let ⟨_, h1, h2⟩ := k.ex; let ⟨_, h3, h4⟩ := k'.ex; pb_chain h1 h2 h3 h4 ha hb hc hm
end

/-! ### subscripts, slices -/
def oIdx (κ : Ka) (x y : D) : Option D := match x, y with
  | .tup ds, .int i => atI ds i
  | .lst ds, .int i => atI ds i
  | .bor ds, .int i => atI ds i
  | .rol ds, .int i => atI ds i
  | .obj n, .int i => match κ[n]? with
    | some (.lst ds) => atI ds i
    | _ => none
  | .str z, .int i => if z.length ≤ 16777216 then (atI z.cps.toList i).map fun c => .str ⟨#[c]⟩ else none
  | _, _ => none
def eIdx (ma mb : Ev D) : Ev D := eBin (fun x y κ => rOf (oIdx κ x y) κ) ma mb
def cutD (ds : List D) (lo hi : Option Int) : List D := (ds.drop (HT.sIx ds.length 0 lo)).take (HT.sIx ds.length ds.length hi - HT.sIx ds.length 0 lo)
def oCut (x : D) (lo hi : Option Int) : Option D := match x with
  | .tup ds => some (.tup (cutD ds lo hi))
  | .lst ds => some (.lst (cutD ds lo hi))
  | .bor ds => some (.lst (cutD ds lo hi))
  | .str z => if z.length ≤ 16777216 then some (.str (cutS z lo hi)) else none
  | _ => none
def intOf : D → Option Int
  | .int i => some i
  | _ => none
/-- an optional part of a slice -/
def sNone : Ev (Option Int) := fun _ κ => some (.ok none, κ)
def sSome (m : Ev D) : Ev (Option Int) := fun ρ κ => (m ρ κ).bind fun d κ1 => match d with
  | .int i => some (.ok (some i), κ1)
  | _ => none
def eCut (m : Ev D) (l h : Ev (Option Int)) : Ev D := fun ρ κ => (m ρ κ).bind fun d κ1 => (l ρ κ1).bind fun i κ2 => (h ρ κ2).bind fun j κ3 => rOf (oCut d i j) κ3
section
variable {G : Gx} {W : XK} {X : Cx} {K : PySem.W.Frag} {α : List Addr} {F H : Hp} {κ : Ka} {Q : VK} {e a b c : Expr} {es : List Expr} {m ma mb mc : Ev D} {n : Ev (List D)} {pos : Pos} {ds : List D} {vs : List V}
theorem RpL.atI (r : RpL K α F ds vs) {i : Int} {d : D} (h : L2.atI ds i = some d) : ∃ v, L2.atI vs i = some v ∧ Rp K α F d v := by
  unfold L2.atI at h ⊢
  rw [← r.length]
  obtain ⟨j, h1, h2⟩ := Option.bind_eq_some_iff.mp h
  obtain ⟨v, h3, h4⟩ := r.get h2
  exact ⟨v, by rw [h1]; exact h3, h4⟩
theorem Wd.cell {n : Nat} {a : Addr} {c : Cell} (w : Wd G K α F H κ) (h : α[n]? = some a) (hk : κ[n]? = some c) : CellOk G K α F H a c := w.cel n a c h hk
theorem idx_ok {d e r : D} {x y : V} (w : Wd G K α F H κ) (rx : Rv K α F H d x) (ry : Rv K α F H e y) (hz : oIdx κ d e = some r) (h : ∀ v, Rv K α F H r v → Q v H) : rIx K x y H Q := by
  unfold oIdx at hz
  split at hz
  · obtain ⟨p, xs, rfl, h1, q⟩ := rv_tup w rx
    obtain ⟨v, e1, r1⟩ := q.atI hz
    exact .inr (.inl ⟨p, xs, _, v, rfl, rv_int ry, h1, e1, h v r1.rv⟩)
  · obtain ⟨p, xs, rfl, h1, q⟩ := rv_list w rx rfl
    obtain ⟨v, e1, r1⟩ := q.atI hz
    exact .inl ⟨p, xs, _, v, rfl, rv_int ry, SqL.of h1, e1, h v r1.rv⟩
  · obtain ⟨p, xs, rfl, h1, q⟩ := rv_list w rx rfl
    obtain ⟨v, e1, r1⟩ := q.atI hz
    exact .inl ⟨p, xs, _, v, rfl, rv_int ry, SqL.of h1, e1, h v r1.rv⟩
  · cases rx with
    | rol h1 q =>
      obtain ⟨v, e1, r1⟩ := q.atI hz
      exact .inl ⟨_, _, _, v, rfl, rv_int ry, Same.seq w.sub h1, e1, h v r1.rv⟩
  · split at hz
    · rename_i n i ds hk
      cases rx with
      | obj ha =>
        obtain ⟨xs, h1, q⟩ := w.cell ha hk
        obtain ⟨v, e1, r1⟩ := q.atI hz
        exact .inl ⟨_, xs, _, v, rfl, rv_int ry, SqL.of h1, e1, h v r1.rv⟩
    · cases hz
  · split at hz
    · rename_i hl
      obtain ⟨c, e1, rfl⟩ := Option.map_eq_some_iff.mp hz
      exact .inr (.inr ⟨_, _, c, rv_str rx, rv_int ry, by rw [sizeLine_eq]; exact hl, e1, h _ (.str _)⟩)
    · cases hz
  · cases hz
theorem d_idx (ha : PD G W X a ma) (hb : PD G W X b mb) (hs : PlainIx b := by exact fun _ _ => rfl) : PD G W X (.Subscript a b pos) (eIdx ma mb) :=
  ⟨pe_imp (pe_ix ix_seq ha.run hb.run hs) fun σ H Q ⟨α, F, ρ, κ, Bs, w, sl, h⟩ =>
    tD_mono (fun x H1 ⟨α1, F1, κ1, d, g1, w1, sl1, r1, h1⟩ => tD_mono (fun y H2 ⟨α2, F2, κ2, e, g2, w2, sl2, r2, h2⟩ => by
      obtain ⟨z, hz, h2⟩ := PO.of h2
      exact idx_ok w2 (r1.gr g2) r2 hz fun v r => PO.now w2 h2 r) (tD_bind w1 sl1 h1)) (tD_bind w sl h)⟩
def POS (G : Gx) (W : XK) (K : PySem.W.Frag) (α : List Addr) (F H : Hp) (Q : Option Int → Hp → Prop) : Re (Option Int) → Prop
  | none => False
  | some (o, κ') => ∀ α' F' H', Gr α F H α' F' H' → Wd G K α' F' H' κ' → match o with
    | .ok d => Q d H'
    | .er c => W (.ref (G.exc c)) none H'
def tS1 (G : Gx) (W : XK) (K : PySem.W.Frag) (m : Ev (Option Int)) : TO := fun σ H Q => ∃ α F ρ κ Bs, Wd G K α F H κ ∧ Sls K α F H Bs ρ σ ∧ POS G W K α F H Q (m ρ κ)
structure PP (G : Gx) (W : XK) (X : Cx) (e : Option Expr) (m : Ev (Option Int)) : Prop where
  run : L2.PO X e (tS1 G W X.K m)
theorem po_imp {e : Option Expr} {t t' : TO} (h : L2.PO X e t) (hi : ∀ σ H Q, t' σ H Q → t σ H Q) : L2.PO X e t' := ⟨fun pins s σ H Q I q => h.run pins s σ H Q I (hi σ H Q q)⟩
theorem p_none : PP G W X none sNone := ⟨po_imp po_none fun σ H Q ⟨α, F, ρ, κ, Bs, w, sl, h⟩ => h α F H (Gr.refl _ _ _) w⟩
theorem p_some (ha : PD G W X a ma) : PP G W X (some a) (sSome ma) := ⟨po_imp (po_some ha.run) fun σ H Q ⟨α, F, ρ, κ, Bs, w, sl, h⟩ => by
  refine ⟨α, F, ρ, κ, Bs, w, sl, ?_⟩
  unfold sSome at h
  rcases hm : ma ρ κ with _ | ⟨o, κ'⟩
  · rw [hm] at h; exact h
  · rw [hm] at h
    cases o with
    | er c => exact h
    | ok d =>
      intro α' F' H' g w' v r
      cases d with
      | int i => exact ⟨i, rv_int r, h α' F' H' g w'⟩
      | _ => exact h.elim⟩
theorem tS1_bind {σ : L2.St} {ρ : List Sl} {Bs : Hp} {m : Ev (Option Int)} {f : Option Int → Ka → Re D} (w : Wd G K α F H κ) (sl : Sls K α F H Bs ρ σ) {R : Option Int → Hp → Prop} (h : PO G W K α F H Q ((m ρ κ).bind f))
    (hR : ∀ b H1 α1 F1 κ1, Gr α F H α1 F1 H1 → Wd G K α1 F1 H1 κ1 → Sls K α1 F1 H1 Bs ρ σ → PO G W K α1 F1 H1 Q (f b κ1) → R b H1) : tS1 G W K m σ H R := by
  refine ⟨α, F, ρ, κ, Bs, w, sl, ?_⟩
  rcases hm : m ρ κ with _ | ⟨o, κ'⟩
  · rw [hm] at h; exact h
  · rw [hm] at h
    cases o with
    | ok d => exact fun α' F' H' g w' => hR d H' α' F' κ' g w' (sl.gr g) (PO.gr g h)
    | er c => exact h
theorem RpL.cut (r : RpL K α F ds vs) (lo hi : Option Int) : RpL K α F (cutD ds lo hi) (cutV vs lo hi) := by
  unfold cutD cutV
  rw [← r.length]
  exact (r.drop _).take _
theorem op_cutX : SlR X (fun x lo hi H Q => rSlA X.K x lo hi H Q ∨ (rSlL X.K x lo hi H Q ∨ rSlS x lo hi H Q)) := sl_tupA.or (sl_list.or sl_str)
theorem cutD_all {lo hi : Option Int} (h : HT.sIx ds.length 0 lo = 0 ∧ HT.sIx ds.length ds.length hi = ds.length) : cutD ds lo hi = ds := by
  unfold cutD
  rw [h.1, h.2]
  simp
theorem cut_ok {d r : D} {x : V} {lo hi : Option Int} (w : Wd G K α F H κ) (rx : Rv K α F H d x) (hz : oCut d lo hi = some r) (h : PO G W K α F H Q (ret r κ)) : rSlA K x lo hi H Q ∨ (rSlL K x lo hi H Q ∨ rSlS x lo hi H Q) := by
  unfold oCut at hz
  split at hz
  · cases hz
    obtain ⟨p, xs, rfl, h1, q⟩ := rv_tup w rx
    refine .inl ⟨p, xs, rfl, h1, fun e => ?_, fun _ p hp => PO.tupNew w h (q.cut lo hi) hp⟩
    rw [← q.length] at e
    rw [cutD_all e] at h
    exact PO.now w h rx
  · cases hz
    obtain ⟨p, xs, rfl, h1, q⟩ := rv_list w rx rfl
    exact .inr (.inl ⟨p, xs, rfl, SqL.of h1, fun p hp => PO.lstNew w h (q.cut lo hi) hp⟩)
  · cases hz
    obtain ⟨p, xs, rfl, h1, q⟩ := rv_list w rx rfl
    exact .inr (.inl ⟨p, xs, rfl, SqL.of h1, fun p hp => PO.lstNew w h (q.cut lo hi) hp⟩)
  · split at hz
    · rename_i hl
      cases hz
      exact .inr (.inr ⟨_, rv_str rx, by rw [sizeLine_eq]; exact hl, PO.now w h (.str _)⟩)
    · cases hz
  · cases hz
theorem d_cut {lo hi : Option Expr} {l u : Ev (Option Int)} {p2 : Pos} (ha : PD G W X a ma) (hl : PP G W X lo l) (hu : PP G W X hi u) : PD G W X (.Subscript a (.Slice lo hi none p2) pos) (eCut ma l u) :=
  ⟨pe_imp (pe_slice op_cutX ha.run hl.run hu.run) fun σ H Q ⟨α, F, ρ, κ, Bs, w, sl, h⟩ =>
    tD_mono (fun x H1 ⟨α1, F1, κ1, d, g1, w1, sl1, r1, h1⟩ => tS1_bind w1 sl1 h1 fun i H2 α2 F2 κ2 g2 w2 sl2 h2 => tS1_bind w2 sl2 h2 fun j H3 α3 F3 κ3 g3 w3 sl3 h3 => by
      obtain ⟨z, hz, h3⟩ := PO.of h3
      exact cut_ok w3 ((r1.gr g2).gr g3) hz h3) (tD_bind w sl h)⟩
end
end
end DL
set_option Elab.async false
set_option linter.all false
set_option maxRecDepth 100000
set_option maxHeartbeats 4000000
/-! DL4: built-in calls, what is walked, targets, comprehensions. -/
namespace DL
noncomputable section
open PySem PySem.Spec PyProof.Rows L2

/-! ### built-in calls -/
def eBi (f : Ka → List D → Option D) (n : Ev (List D)) : Ev D := fun ρ κ => (n ρ κ).bind fun ds κ1 => rOf (f κ1 ds) κ1
/-- .. that makes a new list -/
def fBi (f : Ka → List D → Option (List D)) (n : Ev (List D)) : Ev (List D) := fun ρ κ => (n ρ κ).bind fun ds κ1 => match f κ1 ds with
  | some ys => some (.ok ys, κ1)
  | none => none
def intsOf : List D → Option (List Int)
  | [] => some []
  | .int i :: ds => (intsOf ds).map (i :: ·)
  | _ :: _ => none
theorem intsOf_eq : ∀ {ds : List D} {ns : List Int}, intsOf ds = some ns → ds = ns.map D.int
  | [], ns, h => by cases h; rfl
  | .int i :: ds, ns, h => by
    simp only [intsOf] at h
    obtain ⟨ms, h1, rfl⟩ := Option.map_eq_some_iff.mp h
    rw [intsOf_eq h1]; rfl
  | .non :: _, _, h => by cases h
  | .bl _ :: _, _, h => by cases h
  | .str _ :: _, _, h => by cases h
  | .tup _ :: _, _, h => by cases h
  | .lst _ :: _, _, h => by cases h
  | .bor _ :: _, _, h => by cases h
  | .obj _ :: _, _, h => by cases h
  | .rol _ :: _, _, h => by cases h
theorem intsOf_map (ns : List Int) : intsOf (ns.map D.int) = some ns := by
  induction ns with
  | nil => rfl
  | cons n ns ih => simp [intsOf, ih]
def bLen (κ : Ka) (ds : List D) : Option D := match ds with
  | [.str x] => if x.length ≤ 16777216 then some (.int x.length) else none
  | [.tup xs] => some (.int xs.length)
  | [.lst xs] => some (.int xs.length)
  | [.bor xs] => some (.int xs.length)
  | [.rol xs] => some (.int xs.length)
  | [.obj n] => match κ[n]? with
    | some (.lst xs) => some (.int xs.length)
    | _ => none
  | _ => none
def listK (κ : Ka) (d : D) : Option (List D) := match d with
  | .lst ds => some ds
  | .bor ds => some ds
  | .obj n => match κ[n]? with
    | some (.lst ds) => some ds
    | _ => none
  | _ => none
def itemsK (κ : Ka) (d : D) : Option (List D) := match d with
  | .tup ds => some ds
  | d => listK κ d
def maxL : List Int → Option Int
  | [] => none
  | n :: ns => some (ns.foldl (fun a b => if b > a then b else a) n)
def minL : List Int → Option Int
  | [] => none
  | n :: ns => some (ns.foldl (fun a b => if b < a then b else a) n)
def bMax (κ : Ka) (ds : List D) : Option D := match ds with
  | [.int i, .int j] => some (.int (if j > i then j else i))
  | [d] => ((listK κ d).bind intsOf).bind fun ns => (maxL ns).map D.int
  | _ => none
def bMin (κ : Ka) (ds : List D) : Option D := match ds with
  | [.int i, .int j] => some (.int (if j < i then j else i))
  | [d] => ((listK κ d).bind intsOf).bind fun ns => (minL ns).map D.int
  | _ => none
def bSum (κ : Ka) (ds : List D) : Option D := match ds with
  | [d] => ((listK κ d).bind intsOf).map fun ns => .int ns.sum
  | _ => none
def bAbs (_ : Ka) (ds : List D) : Option D := match ds with
  | [.int i] => some (.int (if i < 0 then -i else i))
  | _ => none
def bInt (_ : Ka) (ds : List D) : Option D := match ds with
  | [.int i] => some (.int i)
  | [.bl b] => some (.int (if b then 1 else 0))
  | _ => none
def bTuple (κ : Ka) (ds : List D) : Option D := match ds with
  | [d] => (itemsK κ d).map D.tup
  | _ => none
def bList (κ : Ka) (ds : List D) : Option (List D) := match ds with
  | [d] => itemsK κ d
  | _ => none
def tyName (κ : Ka) : D → Option String
  | .non => some "NoneType" | .bl _ => some "bool" | .int _ => some "int" | .str _ => some "str" | .tup _ => some "tuple" | .lst _ => some "list" | .bor _ => some "list" | .rol _ => none
  | .obj n => match κ[n]? with
    | some (.lst _) => some "list"
    | _ => none
def eIsi (T : String) (m : Ev D) : Ev D := fun ρ κ => (m ρ κ).bind fun d κ1 => rOf (((tyName κ1 d).bind fun a => kitB a T).map D.bl) κ1
theorem maxL_mem : ∀ {ns : List Int} {m : Int}, maxL ns = some m → m ∈ ns ∧ ∀ y ∈ ns, y ≤ m := by
  have key : ∀ (ns : List Int) (n : Int), (ns.foldl (fun a b => if b > a then b else a) n) ∈ n :: ns ∧ ∀ y ∈ n :: ns, y ≤ ns.foldl (fun a b => if b > a then b else a) n := by
    intro ns
    induction ns with
    | nil => intro n; simp
    | cons k ns ih =>
      intro n
      obtain ⟨h1, h2⟩ := ih (if k > n then k else n)
      simp only [List.foldl_cons]
      generalize hz : List.foldl (fun a b => if b > a then b else a) (if k > n then k else n) ns = z at h1 h2 ⊢
      have h3 := h2 (if k > n then k else n) (by simp)
      refine ⟨?_, fun y hy => ?_⟩
      · rcases List.mem_cons.mp h1 with e | e
        · rw [e]; split <;> simp
        · simp [e]
      · simp only [List.mem_cons] at hy
        rcases hy with rfl | rfl | hy
        · split at h3 <;> omega
        · split at h3 <;> omega
        · exact h2 y (by simp [hy])
  intro ns m h
  cases ns with
  | nil => cases h
  | cons n ns => cases h; exact key ns n
theorem minL_mem : ∀ {ns : List Int} {m : Int}, minL ns = some m → m ∈ ns ∧ ∀ y ∈ ns, m ≤ y := by
  have key : ∀ (ns : List Int) (n : Int), (ns.foldl (fun a b => if b < a then b else a) n) ∈ n :: ns ∧ ∀ y ∈ n :: ns, ns.foldl (fun a b => if b < a then b else a) n ≤ y := by
    intro ns
    induction ns with
    | nil => intro n; simp
    | cons k ns ih =>
      intro n
      obtain ⟨h1, h2⟩ := ih (if k < n then k else n)
      simp only [List.foldl_cons]
      generalize hz : List.foldl (fun a b => if b < a then b else a) (if k < n then k else n) ns = z at h1 h2 ⊢
      have h3 := h2 (if k < n then k else n) (by simp)
      refine ⟨?_, fun y hy => ?_⟩
      · rcases List.mem_cons.mp h1 with e | e
        · rw [e]; split <;> simp
        · simp [e]
      · simp only [List.mem_cons] at hy
        rcases hy with rfl | rfl | hy
        · split at h3 <;> omega
        · split at h3 <;> omega
        · exact h2 y (by simp [hy])
  intro ns m h
  cases ns with
  | nil => cases h
  | cons n ns => cases h; exact key ns n
theorem maxL_some {ns : List Int} (h : 0 < ns.length) : ∃ m, maxL ns = some m := by
  cases ns with
  | nil => simp at h
  | cons n ns => exact ⟨_, rfl⟩
theorem minL_some {ns : List Int} (h : 0 < ns.length) : ∃ m, minL ns = some m := by
  cases ns with
  | nil => simp at h
  | cons n ns => exact ⟨_, rfl⟩
section
variable {G : Gx} {W : XK} {X : Cx} {K : PySem.W.Frag} {α : List Addr} {F H : Hp} {κ : Ka} {Q : VK} {e a b c : Expr} {es : List Expr} {m ma mb mc : Ev D} {n : Ev (List D)} {pos p : Pos} {d : D} {ds : List D} {x : V} {vs : List V}
theorem rv_listK (w : Wd G K α F H κ) (r : Rv K α F H d x) (h : listK κ d = some ds) : ∃ a xs, x = .ref a ∧ H a = some (.lst xs) ∧ RpL K α F ds xs := by
  cases d with
  | obj n =>
    simp only [listK] at h
    split at h
    · rename_i hk
      cases h
      cases r with
      | obj ha => obtain ⟨xs, h1, q⟩ := w.cell ha hk; exact ⟨_, xs, rfl, h1, q⟩
    · cases h
  | lst ds => exact rv_list w r h
  | bor ds => exact rv_list w r h
  | _ => cases h
theorem rv_itemsK (w : Wd G K α F H κ) (r : Rv K α F H d x) (h : itemsK κ d = some ds) : ∃ a xs, x = .ref a ∧ (SqL K H a xs ∨ SqT K H a xs) ∧ RpL K α F ds xs := by
  cases d with
  | tup ds => cases h; obtain ⟨a, xs, e, h1, q⟩ := rv_tup w r; exact ⟨a, xs, e, .inr h1, q⟩
  | _ => obtain ⟨a, xs, e, h1, q⟩ := rv_listK w r h; exact ⟨a, xs, e, .inl (SqL.of h1), q⟩
/-- a built-in's call by what its meaning makes of data -/
def BiD (X : Cx) (r : List V → Hp → VK → Prop) (f : Ka → List D → Option D) : Prop := ∀ (G : Gx) (W : XK) (α : List Addr) (F H : Hp) (κ : Ka) (Q : VK) (ds : List D) (vs : List V), Wd G X.K α F H κ → RvL X.K α F H ds vs → PO G W X.K α F H Q (rOf (f κ ds) κ) → r vs H Q
theorem d_biB {id : String} {x : Str} {r : List V → Hp → VK → Prop} {f : Ka → List D → Option D} (hc : CallR X (.builtin id) r) (hf : BiD X r f) (hv : bootBuiltins x = some (.builtin id)) (hg : Gl X x) (hm : X.mg x = none) (ha : PDL G W X (e :: es) n)
    (hn : x ≠ "__name__" := by decide) (hdb : (x == ("__debug__" : Str)) = false := by decide)
    (he : starEach (e :: es) X.env = (false, eval e X.env) :: starEach es X.env := by rfl) (hpl : (backTo pos (starEach es X.env)).any (·.1) = false := by rfl) : PD G W X (.Call (.Name x p) (e :: es) [] pos) (eBi f n) :=
  ⟨pe_imp (pe_callB hc hg hm hv ha.run hn hdb he hpl) fun σ H Q ⟨α, F, ρ, κ, Bs, w, sl, h⟩ =>
    tL_mono (fun xs H1 ⟨α1, F1, κ1, ds, g1, w1, sl1, r1, h1⟩ => hf G W α1 F1 H1 κ1 Q ds xs w1 r1 h1) (tL_bind w sl h)⟩
theorem d_biT {T : String} {x : Str} {r : List V → Hp → VK → Prop} {f : Ka → List D → Option D} (hc : CallR X (.type T) r) (hf : BiD X r f) (hv : bootBuiltins x = some (.type T)) (hg : Gl X x) (hm : X.mg x = none) (ha : PDL G W X (e :: es) n)
    (hn : x ≠ "__name__" := by decide) (hdb : (x == ("__debug__" : Str)) = false := by decide)
    (he : starEach (e :: es) X.env = (false, eval e X.env) :: starEach es X.env := by rfl) (hpl : (backTo pos (starEach es X.env)).any (·.1) = false := by rfl) : PD G W X (.Call (.Name x p) (e :: es) [] pos) (eBi f n) :=
  ⟨pe_imp (pe_callTy hc hg hm hv ha.run hn hdb he hpl) fun σ H Q ⟨α, F, ρ, κ, Bs, w, sl, h⟩ =>
    tL_mono (fun xs H1 ⟨α1, F1, κ1, ds, g1, w1, sl1, r1, h1⟩ => hf G W α1 F1 H1 κ1 Q ds xs w1 r1 h1) (tL_bind w sl h)⟩
theorem rvl1 (r : RvL K α F H [d] vs) : ∃ x, vs = [x] ∧ Rv K α F H d x := by
  cases r with
  | cons h t => cases t; exact ⟨_, rfl, h⟩
theorem rvl2 {d e : D} (r : RvL K α F H [d, e] vs) : ∃ x y, vs = [x, y] ∧ Rv K α F H d x ∧ Rv K α F H e y := by
  cases r with
  | cons h t => cases t with | cons h2 t => cases t; exact ⟨_, _, rfl, h, h2⟩
theorem lenD : BiD X (fun xs H Q => ∃ x n, xs = [x] ∧ LenV X.K x H n ∧ Q (.int n) H) bLen := fun G W α F H κ Q ds vs w r h => by
  obtain ⟨z, hz, h⟩ := PO.of h
  unfold bLen at hz
  split at hz
  · split at hz
    · rename_i hl
      cases hz
      obtain ⟨x, rfl, rx⟩ := rvl1 r
      rw [rv_str rx]
      exact ⟨_, _, rfl, ⟨by rw [sizeLine_eq]; exact hl, rfl⟩, PO.now w h (.int _)⟩
    · cases hz
  · cases hz
    obtain ⟨x, rfl, rx⟩ := rvl1 r
    obtain ⟨a, xs, rfl, h1, q⟩ := rv_tup w rx
    exact ⟨_, _, rfl, .inr ⟨xs, h1, q.length⟩, PO.now w h (.int _)⟩
  · cases hz
    obtain ⟨x, rfl, rx⟩ := rvl1 r
    obtain ⟨a, xs, rfl, h1, q⟩ := rv_list w rx rfl
    exact ⟨_, _, rfl, .inl ⟨xs, SqL.of h1, q.length⟩, PO.now w h (.int _)⟩
  · cases hz
    obtain ⟨x, rfl, rx⟩ := rvl1 r
    obtain ⟨a, xs, rfl, h1, q⟩ := rv_list w rx rfl
    exact ⟨_, _, rfl, .inl ⟨xs, SqL.of h1, q.length⟩, PO.now w h (.int _)⟩
  · cases hz
    obtain ⟨x, rfl, rx⟩ := rvl1 r
    cases rx with
    | rol h1 q => exact ⟨_, _, rfl, .inl ⟨_, Same.seq w.sub h1, q.length⟩, PO.now w h (.int _)⟩
  · split at hz
    · rename_i n ds hk
      cases hz
      obtain ⟨x, rfl, rx⟩ := rvl1 r
      obtain ⟨a, xs, rfl, h1, q⟩ := rv_listK (ds := ds) w rx (by simp [listK, hk])
      exact ⟨_, _, rfl, .inl ⟨xs, SqL.of h1, q.length⟩, PO.now w h (.int _)⟩
    · cases hz
  · cases hz
theorem d_len (hg : Gl X "len") (hm : X.mg "len" = none) (ha : PDL G W X [e] n) (he : starEach [e] X.env = (false, eval e X.env) :: starEach [] X.env := by rfl) (hpl : (backTo pos (starEach [] X.env)).any (·.1) = false := by rfl) : PD G W X (.Call (.Name "len" p) [e] [] pos) (eBi bLen n) := d_biB call_len lenD PySem.boot_len hg hm ha (he := he) (hpl := hpl)
def rMaxX (K : PySem.W.Frag) : List V → Hp → VK → Prop := fun xs H Q => (∃ i j, xs = [.int i, .int j] ∧ Q (.int (if j > i then j else i)) H) ∨ rMax K xs H Q
def rMinX (K : PySem.W.Frag) : List V → Hp → VK → Prop := fun xs H Q => (∃ i j, xs = [.int i, .int j] ∧ Q (.int (if j < i then j else i)) H) ∨ rMin K xs H Q
theorem maxD : BiD X (rMaxX X.K) bMax := fun G W α F H κ Q ds vs w r h => by
  obtain ⟨z, hz, h⟩ := PO.of h
  unfold bMax at hz
  split at hz
  · cases hz
    obtain ⟨x, y, rfl, rx, ry⟩ := rvl2 r
    exact .inl ⟨_, _, by rw [rv_int rx, rv_int ry], PO.now w h (.int _)⟩
  · obtain ⟨ns, h1, h2⟩ := Option.bind_eq_some_iff.mp hz
    obtain ⟨us, h3, h4⟩ := Option.bind_eq_some_iff.mp h1
    obtain ⟨k, h5, rfl⟩ := Option.map_eq_some_iff.mp h2
    obtain ⟨x, rfl, rx⟩ := rvl1 r
    obtain ⟨a, xs, rfl, ha, q⟩ := rv_listK w rx h3
    rw [intsOf_eq h4] at q
    rw [q.ints] at ha
    obtain ⟨k1, k2⟩ := maxL_mem h5
    refine .inr ⟨a, ns, rfl, SqL.of ha, List.length_pos_of_mem k1, fun m hm hle => ?_⟩
    have e1 : m = k := Int.le_antisymm (k2 m hm) (hle k k1)
    rw [e1]
    exact PO.now w h (.int _)
  · cases hz
theorem minD : BiD X (rMinX X.K) bMin := fun G W α F H κ Q ds vs w r h => by
  obtain ⟨z, hz, h⟩ := PO.of h
  unfold bMin at hz
  split at hz
  · cases hz
    obtain ⟨x, y, rfl, rx, ry⟩ := rvl2 r
    exact .inl ⟨_, _, by rw [rv_int rx, rv_int ry], PO.now w h (.int _)⟩
  · obtain ⟨ns, h1, h2⟩ := Option.bind_eq_some_iff.mp hz
    obtain ⟨us, h3, h4⟩ := Option.bind_eq_some_iff.mp h1
    obtain ⟨k, h5, rfl⟩ := Option.map_eq_some_iff.mp h2
    obtain ⟨x, rfl, rx⟩ := rvl1 r
    obtain ⟨a, xs, rfl, ha, q⟩ := rv_listK w rx h3
    rw [intsOf_eq h4] at q
    rw [q.ints] at ha
    obtain ⟨k1, k2⟩ := minL_mem h5
    refine .inr ⟨a, ns, rfl, SqL.of ha, List.length_pos_of_mem k1, fun m hm hle => ?_⟩
    have e1 : m = k := Int.le_antisymm (hle k k1) (k2 m hm)
    rw [e1]
    exact PO.now w h (.int _)
  · cases hz
theorem sumD : BiD X (rSum X.K) bSum := fun G W α F H κ Q ds vs w r h => by
  obtain ⟨z, hz, h⟩ := PO.of h
  unfold bSum at hz
  split at hz
  · obtain ⟨ns, h1, rfl⟩ := Option.map_eq_some_iff.mp hz
    obtain ⟨us, h3, h4⟩ := Option.bind_eq_some_iff.mp h1
    obtain ⟨x, rfl, rx⟩ := rvl1 r
    obtain ⟨a, xs, rfl, ha, q⟩ := rv_listK w rx h3
    rw [intsOf_eq h4] at q
    rw [q.ints] at ha
    exact ⟨a, ns, rfl, SqL.of ha, PO.now w h (.int _)⟩
  · cases hz
theorem absD : BiD X (fun xs H Q => ∃ i, xs = [.int i] ∧ Q (.int (if i < 0 then -i else i)) H) bAbs := fun G W α F H κ Q ds vs w r h => by
  obtain ⟨z, hz, h⟩ := PO.of h
  unfold bAbs at hz
  split at hz
  · cases hz
    obtain ⟨x, rfl, rx⟩ := rvl1 r
    exact ⟨_, by rw [rv_int rx], PO.now w h (.int _)⟩
  · cases hz
theorem intBD : BiD X (fun xs H Q => (∃ i, xs = [.int i] ∧ Q (.int i) H) ∨ ∃ k, xs = [.bl k] ∧ Q (.int (if k then 1 else 0)) H) bInt := fun G W α F H κ Q ds vs w r h => by
  obtain ⟨z, hz, h⟩ := PO.of h
  unfold bInt at hz
  split at hz
  · cases hz
    obtain ⟨x, rfl, rx⟩ := rvl1 r
    exact .inl ⟨_, by rw [rv_int rx], PO.now w h (.int _)⟩
  · cases hz
    obtain ⟨x, rfl, rx⟩ := rvl1 r
    exact .inr ⟨_, by rw [rv_bl rx], PO.now w h (.int _)⟩
  · cases hz
theorem tupleD : BiD X (fun xs H Q => ∃ p ys, xs = [.ref p] ∧ ((SqL X.K H p ys ∧ ∀ l, H l = none → Q (.ref l) (upd H l (.tup ys))) ∨ (SqT X.K H p ys ∧ Q (.ref p) H))) bTuple := fun G W α F H κ Q ds vs w r h => by
  obtain ⟨z, hz, hh⟩ := PO.of h
  clear h
  unfold bTuple at hz
  split at hz
  · rename_i d
    obtain ⟨us, h3, rfl⟩ := Option.map_eq_some_iff.mp hz
    obtain ⟨x, rfl, rx⟩ := rvl1 r
    cases d with
    | tup ts =>
      cases h3
      obtain ⟨a, xs, rfl, h1, q⟩ := rv_tup w rx
      exact ⟨a, xs, rfl, .inr ⟨h1, PO.now w hh rx⟩⟩
    | _ =>
      obtain ⟨a, xs, rfl, ha, q⟩ := rv_listK w rx h3
      exact ⟨a, xs, rfl, .inl ⟨SqL.of ha, fun l hl => PO.tupNew w hh q hl⟩⟩
  · cases hz
theorem d_max (hc : X.calm = true) (hg : Gl X "max") (hm : X.mg "max" = none) (ha : PDL G W X (e :: es) n) (he : starEach (e :: es) X.env = (false, eval e X.env) :: starEach es X.env := by rfl) (hpl : (backTo pos (starEach es X.env)).any (·.1) = false := by rfl) :
    PD G W X (.Call (.Name "max" p) (e :: es) [] pos) (eBi bMax n) := d_biB (CallR.or (call_max2 hc) (cr_max hc)) maxD PyProof.Rows.boot_max hg hm ha (he := he) (hpl := hpl)
theorem d_min (hc : X.calm = true) (hg : Gl X "min") (hm : X.mg "min" = none) (ha : PDL G W X (e :: es) n) (he : starEach (e :: es) X.env = (false, eval e X.env) :: starEach es X.env := by rfl) (hpl : (backTo pos (starEach es X.env)).any (·.1) = false := by rfl) :
    PD G W X (.Call (.Name "min" p) (e :: es) [] pos) (eBi bMin n) := d_biB (CallR.or (call_min2 hc) (cr_min hc)) minD PyProof.Rows.boot_min hg hm ha (he := he) (hpl := hpl)
theorem d_sum (hc : X.calm = true) (hg : Gl X "sum") (hm : X.mg "sum" = none) (ha : PDL G W X [e] n) (he : starEach [e] X.env = (false, eval e X.env) :: starEach [] X.env := by rfl) (hpl : (backTo pos (starEach [] X.env)).any (·.1) = false := by rfl) :
    PD G W X (.Call (.Name "sum" p) [e] [] pos) (eBi bSum n) := d_biB (cr_sum hc) sumD PyProof.Rows.boot_sum hg hm ha (he := he) (hpl := hpl)
theorem d_abs (hg : Gl X "abs") (hm : X.mg "abs" = none) (ha : PDL G W X [e] n) (he : starEach [e] X.env = (false, eval e X.env) :: starEach [] X.env := by rfl) (hpl : (backTo pos (starEach [] X.env)).any (·.1) = false := by rfl) :
    PD G W X (.Call (.Name "abs" p) [e] [] pos) (eBi bAbs n) := d_biB call_abs absD PyProof.Rows.boot_abs hg hm ha (he := he) (hpl := hpl)
theorem d_int1 (hg : Gl X "int") (hm : X.mg "int" = none) (ha : PDL G W X [e] n) (he : starEach [e] X.env = (false, eval e X.env) :: starEach [] X.env := by rfl) (hpl : (backTo pos (starEach [] X.env)).any (·.1) = false := by rfl) :
    PD G W X (.Call (.Name "int" p) [e] [] pos) (eBi bInt n) := d_biT call_int1 intBD (by decide +kernel) hg hm ha (he := he) (hpl := hpl)
theorem d_tuple (hg : Gl X "tuple") (hm : X.mg "tuple" = none) (ha : PDL G W X [e] n) (he : starEach [e] X.env = (false, eval e X.env) :: starEach [] X.env := by rfl) (hpl : (backTo pos (starEach [] X.env)).any (·.1) = false := by rfl) :
    PD G W X (.Call (.Name "tuple" p) [e] [] pos) (eBi bTuple n) := d_biT call_tuple_of tupleD (by decide +kernel) hg hm ha (he := he) (hpl := hpl)
theorem d_list (hg : Gl X "list") (hm : X.mg "list" = none) (ha : PDL G W X [e] n) (he : starEach [e] X.env = (false, eval e X.env) :: starEach [] X.env := by rfl) (hpl : (backTo pos (starEach [] X.env)).any (·.1) = false := by rfl) :
    PF G W X (.Call (.Name "list" p) [e] [] pos) (fBi bList n) :=
  ⟨pe_imp (pe_callTy call_list_of hg hm (by decide +kernel) ha.run (he := he) (hpl := hpl)) fun σ H Q ⟨α, F, ρ, κ, Bs, w, sl, h⟩ =>
    tL_mono (fun xs H1 ⟨α1, F1, κ1, ds, g1, w1, sl1, r1, h1⟩ => by
      rcases hb : bList κ1 ds with _ | ys
      · rw [hb] at h1; exact h1.elim
      · rw [hb] at h1
        unfold bList at hb
        split at hb
        · obtain ⟨x, rfl, rx⟩ := rvl1 r1
          obtain ⟨a, xs, rfl, hs, q⟩ := rv_itemsK w1 rx hb
          exact ⟨a, xs, rfl, hs, fun l hl => POF.lstNew w1 h1 q hl⟩
        · cases hb) (tL_bindF w sl h)⟩
theorem ty_of (w : Wd G K α F H κ) (r : Rv K α F H d x) {T : String} (h : tyName κ d = some T) : TyX K H x (.type T) := by
  cases d with
  | non => cases r; cases h; exact .base .non
  | bl => cases r; cases h; exact .base (.bl _)
  | int => cases r; cases h; exact .base (.int _)
  | str => cases r; cases h; exact .base (.str _)
  | tup ds =>
    cases h
    obtain ⟨a, xs, rfl, h1, q⟩ := rv_tup w r
    rcases h1 with (h1 | ⟨o, h1⟩) | ⟨o, its, n, h1, h2, _⟩
    · exact .base (.tup h1)
    · exact .fTuple h1
    · exact .kTuple h1 h2
  | lst ds => cases h; obtain ⟨a, xs, rfl, h1, q⟩ := rv_list w r rfl; exact .base (.lst h1)
  | bor ds => cases h; obtain ⟨a, xs, rfl, h1, q⟩ := rv_list w r rfl; exact .base (.lst h1)
  | rol ds => cases h
  | obj n =>
    simp only [tyName] at h
    split at h
    · rename_i ds hk
      cases h
      obtain ⟨a, xs, rfl, h1, q⟩ := rv_listK (ds := ds) w r (by simp [listK, hk])
      exact .base (.lst h1)
    · cases h
theorem d_isi {T : Str} {Ts : String} {p2 : Pos} (hT : bootBuiltins T = some (.type Ts)) (hg2 : Gl X T) (hm2 : X.mg T = none) (hg : Gl X "isinstance") (hm : X.mg "isinstance" = none) (ha : PD G W X a ma)
    (hn : T ≠ "__name__" := by decide) (hdb : (T == ("__debug__" : Str)) = false := by decide)
    (hs : starEach [a, .Name T p2] X.env = (false, eval a X.env) :: starEach [.Name T p2] X.env := by rfl) (hs2 : starEach [.Name T p2] X.env = (false, eval (.Name T p2) X.env) :: starEach [] X.env := by rfl)
    (hpl : (backTo pos (starEach [.Name T p2] X.env)).any (·.1) = false := by rfl) :
    PD G W X (.Call (.Name "isinstance" p) [a, .Name T p2] [] pos) (eIsi Ts ma) :=
  ⟨pe_imp (pe_callB call_isi hg hm PyProof.Rows.boot_isinstance (pa_cons ha.run (pa_cons (pe_bltn hg2 hm2 hT (v := .ty Ts) rfl hn hdb) pa_nil hs2) hs) (hpl := hpl) (he := hs)) fun σ H Q ⟨α, F, ρ, κ, Bs, w, sl, h⟩ =>
    tD_mono (fun x H1 ⟨α1, F1, κ1, d, g1, w1, sl1, r1, h1⟩ => by
      obtain ⟨b, hb, q⟩ := PO.bl w1 h1
      obtain ⟨t, h2, h3⟩ := Option.bind_eq_some_iff.mp hb
      exact ⟨x, .ty Ts, _, _, b, rfl, .ty Ts, ty_of w1 r1 h2, kit_ty h3, q⟩) (tD_bind w sl h)⟩
end

/-! ### what is walked -/
structure Exn (α : List Addr) (F : Hp) (α' : List Addr) (F' : Hp) : Prop where
  al : ∃ β, α' = α ++ β
  fr : Same F F'
theorem Gr.exn {α α' : List Addr} {F F' H H' : Hp} (g : Gr α F H α' F' H') : Exn α F α' F' := ⟨let ⟨β, e, _⟩ := g.al; ⟨β, e⟩, g.fr⟩
theorem Exn.refl (α : List Addr) (F : Hp) : Exn α F α F := ⟨⟨[], by simp⟩, Same.refl _⟩
theorem Exn.trans {α α1 α2 : List Addr} {F F1 F2 : Hp} (a : Exn α F α1 F1) (b : Exn α1 F1 α2 F2) : Exn α F α2 F2 := by
  refine ⟨?_, a.fr.trans b.fr⟩
  obtain ⟨β, rfl⟩ := a.al
  obtain ⟨γ, rfl⟩ := b.al
  exact ⟨β ++ γ, by simp⟩
theorem RpL.exn {K : PySem.W.Frag} {α α' : List Addr} {F F' : Hp} {ds : List D} {vs : List V} (g : Exn α F α' F') (r : RpL K α F ds vs) : RpL K α' F' ds vs := by
  obtain ⟨β, rfl⟩ := g.al
  exact r.mono g.fr
/-- the worlds in which the walked thing stands: what grows only (l), or where what is not data may have changed too -/
def Later (l : Bool) (α : List Addr) (F H : Hp) (α1 : List Addr) (F1 H1 : Hp) : Prop := if l = true then Gr α F H α1 F1 H1 else Exn α F α1 F1
theorem Later.exn {l : Bool} {α α1 : List Addr} {F F1 H H1 : Hp} (h : Later l α F H α1 F1 H1) : Exn α F α1 F1 := by
  cases l with
  | true => exact Gr.exn h
  | false => exact h
theorem Gr.later {l : Bool} {α α1 : List Addr} {F F1 H H1 : Hp} (h : Gr α F H α1 F1 H1) : Later l α F H α1 F1 H1 := by
  cases l with
  | true => exact h
  | false => exact h.exn
structure ItOk (G : Gx) (K : PySem.W.Frag) (l : Bool) (α : List Addr) (F H : Hp) (J : It) (ds : List D) : Prop where
  go : ∀ α1 F1 H1 κ1, Later l α F H α1 F1 H1 → Wd G K α1 F1 H1 κ1 → ∀ (i : Nat) (d : D), ds[i]? = some d → J.go i H1 ∧ ∀ x H2, J.yld i H1 x H2 → ∃ F2, Gr α1 F1 H1 α1 F2 H2 ∧ Wd G K α1 F2 H2 κ1 ∧ Rp K α1 F2 d x
  stop : ∀ α1 F1 H1 κ1, Later l α F H α1 F1 H1 → Wd G K α1 F1 H1 κ1 → J.stop ds.length H1
def POI (G : Gx) (W : XK) (K : PySem.W.Frag) (l : Bool) (α : List Addr) (F H : Hp) (R : It → Hp → Prop) : Re (List D) → Prop
  | none => False
  | some (o, κ') => ∀ α' F' H', Gr α F H α' F' H' → Wd G K α' F' H' κ' → match o with
    | .ok ds => ∀ J, ItOk G K l α' F' H' J ds → R J H'
    | .er c => W (.ref (G.exc c)) none H'
def tI (G : Gx) (W : XK) (K : PySem.W.Frag) (l : Bool) (m : Ev (List D)) : TI := fun σ H R => ∃ α F ρ κ Bs, Wd G K α F H κ ∧ Sls K α F H Bs ρ σ ∧ POI G W K l α F H R (m ρ κ)
structure PDI (G : Gx) (W : XK) (X : Cx) (l : Bool) (tg e : Expr) (m : Ev (List D)) : Prop where
  run : PI X tg e (tI G W X.K l m)
theorem pi_imp {X : Cx} {tg e : Expr} {t t' : TI} (h : PI X tg e t) (hi : ∀ σ H Q, t' σ H Q → t σ H Q) : PI X tg e t' := ⟨fun pins s σ H Q I q => h.run pins s σ H Q I (hi σ H Q q)⟩
section
variable {G : Gx} {W : XK} {K : PySem.W.Frag} {α α' : List Addr} {F F' H H' : Hp} {κ : Ka} {σ : L2.St} {ρ : List Sl} {Bs : Hp} {l : Bool} {R : It → Hp → Prop}
theorem POI.gr {r : Re (List D)} (g : Gr α F H α' F' H') (h : POI G W K l α F H R r) : POI G W K l α' F' H' R r := by
  rcases r with _ | ⟨o, κ'⟩
  · exact h
  · exact fun α2 F2 H2 g2 w2 => h α2 F2 H2 (g.trans g2) w2
theorem tD_bindI {m : Ev D} {f : D → Ka → Re (List D)} (w : Wd G K α F H κ) (sl : Sls K α F H Bs ρ σ) (h : POI G W K l α F H R ((m ρ κ).bind f)) :
    tD G W K m σ H fun x H1 => ∃ α1 F1 κ1 d, Gr α F H α1 F1 H1 ∧ Wd G K α1 F1 H1 κ1 ∧ Sls K α1 F1 H1 Bs ρ σ ∧ Rv K α1 F1 H1 d x ∧ POI G W K l α1 F1 H1 R (f d κ1) := by
  refine ⟨α, F, ρ, κ, Bs, w, sl, ?_⟩
  rcases hm : m ρ κ with _ | ⟨o, κ'⟩
  · rw [hm] at h; exact h
  · rw [hm] at h
    cases o with
    | ok d => exact fun α' F' H' g w' v r => ⟨α', F', κ', d, g, w', sl.gr g, r, POI.gr g h⟩
    | er c => exact h
theorem tL_bindI {m : Ev (List D)} {f : List D → Ka → Re (List D)} (w : Wd G K α F H κ) (sl : Sls K α F H Bs ρ σ) (h : POI G W K l α F H R ((m ρ κ).bind f)) :
    tL G W K m σ H fun x H1 => ∃ α1 F1 κ1 d, Gr α F H α1 F1 H1 ∧ Wd G K α1 F1 H1 κ1 ∧ Sls K α1 F1 H1 Bs ρ σ ∧ RvL K α1 F1 H1 d x ∧ POI G W K l α1 F1 H1 R (f d κ1) := by
  refine ⟨α, F, ρ, κ, Bs, w, sl, ?_⟩
  rcases hm : m ρ κ with _ | ⟨o, κ'⟩
  · rw [hm] at h; exact h
  · rw [hm] at h
    cases o with
    | ok d => exact fun α' F' H' g w' v r => ⟨α', F', κ', d, g, w', sl.gr g, r, POI.gr g h⟩
    | er c => exact h
theorem POI.now {J : It} {ds : List D} (w : Wd G K α F H κ) (h : POI G W K l α F H R (some (.ok ds, κ))) (j : ItOk G K l α F H J ds) : R J H := h α F H (Gr.refl _ _ _) w J j
end
def rOfL (o : Option (List D)) (κ : Ka) : Re (List D) := match o with
  | some ds => some (.ok ds, κ)
  | none => none
def walkD (l : Bool) (d : D) : Option (List D) := match d with
  | .tup ds => some ds
  | .lst ds => some ds
  | .bor ds => if l = true then some ds else none
  | .str z => some (z.cps.toList.map fun c => .str ⟨#[c]⟩)
  | _ => none
def iAny (l : Bool) (m : Ev D) : Ev (List D) := fun ρ κ => (m ρ κ).bind fun d κ1 => rOfL (walkD l d) κ1
def rangeD (lo hi : Int) : List D := (List.range (hi - lo).toNat).map fun (k : Nat) => .int (lo + (k : Int))
def okR (i : Int) : Prop := -(4611686018427387904) ≤ i ∧ i < 4611686018427387904
instance (i : Int) : Decidable (okR i) := Classical.propDecidable _
def bRange1 (ds : List D) : Option (List D) := match ds with
  | [.int j] => if okR j then some (rangeD 0 j) else none
  | _ => none
def bRange2 (ds : List D) : Option (List D) := match ds with
  | [.int i, .int j] => if okR i ∧ okR j then some (rangeD i j) else none
  | _ => none
def rangeC (lo hi c : Int) : List D := (List.range (Builtin.Range.rangeSize lo hi c).toNat).map fun (k : Nat) => .int (lo + (k : Int) * c)
/-- range(i, j, -1) -/
def bRange3 (ds : List D) : Option (List D) := match ds with
  | [.int i, .int j, .int c] => if okR i ∧ okR j ∧ c = -1 then some ((List.range (i - j).toNat).map fun (k : Nat) => .int (i + (k : Int) * -1)) else none
  | _ => none
def iRange1 (n : Ev (List D)) : Ev (List D) := fun ρ κ => (n ρ κ).bind fun ds κ1 => rOfL (bRange1 ds) κ1
def iRange2 (n : Ev (List D)) : Ev (List D) := fun ρ κ => (n ρ κ).bind fun ds κ1 => rOfL (bRange2 ds) κ1
def iRange3 (n : Ev (List D)) : Ev (List D) := fun ρ κ => (n ρ κ).bind fun ds κ1 => rOfL (bRange3 ds) κ1
section
variable {G : Gx} {W : XK} {X : Cx} {K : PySem.W.Frag} {α : List Addr} {F H : Hp} {κ : Ka} {e a b c : Expr} {es : List Expr} {m ma mb mc : Ev D} {n : Ev (List D)} {pos p : Pos} {d : D} {ds : List D} {x : V} {vs : List V} {l : Bool} {tg : Expr}
/-- a walked list, tuple or text -/
def iAnyR (K : PySem.W.Frag) (te : TE) : TI := fun σ H R => te σ H fun x H1 => (∃ a xs, x = .ref a ∧ SqL K H1 a xs ∧ R (Itl K a) H1) ∨ (∃ a xs, x = .ref a ∧ SqT K H1 a xs ∧ R (Itt K a) H1) ∨ ∃ z, x = .str z ∧ R (Its z) H1
theorem pi_any {te : TE} (he : PE X e te) : PI X tg e (iAnyR X.K te) := by
  refine ⟨fun pins s σ H R I h => ?_⟩
  refine thn (he.run pins s σ H _ I h) fun v s1 ⟨x, H1, I1, r1, q1⟩ => ?_
  rcases q1 with ⟨a, xs, rfl, hq, q⟩ | ⟨a, xs, rfl, hq, q⟩ | ⟨z, rfl, q⟩
  · cases r1
    obtain ⟨its, rv, p, hz⟩ := I1.list hq
    refine wpAny_pyIter_list p.isList ?_
    refine ⟨s1.heap.objs.size, [s1.heap.objs.size], _, _, H1, rfl, I1.kept (t' := s1.toks) fun b o e => Heap.get?_push_of_some _ e, turn_list a _, ⟨_, Heap.get?_push_size _ rfl, rfl, rfl⟩, fun b hb => ?_, q⟩
    have e : b = s1.heap.objs.size := by simpa using hb
    subst e
    exact I1.fpOk (Nat.le_refl _) (I1.hok.fresh (Nat.le_refl _))
  · cases r1
    obtain ⟨its, rv, p, hz⟩ := I1.tuple hq
    refine wpAny_pyIter_tuple (show s1.heap.IsTuple a its.toArray from p) ?_
    refine ⟨s1.heap.objs.size, [s1.heap.objs.size], _, _, H1, rfl, I1.kept (t' := s1.toks) fun b o e => Heap.get?_push_of_some _ e, turn_tuple a _, ⟨_, Heap.get?_push_size _ rfl, rfl, rfl⟩, fun b hb => ?_, q⟩
    have e : b = s1.heap.objs.size := by simpa using hb
    subst e
    exact I1.fpOk (Nat.le_refl _) (I1.hok.fresh (Nat.le_refl _))
  · obtain ⟨t, rfl⟩ := r1
    cases ha : z.cps.all (· < 128)
    · exact wpAny_pyIter_wide ha (pi_one (tk := s1.toks) I1 _ (turn_str _ z t "str_iterator" (.inr rfl)) ⟨_, Heap.get?_push_size _ rfl, rfl, rfl⟩ q)
    · exact wpAny_pyIter_ascii ha (pi_one (tk := s1.toks) I1 _ (turn_str _ z t "str_ascii_iterator" (.inl rfl)) ⟨_, Heap.get?_push_size _ rfl, rfl, rfl⟩ q)
theorem Gr.stay (w : Wd G K α F H κ) {i : Nat} {d : D} {x : V} (h : Rp K α F d x) : ∃ F2, Gr α F H α F2 H ∧ Wd G K α F2 H κ ∧ Rp K α F2 d x := ⟨F, Gr.refl _ _ _, w, h⟩
theorem itOk_list {a : Addr} {xs : List V} (h : F a = some (.lst xs)) (r : RpL K α F ds xs) : ItOk G K l α F H (Itl K a) ds where
  go := fun α1 F1 H1 κ1 lt w i d hd => by
    have ha : SqL K H1 a xs := SqL.of_sub w.sub (lt.exn.fr _ _ h)
    obtain ⟨v, hv, rv⟩ := (r.exn lt.exn).get hd
    refine ⟨⟨xs, v, ha, hv⟩, fun x H2 hy => ?_⟩
    obtain ⟨rfl, fy⟩ := hy
    have e := fy xs ha
    rw [hv] at e; cases e
    exact ⟨F1, Gr.refl _ _ _, w, rv⟩
  stop := fun α1 F1 H1 κ1 lt w => ⟨xs, SqL.of_sub w.sub (lt.exn.fr _ _ h), by rw [r.length]; exact Nat.le_refl _⟩
theorem itOk_tup {a : Addr} {xs : List V} (h : SqT K F a xs) (r : RpL K α F ds xs) : ItOk G K l α F H (Itt K a) ds where
  go := fun α1 F1 H1 κ1 lt w i d hd => by
    have ha : SqT K H1 a xs := same_tup w.sub (same_tup lt.exn.fr h)
    obtain ⟨v, hv, rv⟩ := (r.exn lt.exn).get hd
    refine ⟨⟨xs, v, ha, hv⟩, fun x H2 hy => ?_⟩
    obtain ⟨rfl, fy⟩ := hy
    have e := fy xs ha
    rw [hv] at e; cases e
    exact ⟨F1, Gr.refl _ _ _, w, rv⟩
  stop := fun α1 F1 H1 κ1 lt w => ⟨xs, same_tup w.sub (same_tup lt.exn.fr h), by rw [r.length]; exact Nat.le_refl _⟩
theorem itOk_bor {a : Addr} {xs : List V} (h : H a = some (.lst xs)) (n : a ∉ α) (r : RpL K α F ds xs) : ItOk G K true α F H (Itl K a) ds where
  go := fun α1 F1 H1 κ1 lt w i d hd => by
    have lt : Gr α F H α1 F1 H1 := lt
    have ha : SqL K H1 a xs := SqL.of (lt.ke _ _ h n)
    obtain ⟨v, hv, rv⟩ := (r.exn lt.exn).get hd
    refine ⟨⟨xs, v, ha, hv⟩, fun x H2 hy => ?_⟩
    obtain ⟨rfl, fy⟩ := hy
    have e := fy xs ha
    rw [hv] at e; cases e
    exact ⟨F1, Gr.refl _ _ _, w, rv⟩
  stop := fun α1 F1 H1 κ1 lt w => ⟨xs, SqL.of (Gr.ke (show Gr α F H α1 F1 H1 from lt) _ _ h n), by rw [r.length]; exact Nat.le_refl _⟩
theorem itOk_str (z : Str) : ItOk G K l α F H (Its z) (z.cps.toList.map fun c => .str ⟨#[c]⟩) where
  go := fun α1 F1 H1 κ1 lt w i d hd => by
    rw [List.getElem?_map] at hd
    obtain ⟨c, hc, rfl⟩ := Option.map_eq_some_iff.mp hd
    have hc' : z.cps[i]? = some c := by simpa using hc
    refine ⟨(Array.getElem?_eq_some_iff.mp hc').1, fun x H2 hy => ?_⟩
    obtain ⟨rfl, c', e, rfl⟩ := hy
    rw [hc'] at e; cases e
    exact ⟨F1, Gr.refl _ _ _, w, .str _⟩
  stop := fun α1 F1 H1 κ1 lt w => by show z.cps.size ≤ _; simp
theorem itOk_range (lo : Int) (n : Nat) : ItOk G K l α F H (Itr lo n) ((List.range n).map fun (k : Nat) => .int (lo + (k : Int))) where
  go := fun α1 F1 H1 κ1 lt w i d hd => by
    rw [List.getElem?_map] at hd
    obtain ⟨c, hc, rfl⟩ := Option.map_eq_some_iff.mp hd
    obtain ⟨h1, h2⟩ := List.getElem?_eq_some_iff.mp hc
    have h3 : i < n := by simpa using h1
    have h4 : c = i := by rw [List.getElem_range] at h2; exact h2.symm
    subst h4
    refine ⟨h3, fun x H2 hy => ?_⟩
    obtain ⟨rfl, rfl⟩ := hy
    exact ⟨F1, Gr.refl _ _ _, w, .int _⟩
  stop := fun α1 F1 H1 κ1 lt w => by show n ≤ _; simp
theorem d_iter (ha : PD G W X a ma) : PDI G W X l tg a (iAny l ma) :=
  ⟨pi_imp (pi_any ha.run) fun σ H R ⟨α, F, ρ, κ, Bs, w, sl, h⟩ =>
    tD_mono (fun x H1 ⟨α1, F1, κ1, d, g1, w1, sl1, r1, h1⟩ => by
      cases d with
      | tup ds =>
        cases r1 with
        | tup hs q => exact .inr (.inl ⟨_, _, rfl, same_tup w1.sub hs, POI.now w1 h1 (itOk_tup hs q)⟩)
      | lst ds =>
        cases r1 with
        | lst hs q => exact .inl ⟨_, _, rfl, SqL.of_sub w1.sub hs, POI.now w1 h1 (itOk_list hs q)⟩
      | bor ds =>
        obtain ⟨p, xs, rfl, h2, h3, h4, q⟩ := r1
        cases l with
        | false => exact h1.elim
        | true => exact .inl ⟨_, _, rfl, SqL.of h2, POI.now w1 h1 (itOk_bor h2 h3 q)⟩
      | str z => exact .inr (.inr ⟨z, rv_str r1, POI.now w1 h1 (itOk_str z)⟩)
      | non => exact h1.elim
      | bl => exact h1.elim
      | int => exact h1.elim
      | obj => exact h1.elim
      | rol => exact h1.elim) (tD_bindI w sl h)⟩
theorem itOk_rangeC (lo c : Int) (n : Nat) : ItOk G K l α F H (Itc lo c n) ((List.range n).map fun (k : Nat) => .int (lo + (k : Int) * c)) where
  go := fun α1 F1 H1 κ1 lt w i d hd => by
    rw [List.getElem?_map] at hd
    obtain ⟨k, hc, rfl⟩ := Option.map_eq_some_iff.mp hd
    obtain ⟨h1, h2⟩ := List.getElem?_eq_some_iff.mp hc
    have h3 : i < n := by simpa using h1
    have h4 : k = i := by rw [List.getElem_range] at h2; exact h2.symm
    subst h4
    refine ⟨h3, fun x H2 hy => ?_⟩
    obtain ⟨rfl, rfl⟩ := hy
    exact ⟨F1, Gr.refl _ _ _, w, .int _⟩
  stop := fun α1 F1 H1 κ1 lt w => by show n ≤ _; simp
theorem d_range1 (hg : Gl X "range") (hm : X.mg "range" = none) (ha : PDL G W X [a] n) (hs : starEach [a] X.env = [(false, eval a X.env)] := by rfl) : PDI G W X l tg (.Call (.Name "range" p) [a] [] pos) (iRange1 n) :=
  ⟨pi_imp (pi_range1 hg hm ha.run hs) fun σ H R ⟨α, F, ρ, κ, Bs, w, sl, h⟩ =>
    tL_mono (fun xs H1 ⟨α1, F1, κ1, ds, g1, w1, sl1, r1, h1⟩ => by
      rcases hb : bRange1 ds with _ | ys
      · rw [hb] at h1; exact h1.elim
      · rw [hb] at h1
        unfold bRange1 at hb
        split at hb
        · split at hb
          · rename_i j hj
            cases hb
            obtain ⟨x, rfl, rx⟩ := rvl1 r1
            refine ⟨j, by rw [rv_int rx], hj.1, hj.2, POI.now w1 h1 ?_⟩
            have := itOk_range (G := G) (K := X.K) (l := l) (α := α1) (F := F1) (H := H1) 0 j.toNat
            unfold rangeD
            rw [Int.sub_zero]
            exact this
          · cases hb
        · cases hb) (tL_bindI w sl h)⟩
theorem d_range2 (hg : Gl X "range") (hm : X.mg "range" = none) (ha : PDL G W X [a, b] n) (hs : starEach [a, b] X.env = [(false, eval a X.env), (false, eval b X.env)] := by rfl) (hs2 : starEach [b] X.env = [(false, eval b X.env)] := by rfl) : PDI G W X l tg (.Call (.Name "range" p) [a, b] [] pos) (iRange2 n) :=
  ⟨pi_imp (pi_range2 hg hm ha.run hs hs2) fun σ H R ⟨α, F, ρ, κ, Bs, w, sl, h⟩ =>
    tL_mono (fun xs H1 ⟨α1, F1, κ1, ds, g1, w1, sl1, r1, h1⟩ => by
      rcases hb : bRange2 ds with _ | ys
      · rw [hb] at h1; exact h1.elim
      · rw [hb] at h1
        unfold bRange2 at hb
        split at hb
        · split at hb
          · rename_i i j hj
            cases hb
            obtain ⟨x, y, rfl, rx, ry⟩ := rvl2 r1
            exact ⟨i, j, by rw [rv_int rx, rv_int ry], ⟨hj.1.1, hj.1.2, hj.2.1, hj.2.2⟩, POI.now w1 h1 (itOk_range i (j - i).toNat)⟩
          · cases hb
        · cases hb) (tL_bindI w sl h)⟩
theorem rvl3 {d e f : D} (r : RvL K α F H [d, e, f] vs) : ∃ x y z, vs = [x, y, z] ∧ Rv K α F H d x ∧ Rv K α F H e y ∧ Rv K α F H f z := by
  cases r with
  | cons h t => cases t with | cons h2 t => cases t with | cons h3 t => cases t; exact ⟨_, _, _, rfl, h, h2, h3⟩
theorem d_range3 (hg : Gl X "range") (hm : X.mg "range" = none) (ha : PDL G W X [a, b, c] n) (hs : starEach [a, b, c] X.env = (false, eval a X.env) :: starEach [b, c] X.env := by rfl) (hpl : (backTo pos (starEach [b, c] X.env)).any (·.1) = false := by rfl) : PDI G W X l tg (.Call (.Name "range" p) [a, b, c] [] pos) (iRange3 n) :=
  ⟨pi_imp (pi_range3 hg hm ha.run hs hpl) fun σ H R ⟨α, F, ρ, κ, Bs, w, sl, h⟩ =>
    tL_mono (fun xs H1 ⟨α1, F1, κ1, ds, g1, w1, sl1, r1, h1⟩ => by
      rcases hb : bRange3 ds with _ | ys
      · rw [hb] at h1; exact h1.elim
      · rw [hb] at h1
        unfold bRange3 at hb
        split at hb
        · split at hb
          · rename_i i j c hj
            obtain ⟨hj1, hj2, rfl⟩ := hj
            cases hb
            obtain ⟨x, y, z, rfl, rx, ry, rz⟩ := rvl3 r1
            exact ⟨i, j, -1, _, by rw [rv_int rx, rv_int ry, rv_int rz], RgC.neg hj1.1 hj1.2 hj2.1 hj2.2, POI.now w1 h1 (itOk_rangeC i (-1) (i - j).toNat)⟩
          · cases hb
        · cases hb) (tL_bindI w sl h)⟩
end
end
end DL
set_option Elab.async false
set_option linter.all false
set_option maxRecDepth 100000
set_option maxHeartbeats 4000000
/-! DL5: targets, comprehensions, statements, defs. -/
namespace DL
noncomputable section
open PySem PySem.Spec PyProof.Rows L2

/-! ### slots -/
section
variable {K : PySem.W.Frag} {α : List Addr} {F H Bs : Hp} {ρ : List Sl} {σ : L2.St} {d : D} {v : V} {G : Gx} {κ : Ka}
theorem Sls.set (h : Sls K α F H Bs ρ σ) (i : Nat) {s : Sl} {o : Option V} (so : SlOk K α F H Bs s o)
    (sp : ∀ ds, s = .own ds → ∀ (j : Nat) (es : List D) (a : Addr), ρ[j]? = some (.own es) → σ[j]? = some (some (.ref a)) → o ≠ some (.ref a)) : Sls K α F H Bs (ρ.set i s) (σ.set i o) := by
  refine ⟨by simp [h.len], fun j t e => ?_, fun j k a ds es e1 e2 e3 e4 => ?_⟩
  · by_cases hj : i = j
    · subst hj
      by_cases hi : i < ρ.length
      · rw [List.getElem?_set_self hi] at e; cases e
        exact ⟨o, List.getElem?_set_self (by rw [← h.len]; exact hi), so⟩
      · rw [List.getElem?_eq_none (by simpa using hi)] at e; cases e
    · rw [List.getElem?_set_ne hj] at e
      rw [List.getElem?_set_ne hj]
      exact h.at' j t e
  · by_cases hj : i = j
    · by_cases hk : i = k
      · exact hj.symm.trans hk
      · exfalso
        subst hj
        have hi : i < ρ.length := by
          refine Nat.lt_of_not_le fun q => ?_
          rw [List.getElem?_eq_none (by simpa using q)] at e1; cases e1
        rw [List.getElem?_set_self hi] at e1
        rw [List.getElem?_set_self (by rw [← h.len]; exact hi)] at e3
        rw [List.getElem?_set_ne hk] at e2 e4
        cases e1
        exact sp ds rfl k es a e2 e4 (Option.some.inj e3)
    · by_cases hk : i = k
      · exfalso
        subst hk
        have hi : i < ρ.length := by
          refine Nat.lt_of_not_le fun q => ?_
          rw [List.getElem?_eq_none (by simpa using q)] at e2; cases e2
        rw [List.getElem?_set_self hi] at e2
        rw [List.getElem?_set_self (by rw [← h.len]; exact hi)] at e4
        rw [List.getElem?_set_ne hj] at e1 e3
        cases e2
        exact sp es rfl j ds a e1 e3 (Option.some.inj e4)
      · rw [List.getElem?_set_ne hj] at e1 e3
        rw [List.getElem?_set_ne hk] at e2 e4
        exact h.sep j k a ds es e1 e2 e3 e4
theorem Sls.setVal (h : Sls K α F H Bs ρ σ) (i : Nat) (r : Rp K α F d v) : Sls K α F H Bs (ρ.set i (.val d)) (σ.set i (some v)) :=
  h.set i ⟨v, rfl, r.rv, fun b => by cases d <;> first | (cases b; done) | cases r⟩ (fun ds e => by cases e)
theorem Sls.setNo (h : Sls K α F H Bs ρ σ) (i : Nat) (o : Option V) : Sls K α F H Bs (ρ.set i .no) (σ.set i o) := h.set i trivial (fun ds e => by cases e)
def wipeR (ρ : List Sl) : List Nat → List Sl
  | [] => ρ
  | v :: vs => (wipeR ρ vs).set v .no
theorem Sls.wipe (h : Sls K α F H Bs ρ σ) : ∀ vs : List Nat, Sls K α F H Bs (wipeR ρ vs) (L2.wipe σ vs)
  | [] => h
  | v :: vs => (Sls.wipe h vs).setNo v none
/-- what is not data changes at D: the world stays -/
theorem Wd.out {D : Addr} {o : HO} (w : Wd G K α F H κ) (n : D ∉ α) (f : F D = none) : Wd G K α F (upd H D o) κ := by
  refine ⟨fun b u e => ?_, w.len, w.inj, w.fre, fun k a c e1 e2 => ?_⟩
  · rw [upd_ne (ne_of_none e f)]; exact w.sub _ _ e
  · have m := List.mem_of_getElem? e1
    have := (w.cel k a c e1 e2).keep (β := []) (F' := F) (H' := upd H D o) (Same.refl _) (upd_ne (fun (q : a = D) => n (q ▸ m)))
    rwa [List.append_nil] at this
theorem Gr.out {α0 : List Addr} {F0 H0 : Hp} {D : Addr} {o : HO} (g : Gr α0 F0 H0 α F H) (n : H0 D = none) : Gr α0 F0 H0 α F (upd H D o) := by
  refine ⟨g.al, g.fr, g.fn, fun a u e m => ?_, fun a e => ?_⟩
  · rw [upd_ne (ne_of_none e n)]; exact g.ke a u e m
  · rw [upd_ne (fun (q : a = D) => e (q ▸ n))]; exact g.dm a e
end

/-! ### targets -/
abbrev Tg := D → List Sl → Option (List Sl)
abbrev Tgs := List D → List Sl → Option (List Sl)
def gNm (i : Nat) : Tg := fun d ρ => if isBor d = true then none else some (ρ.set i (.val d))
def gsNil : Tgs := fun ds ρ => match ds with
  | [] => some ρ
  | _ => none
def gsCons (g : Tg) (r : Tgs) : Tgs := fun ds ρ => match ds with
  | d :: ds => (g d ρ).bind (r ds)
  | _ => none
def gTu (n : Nat) (r : Tgs) : Tg := fun d ρ => match d with
  | .tup ds => if ds.length = n then r ds ρ else none
  | _ => none
theorem wipe_set {σ : L2.St} {j : Nat} {o : Option V} : ∀ {vs : List Nat}, j ∈ vs → L2.wipe (σ.set j o) vs = L2.wipe σ vs
  | v :: vs, h => by
    show (L2.wipe (σ.set j o) vs).set v none = (L2.wipe σ vs).set v none
    by_cases hv : j ∈ vs
    · rw [wipe_set hv]
    · have e : j = v := by simpa [hv] using h
      subst e
      have key : ∀ (ws : List Nat) (τ : L2.St), j ∉ ws → L2.wipe (τ.set j o) ws = (L2.wipe τ ws).set j o := by
        intro ws
        induction ws with
        | nil => intro τ _; rfl
        | cons w ws ih =>
          intro τ hn
          have hw : j ≠ w := fun q => hn (by simp [q])
          have hws : j ∉ ws := fun q => hn (by simp [q])
          show (L2.wipe (τ.set j o) ws).set w none = ((L2.wipe τ ws).set w none).set j o
          rw [ih τ hws, List.set_comm _ _ hw]
      rw [key vs σ hv, List.set_set]
theorem wipe_wipe {σ : L2.St} : ∀ (us vs : List Nat), (∀ j ∈ us, j ∈ vs) → L2.wipe (L2.wipe σ us) vs = L2.wipe σ vs
  | [], vs, _ => rfl
  | u :: us, vs, h => by
    show L2.wipe ((L2.wipe σ us).set u none) vs = _
    rw [wipe_set (h u (by simp)), wipe_wipe us vs fun j hj => h j (by simp [hj])]
/-- a target: how it is stored, what it means, the slots that it writes -/
structure PGd (X : Cx) (tg : Expr) (t : TG) (g : Tg) (js : List Nat) : Prop where
  pg : PG X tg t
  ok : ∀ (G : Gx) (α : List Addr) (F H Bs : Hp) (κ : Ka) (ρ ρ' : List Sl) (σ : L2.St) (d : D) (v : V) (Q : L2.St → Hp → Prop), Wd G X.K α F H κ → Sls X.K α F H Bs ρ σ → Rp X.K α F d v → g d ρ = some ρ' →
    (∀ σ', Sls X.K α F H Bs ρ' σ' → (∀ vs : List Nat, (∀ j ∈ js, j ∈ vs) → L2.wipe σ' vs = L2.wipe σ vs) → Q σ' H) → t v σ H Q
structure PGsd (X : Cx) (tgs : List Expr) (t : TGs) (g : Tgs) (js : List Nat) : Prop where
  pg : PGs X tgs t
  ok : ∀ (G : Gx) (α : List Addr) (F H Bs : Hp) (κ : Ka) (ρ ρ' : List Sl) (σ : L2.St) (ds : List D) (vs : List V) (Q : L2.St → Hp → Prop), Wd G X.K α F H κ → Sls X.K α F H Bs ρ σ → RpL X.K α F ds vs → g ds ρ = some ρ' →
    (∀ σ', Sls X.K α F H Bs ρ' σ' → (∀ vs : List Nat, (∀ j ∈ js, j ∈ vs) → L2.wipe σ' vs = L2.wipe σ vs) → Q σ' H) → t vs σ H Q
section
variable {X : Cx} {pos : Pos} {e : Expr} {es : List Expr} {g : Tg} {gs : Tgs} {t : TG} {ts : TGs} {js ks : List Nat}
theorem t_name (i : Nat) {x : Str} (hN : X.N.Nodup) (hi : X.N[i]? = some x := by rfl) (hx : Loc X.env.scope x := by first | exact .inl rfl | exact .inr rfl) (hf : X.fn x = true ∨ X.env.scope.names.lookup x = some .local := by first | exact .inl rfl | exact .inr rfl | assumption) : PGd X (.Name x pos) (gName i) (gNm i) [i] :=
  ⟨pg_name hN hi hx hf, fun G α F H Bs κ ρ ρ' σ d v Q w sl r e h => by
    unfold gNm at e
    split at e
    · cases e
    · cases e
      exact h _ (sl.setVal i r) fun vs hv => wipe_set (hv i (by simp))⟩
theorem ts_nil : PGsd X [] gNil gsNil [] := ⟨pgs_nil, fun G α F H Bs κ ρ ρ' σ ds vs Q w sl r e h => by
  cases ds with
  | nil => cases r; cases e; exact ⟨rfl, h _ sl fun _ _ => rfl⟩
  | cons => cases e⟩
theorem ts_cons (h1 : PGd X e t g js) (h2 : PGsd X es ts gs ks) (hs : (assignEach (e :: es) X.env).map (·.2) = assign e X.env :: (assignEach es X.env).map (·.2) := by rfl) : PGsd X (e :: es) (gCons t ts) (gsCons g gs) (js ++ ks) := by
  refine ⟨pgs_cons h1.pg h2.pg hs, fun G α F H Bs κ ρ ρ' σ ds vs Q w sl r e h => ?_⟩
  cases ds with
  | nil => cases e
  | cons d ds =>
    cases r with
    | cons r1 r2 =>
      obtain ⟨ρ1, e1, e2⟩ := Option.bind_eq_some_iff.mp e
      exact ⟨_, _, rfl, h1.ok G α F H Bs κ ρ ρ1 σ d _ _ w sl r1 e1 fun σ1 sl1 w1 => h2.ok G α F H Bs κ ρ1 ρ' σ1 ds _ _ w sl1 r2 e2 fun σ2 sl2 w2 => h σ2 sl2 fun vs hv =>
        (w2 vs fun j hj => hv j (by simp [hj])).trans (w1 vs fun j hj => hv j (by simp [hj]))⟩
theorem t_tup {K : PySem.W.Frag} {k : Nat} {n : Nat} (hc : X.calm = true) (h : PGsd X es ts gs js) (hK : X.K = K := by rfl) (hn : (assignEach es X.env).length = n := by rfl) (hst : (assignEach es X.env).findIdx? (·.1) = none := by rfl) : PGd X (.Tuple es k pos) (gTup K n ts) (gTu n gs) js := by
  subst hK
  refine ⟨pg_tup hc h.pg hn hst, fun G α F H Bs κ ρ ρ' σ d v Q w sl r e hq => ?_⟩
  cases d with
  | tup ds =>
    simp only [gTu] at e
    split at e
    · rename_i hl
      cases r with
      | tup hs q => exact ⟨_, _, rfl, same_tup w.sub hs, by rw [← q.length]; exact hl, h.ok G α F H Bs κ ρ ρ' σ ds _ Q w sl q e hq⟩
    · cases e
  | _ => cases e
end

/-! ### comprehensions -/
def Re.bindN {α β : Type} (r : Re α) (f : α → Ka → Re β) : Re β :=
  match r with
  | some (.ok a, k) => f a k
  | _ => none
def cLoop (g : Tg) (t : Ev Bool) (e : Ev D) (ρw : List Sl) : List D → List D → Ka → Re (List D)
  | [], acc, κ => some (.ok acc, κ)
  | d :: ds, acc, κ => match g d ρw with
    | none => none
    | some ρ2 => (t ρ2 κ).bindN fun b κ1 => if b = true then (e ρ2 κ1).bindN fun y κ2 => if isBor y = true ∨ 16777216 ≤ acc.length then none else cLoop g t e ρw ds (acc ++ [y]) κ2 else cLoop g t e ρw ds acc κ1
def eComp (vs : List Nat) (n : Ev (List D)) (g : Tg) (t : Ev Bool) (e : Ev D) : Ev (List D) := fun ρ κ => (n ρ κ).bind fun ds κ1 => cLoop g t e (wipeR ρ vs) ds [] κ1
def bYes : Ev Bool := fun _ κ => some (.ok true, κ)
structure PTsd (G : Gx) (X : Cx) (ifs : List Expr) (t : Ev Bool) : Prop where
  run : PTs X ifs (tT G E0 X.K t)
theorem c_nil {G : Gx} {X : Cx} : PTsd G X [] bYes := ⟨⟨fun pins s σ H Q I ⟨α, F, ρ, κ, Bs, w, sl, h⟩ => pts_nil.run pins s σ H Q I (POB.now (W := E0) w h)⟩⟩
theorem c_one {G : Gx} {X : Cx} {c : Expr} {t : Ev Bool} (h : PB G E0 X c t) : PTsd G X [c] t := ⟨pts_one h.run⟩
section
variable {G : Gx} {W : XK} {K : PySem.W.Frag} {α α' α0 : List Addr} {F F' F0 H H' H0 : Hp} {κ : Ka} {Q : VK} {σ : L2.St} {ρ : List Sl} {Bs : Hp}
/-- in a block no error leaves -/
theorem tT_bindN {m : Ev Bool} {f : Bool → Ka → Re (List D)} (w : Wd G K α F H κ) (sl : Sls K α F H Bs ρ σ) (h : POF G W K α0 F0 H0 Q ((m ρ κ).bindN f)) :
    tT G E0 K m σ H fun b H1 => ∃ α1 F1 κ1, Gr α F H α1 F1 H1 ∧ Wd G K α1 F1 H1 κ1 ∧ Sls K α1 F1 H1 Bs ρ σ ∧ POF G W K α0 F0 H0 Q (f b κ1) := by
  refine ⟨α, F, ρ, κ, Bs, w, sl, ?_⟩
  rcases hm : m ρ κ with _ | ⟨o, κ'⟩
  · rw [hm] at h; exact h
  · rw [hm] at h
    cases o with
    | ok d => exact fun α' F' H' g w' => ⟨α', F', κ', g, w', sl.gr g, h⟩
    | er c => exact h.elim
theorem tD_bindN {m : Ev D} {f : D → Ka → Re (List D)} (w : Wd G K α F H κ) (sl : Sls K α F H Bs ρ σ) (h : POF G W K α0 F0 H0 Q ((m ρ κ).bindN f)) :
    tD G E0 K m σ H fun x H1 => ∃ α1 F1 κ1 d, Gr α F H α1 F1 H1 ∧ Wd G K α1 F1 H1 κ1 ∧ Sls K α1 F1 H1 Bs ρ σ ∧ Rv K α1 F1 H1 d x ∧ POF G W K α0 F0 H0 Q (f d κ1) := by
  refine ⟨α, F, ρ, κ, Bs, w, sl, ?_⟩
  rcases hm : m ρ κ with _ | ⟨o, κ'⟩
  · rw [hm] at h; exact h
  · rw [hm] at h
    cases o with
    | ok d => exact fun α' F' H' g w' v r => ⟨α', F', κ', d, g, w', sl.gr g, r, h⟩
    | er c => exact h.elim
theorem tI_bindF {l : Bool} {n : Ev (List D)} {f : List D → Ka → Re (List D)} {R : It → Hp → Prop} (w : Wd G K α F H κ) (sl : Sls K α F H Bs ρ σ) (h : POF G W K α F H Q ((n ρ κ).bind f))
    (hR : ∀ α1 F1 H1 κ1 ds J, Gr α F H α1 F1 H1 → Wd G K α1 F1 H1 κ1 → Sls K α1 F1 H1 Bs ρ σ → ItOk G K l α1 F1 H1 J ds → POF G W K α1 F1 H1 Q (f ds κ1) → R J H1) : tI G W K l n σ H R := by
  refine ⟨α, F, ρ, κ, Bs, w, sl, ?_⟩
  rcases hm : n ρ κ with _ | ⟨o, κ'⟩
  · rw [hm] at h; exact h
  · rw [hm] at h
    cases o with
    | ok d => exact fun α' F' H' g w' J j => hR α' F' H' κ' d J g w' (sl.gr g) j (POF.gr g h)
    | er c => exact h
end
section
variable {G : Gx} {W : XK} {X : Cx} {vs : List Nat} {n : Ev (List D)} {g : Tg} {t : Ev Bool} {e : Ev D} {tg elt iter : Expr} {ifs : List Expr} {scope : Scope} {own : List (Str × Nat)} {pos : Pos}
/-- the reading of a comprehension -/
theorem comp_reads {K : PySem.W.Frag} {gt : TG}
    (hg : ∀ (α : List Addr) (F H Bs : Hp) (κ : Ka) (ρ ρ' : List Sl) (σ : L2.St) (d : D) (v : V) (Q : L2.St → Hp → Prop), Wd G K α F H κ → Sls K α F H Bs ρ σ → Rp K α F d v → g d ρ = some ρ' → (∀ σ', Sls K α F H Bs ρ' σ' → L2.wipe σ' vs = L2.wipe σ vs → Q σ' H) → gt v σ H Q)
    (hw : ∀ σ : L2.St, L2.wipe (L2.wipe σ vs) vs = L2.wipe σ vs) {σ : L2.St} {H : Hp} {Q : VK} (h : tF G W K (eComp vs n g t e) σ H Q) : tLc (tI G W K true n) gt (tT G E0 K t) (tD G E0 K e) vs σ H Q := by
  obtain ⟨α, F, ρ, κ, Bs, w, sl, h⟩ := h
  refine tI_bindF w sl h fun α1 F1 H1 κ1 ds J g1 w1 sl1 j1 h1 => fun D hD => ?_
  have fD : F1 D = none := w1.sub.free hD
  have nD : D ∉ α1 := fun m => w1.dom m hD
  refine ⟨fun i m H => m = ds.length - i ∧ i ≤ ds.length ∧ ∃ α2 F2 κ2 acc accV, Gr α1 F1 H1 α2 F2 H ∧ Wd G K α2 F2 H κ2 ∧ Sls K α2 F2 H Bs ρ σ ∧ H D = some (.lst accV) ∧ D ∉ α2 ∧ F2 D = none ∧ RpL K α2 F2 acc accV ∧
      POF G W K α1 F1 H1 Q (cLoop g t e (wipeR ρ vs) (ds.drop i) acc κ2), ⟨ds.length, by simp, Nat.zero_le _, ?_⟩, ?_⟩
  · obtain ⟨g2, w2⟩ := Gr.newH (o := .lst []) w1 hD
    exact ⟨α1, F1, κ1, [], [], g2, w2, sl1.gr g2, upd_same, nD, fD, .nil, h1⟩
  · rintro i m H2 ⟨rfl, hi, α2, F2, κ2, acc, accV, g2, w2, sl2, e2, n2, f2, r2, h2⟩
    by_cases hlt : i < ds.length
    · have hd : ds[i]? = some ds[i] := List.getElem?_eq_getElem hlt
      have hdr : ds.drop i = ds[i] :: ds.drop (i + 1) := List.drop_eq_getElem_cons hlt
      rw [hdr] at h2
      simp only [cLoop] at h2
      obtain ⟨go, yl⟩ := j1.go α2 F2 H2 κ2 g2.later w2 i _ hd
      rcases hgd : g ds[i] (wipeR ρ vs) with _ | ρ2
      · rw [hgd] at h2; exact h2.elim
      · rw [hgd] at h2
        refine .inr ⟨go, fun H' => ∃ m', m' < ds.length - i ∧ (m' = ds.length - (i + 1) ∧ i + 1 ≤ ds.length ∧ ∃ α2 F2 κ2 acc accV, Gr α1 F1 H1 α2 F2 H' ∧ Wd G K α2 F2 H' κ2 ∧ Sls K α2 F2 H' Bs ρ σ ∧ H' D = some (.lst accV) ∧ D ∉ α2 ∧ F2 D = none ∧ RpL K α2 F2 acc accV ∧
          POF G W K α1 F1 H1 Q (cLoop g t e (wipeR ρ vs) (ds.drop (i + 1)) acc κ2)), fun H' h => h, fun x H3 hy => ?_⟩
        obtain ⟨F3, g3, w3, r3⟩ := yl x H3 hy
        have e3 : H3 D = some (.lst accV) := g3.ke _ _ e2 n2
        have f3 : F3 D = none := g3.fn _ f2 (by rw [e2]; simp)
        refine hg α2 F3 H3 Bs κ2 _ ρ2 _ _ x _ w3 ((sl2.gr g3).wipe vs) r3 hgd fun σ3 sl3 hw3 => ⟨hw3.trans (hw σ), ?_⟩
        refine tT_mono (fun b H4 hb => ?_) (tT_bindN w3 sl3 h2)
        obtain ⟨α4, F4, κ4, g4, w4, sl4, h4⟩ := hb
        have e4 : H4 D = some (.lst accV) := g4.ke _ _ e3 n2
        have n4 : D ∉ α4 := g4.notin (by rw [e3]; simp) n2
        have f4 : F4 D = none := g4.fn _ f3 (by rw [e3]; simp)
        cases b with
        | false =>
          rw [if_neg Bool.false_ne_true]
          exact ⟨_, by omega, rfl, hlt, α4, F4, κ4, acc, accV, (g2.trans g3).trans g4, w4, (sl2.gr g3).gr g4, e4, n4, f4, (r2.gr g3).gr g4, h4⟩
        | true =>
          rw [if_pos rfl]
          refine tD_mono (fun y H5 hy5 => ?_) (tD_bindN w4 sl4 h4)
          obtain ⟨α5, F5, κ5, d5, g5, w5, sl5, r5, h5⟩ := hy5
          split at h5
          · exact h5.elim
          · rename_i hnb
            have hnb1 : isBor d5 = false := by
              cases q : isBor d5 with
              | false => rfl
              | true => exact absurd (.inl q) hnb
            have hnb2 : acc.length < 16777216 := Nat.lt_of_not_le fun q => hnb (.inr q)
            have e5 : H5 D = some (.lst accV) := g5.ke _ _ e4 n4
            have n5 : D ∉ α5 := g5.notin (by rw [e4]; simp) n4
            have f5 : F5 D = none := g5.fn _ f4 (by rw [e4]; simp)
            have r5' := ((r2.gr g3).gr g4).gr g5
            have g15 := ((g2.trans g3).trans g4).trans g5
            refine ⟨accV, e5, by rw [sizeLine_eq, ← r5'.length]; exact hnb2, _, by omega, rfl, hlt, α5, F5, κ5, acc ++ [d5], accV ++ [y], g15.out hD, w5.out n5 f5, ?_, upd_same, n5, f5, r5'.append (.cons (r5.rp hnb1) .nil), h5⟩
            exact sl1.gr (g15.out hD)
    · have ei : i = ds.length := by omega
      subst ei
      rw [List.drop_length] at h2
      exact .inl ⟨j1.stop α2 F2 H2 κ2 g2.later w2, h2 α2 F2 H2 g2 w2 D accV e2 f2 n2 hD r2⟩
theorem f_comp {gt : TG} {js : List Nat} (hc : X.calm = true) (hN : X.N.Nodup) (hi : PDI G W X true tg iter n) (ok : BlkOk X.N X.env.scope scope own)
    (hg : ∀ (s : Shared) (H : Hp) (C : Addr) (cl : List (Str × Addr)) (fp : List Addr), PGd (X.blk s H scope (compEnvC scope cl C X.env) fp) tg gt g js) (hj : ∀ j ∈ js, j ∈ own.map (·.2))
    (ht : ∀ (s : Shared) (H : Hp) (C : Addr) (cl : List (Str × Addr)) (fp : List Addr), PTsd G (X.blk s H scope (compEnvC scope cl C X.env) fp) ifs t)
    (he : ∀ (s : Shared) (H : Hp) (C : Addr) (cl : List (Str × Addr)) (fp : List Addr), PD G E0 (X.blk s H scope (compEnvC scope cl C X.env) fp) elt e) (hs : ∀ x, foldedSetIterable iter X.env x = pure x := by intro _; rfl) :
    PF G W X (.ListComp elt [⟨tg, iter, ifs, 0⟩] scope pos) (eComp (own.map (·.2)) n g t e) :=
  ⟨⟨fun pins s σ H Q I h => (pe_lc (g := gt) (tt := tT G E0 X.K t) (te := tD G E0 X.K e) hc hN hi.run ok (fun s H C cl fp => (hg s H C cl fp).pg) (fun s H C cl fp => (ht s H C cl fp).run) (fun s H C cl fp => (he s H C cl fp).run) hs).run pins s σ H Q I
    (comp_reads (fun α F H Bs κ ρ ρ' σ d v Q w sl r e hq => (hg s H 0 [] []).ok G α F H Bs κ ρ ρ' σ d v Q w sl r e fun σ' sl' hw => hq σ' sl' (hw _ hj)) (fun σ => wipe_wipe _ _ fun j hj => hj) h)⟩⟩

/-! ### statements -/
inductive Out where
  | nx (ρ : List Sl) | rt (d : D) | bk (ρ : List Sl) | ct (ρ : List Sl) | er (c : Nat)
abbrev Es := List Sl → Ka → Option (Out × Ka)
end
def PSt (G : Gx) (W : XK) (K : PySem.W.Frag) (α0 : List Addr) (F0 Bs : Hp) (α : List Addr) (F : Hp) (Dn : Ends) : Option (Out × Ka) → Prop
  | none => False
  | some (o, κ') => ∀ α' F' H', Gr α0 F0 Bs α' F' H' → Exn α F α' F' → Wd G K α' F' H' κ' → match o with
    | .nx ρ' => ∀ σ', Sls K α' F' H' Bs ρ' σ' → Dn.nx σ' H'
    | .rt d => ∀ v, Rp K α' F' d v → Dn.rt v H'
    | .bk ρ' => ∀ σ', Sls K α' F' H' Bs ρ' σ' → Dn.bk σ' H'
    | .ct ρ' => ∀ σ', Sls K α' F' H' Bs ρ' σ' → Dn.ct σ' H'
    | .er c => W (.ref (G.exc c)) none H'
def tS (G : Gx) (W : XK) (K : PySem.W.Frag) (m : Es) : TS := fun Dn σ H => ∃ α0 F0 Bs α F ρ κ, Gr α0 F0 Bs α F H ∧ Wd G K α F H κ ∧ Sls K α F H Bs ρ σ ∧ PSt G W K α0 F0 Bs α F Dn (m ρ κ)
theorem PSt.ex {G : Gx} {W : XK} {K : PySem.W.Frag} {α0 α α1 : List Addr} {F0 Bs F F1 : Hp} {Dn : Ends} {r : Option (Out × Ka)} (e : Exn α F α1 F1) (h : PSt G W K α0 F0 Bs α F Dn r) : PSt G W K α0 F0 Bs α1 F1 Dn r := by
  rcases r with _ | ⟨o, κ'⟩
  · exact h
  · exact fun α' F' H' g x w => h α' F' H' g (e.trans x) w
structure PSd (G : Gx) (W : XK) (X : Cx) (st : Stmt) (m : Es) : Prop where
  run : PS X st (tS G W X.K m)
structure PSsd (G : Gx) (W : XK) (X : Cx) (sts : List Stmt) (m : Es) : Prop where
  run : PSs X sts (tS G W X.K m)
theorem ps_imp {X : Cx} {st : Stmt} {t t' : TS} (h : PS X st t) (hi : ∀ D σ H, t' D σ H → t D σ H) : PS X st t' := ⟨fun pins s σ H D I q => h.run pins s σ H D I (hi D σ H q)⟩
theorem pss_imp {X : Cx} {st : List Stmt} {t t' : TS} (h : PSs X st t) (hi : ∀ D σ H, t' D σ H → t D σ H) : PSs X st t' := ⟨fun pins s σ H D I q => h.run pins s σ H D I (hi D σ H q)⟩
def sNext : Es := fun ρ κ => some (.nx ρ, κ)
def sBrk : Es := fun ρ κ => some (.bk ρ, κ)
def sCt : Es := fun ρ κ => some (.ct ρ, κ)
def sSeq (m n : Es) : Es := fun ρ κ => match m ρ κ with
  | some (.nx ρ1, κ1) => n ρ1 κ1
  | r => r
def Re.bindS {α : Type} (r : Re α) (f : α → Ka → Option (Out × Ka)) : Option (Out × Ka) :=
  match r with
  | none => none
  | some (.ok a, k) => f a k
  | some (.er c, k) => some (.er c, k)
def sRet (m : Ev D) : Es := fun ρ κ => (m ρ κ).bindS fun d κ1 => if isBor d = true then none else some (.rt d, κ1)
def sRetN : Es := fun ρ κ => some (.rt .non, κ)
def sIf (c : Ev Bool) (m n : Es) : Es := fun ρ κ => (c ρ κ).bindS fun b κ1 => if b = true then m ρ κ1 else n ρ κ1
def sAsg (g : Tg) (m : Ev D) : Es := fun ρ κ => (m ρ κ).bindS fun d κ1 => if isBor d = true then none else match g d ρ with
  | some ρ1 => some (.nx ρ1, κ1)
  | none => none
/-- a new list that the frame keeps as its own -/
def sOwn (i : Nat) (m : Ev (List D)) : Es := fun ρ κ => (m ρ κ).bindS fun ds κ1 => some (.nx (ρ.set i (.own ds)), κ1)
def sExp (m : Ev D) : Es := fun ρ κ => (m ρ κ).bindS fun _ κ1 => some (.nx ρ, κ1)
/-- an own list becomes data -/
def frz (i : Nat) (ρ : List Sl) : List Sl := match ρ[i]? with
  | some (.own ds) => ρ.set i (.val (.lst ds))
  | _ => ρ
def sFrz (i : Nat) (m : Es) : Es := fun ρ κ => m (frz i ρ) κ
def sFor (g : Tg) (m : Es) : List D → Es
  | [] => sNext
  | d :: ds => fun ρ κ => match g d ρ with
    | none => none
    | some ρ1 => match m ρ1 κ with
      | some (.nx ρ2, κ2) => sFor g m ds ρ2 κ2
      | some (.ct ρ2, κ2) => sFor g m ds ρ2 κ2
      | some (.bk ρ2, κ2) => some (.nx ρ2, κ2)
      | r => r
def sForE (n : Ev (List D)) (g : Tg) (m : Es) : Es := fun ρ κ => (n ρ κ).bindS fun ds κ1 => sFor g m ds ρ κ1
def sWhl (c : Ev Bool) (m : Es) : Nat → Es
  | 0 => fun _ _ => none
  | k + 1 => fun ρ κ => (c ρ κ).bindS fun b κ1 => if b = true then match m ρ κ1 with
      | some (.nx ρ2, κ2) => sWhl c m k ρ2 κ2
      | some (.ct ρ2, κ2) => sWhl c m k ρ2 κ2
      | some (.bk ρ2, κ2) => some (.nx ρ2, κ2)
      | r => r
    else some (.nx ρ, κ1)
end
end DL
set_option Elab.async false
set_option linter.all false
set_option maxRecDepth 100000
set_option maxHeartbeats 4000000
/-! DL6: statements and defs. -/
namespace DL
noncomputable section
open PySem PySem.Spec PyProof.Rows L2
section
variable {G : Gx} {W : XK} {K : PySem.W.Frag} {α α' α0 : List Addr} {F F' F0 H H' Bs : Hp} {κ : Ka} {σ : L2.St} {ρ : List Sl} {Dn : Ends}
theorem tD_bindS {m : Ev D} {f : D → Ka → Option (Out × Ka)} (gb : Gr α0 F0 Bs α F H) (w : Wd G K α F H κ) (sl : Sls K α F H Bs ρ σ) (h : PSt G W K α0 F0 Bs α F Dn ((m ρ κ).bindS f)) :
    tD G W K m σ H fun x H1 => ∃ α1 F1 κ1 d, Gr α F H α1 F1 H1 ∧ Gr α0 F0 Bs α1 F1 H1 ∧ Wd G K α1 F1 H1 κ1 ∧ Sls K α1 F1 H1 Bs ρ σ ∧ Rv K α1 F1 H1 d x ∧ PSt G W K α0 F0 Bs α1 F1 Dn (f d κ1) := by
  refine ⟨α, F, ρ, κ, Bs, w, sl, ?_⟩
  rcases hm : m ρ κ with _ | ⟨o, κ'⟩
  · rw [hm] at h; exact h
  · rw [hm] at h
    cases o with
    | ok d => exact fun α' F' H' g w' v r => ⟨α', F', κ', d, g, gb.trans g, w', sl.gr g, r, h.ex g.exn⟩
    | er c => exact fun α' F' H' g w' => h α' F' H' (gb.trans g) g.exn w'
theorem tT_bindS {m : Ev Bool} {f : Bool → Ka → Option (Out × Ka)} (gb : Gr α0 F0 Bs α F H) (w : Wd G K α F H κ) (sl : Sls K α F H Bs ρ σ) (h : PSt G W K α0 F0 Bs α F Dn ((m ρ κ).bindS f)) :
    tT G W K m σ H fun b H1 => ∃ α1 F1 κ1, Gr α0 F0 Bs α1 F1 H1 ∧ Wd G K α1 F1 H1 κ1 ∧ Sls K α1 F1 H1 Bs ρ σ ∧ PSt G W K α0 F0 Bs α1 F1 Dn (f b κ1) := by
  refine ⟨α, F, ρ, κ, Bs, w, sl, ?_⟩
  rcases hm : m ρ κ with _ | ⟨o, κ'⟩
  · rw [hm] at h; exact h
  · rw [hm] at h
    cases o with
    | ok d => exact fun α' F' H' g w' => ⟨α', F', κ', gb.trans g, w', sl.gr g, h.ex g.exn⟩
    | er c => exact fun α' F' H' g w' => h α' F' H' (gb.trans g) g.exn w'
theorem tL_bindS {m : Ev (List D)} {f : List D → Ka → Option (Out × Ka)} (gb : Gr α0 F0 Bs α F H) (w : Wd G K α F H κ) (sl : Sls K α F H Bs ρ σ) (h : PSt G W K α0 F0 Bs α F Dn ((m ρ κ).bindS f)) :
    tL G W K m σ H fun x H1 => ∃ α1 F1 κ1 d, Gr α F H α1 F1 H1 ∧ Gr α0 F0 Bs α1 F1 H1 ∧ Wd G K α1 F1 H1 κ1 ∧ Sls K α1 F1 H1 Bs ρ σ ∧ RvL K α1 F1 H1 d x ∧ PSt G W K α0 F0 Bs α1 F1 Dn (f d κ1) := by
  refine ⟨α, F, ρ, κ, Bs, w, sl, ?_⟩
  rcases hm : m ρ κ with _ | ⟨o, κ'⟩
  · rw [hm] at h; exact h
  · rw [hm] at h
    cases o with
    | ok d => exact fun α' F' H' g w' v r => ⟨α', F', κ', d, g, gb.trans g, w', sl.gr g, r, h.ex g.exn⟩
    | er c => exact fun α' F' H' g w' => h α' F' H' (gb.trans g) g.exn w'
theorem tF_bindS {m : Ev (List D)} {f : List D → Ka → Option (Out × Ka)} (gb : Gr α0 F0 Bs α F H) (w : Wd G K α F H κ) (sl : Sls K α F H Bs ρ σ) (h : PSt G W K α0 F0 Bs α F Dn ((m ρ κ).bindS f)) :
    tF G W K m σ H fun x H1 => ∃ α1 F1 κ1 ds a xs, Gr α F H α1 F1 H1 ∧ Gr α0 F0 Bs α1 F1 H1 ∧ Wd G K α1 F1 H1 κ1 ∧ Sls K α1 F1 H1 Bs ρ σ ∧ x = .ref a ∧ H1 a = some (.lst xs) ∧ F1 a = none ∧ a ∉ α1 ∧ H a = none ∧ RpL K α1 F1 ds xs ∧ PSt G W K α0 F0 Bs α1 F1 Dn (f ds κ1) := by
  refine ⟨α, F, ρ, κ, Bs, w, sl, ?_⟩
  rcases hm : m ρ κ with _ | ⟨o, κ'⟩
  · rw [hm] at h; exact h
  · rw [hm] at h
    cases o with
    | ok d => exact fun α' F' H' g w' a xs h1 h2 h3 h4 r => ⟨α', F', κ', d, a, xs, g, gb.trans g, w', sl.gr g, rfl, h1, h2, h3, h4, r, h.ex g.exn⟩
    | er c => exact fun α' F' H' g w' => h α' F' H' (gb.trans g) g.exn w'
theorem PSt.nx {ρ' : List Sl} {σ' : L2.St} (gb : Gr α0 F0 Bs α F H) (w : Wd G K α F H κ) (sl : Sls K α F H Bs ρ' σ') (h : PSt G W K α0 F0 Bs α F Dn (some (.nx ρ', κ))) : Dn.nx σ' H := h α F H gb (Exn.refl _ _) w σ' sl
theorem frz_ok (gb : Gr α0 F0 Bs α F H) (w : Wd G K α F H κ) (sl : Sls K α F H Bs ρ σ) (i : Nat) : ∃ F2, Exn α F α F2 ∧ Gr α0 F0 Bs α F2 H ∧ Wd G K α F2 H κ ∧ Sls K α F2 H Bs (frz i ρ) σ := by
  unfold frz
  split
  · rename_i ds he
    obtain ⟨o, ho, a, xs, rfl, h1, h2, h3, h4, r⟩ := sl.at' i _ he
    obtain ⟨g2, w2⟩ := Gr.frz w h1 h3 h2 gb h4
    have sm : Same F (upd F a (.lst xs)) := fun b u e => by rw [upd_ne (ne_of_none e h2)]; exact e
    refine ⟨_, ⟨⟨[], by simp⟩, sm⟩, g2, w2, ?_⟩
    have rr : ∀ {d : D} {v : V}, Rp K α F d v → Rp K α (upd F a (.lst xs)) d v := fun {d v} r => by have := Rp.mono (β := []) sm r; rwa [List.append_nil] at this
    have rl : ∀ {ds : List D} {vs : List V}, RpL K α F ds vs → RpL K α (upd F a (.lst xs)) ds vs := fun {ds vs} r => by have := RpL.mono (β := []) sm r; rwa [List.append_nil] at this
    have hi : i < ρ.length := (List.getElem?_eq_some_iff.mp he).1
    refine ⟨by simp [sl.len], fun j s e => ?_, fun j k b ds es e1 e2 e3 e4 => ?_⟩
    · by_cases hj : i = j
      · subst hj
        rw [List.getElem?_set_self hi] at e; cases e
        exact ⟨_, ho, .ref a, rfl, Rp.rv (.lst upd_same (rl r)), fun q => by cases q⟩
      · rw [List.getElem?_set_ne hj] at e
        obtain ⟨o', ho', so⟩ := sl.at' j s e
        refine ⟨o', ho', ?_⟩
        cases s with
        | no => trivial
        | val d =>
          obtain ⟨v, e5, r5, b5⟩ := so
          refine ⟨v, e5, ?_, b5⟩
          cases d with
          | bor es =>
            obtain ⟨c, ys, rfl, k1, k2, k3, k4⟩ := r5
            obtain ⟨c', e6, k6⟩ := b5 rfl
            cases e6
            refine ⟨c, ys, rfl, k1, k2, ?_, rl k4⟩
            rw [upd_ne (fun (q : c = a) => k6 (q ▸ h4))]; exact k3
          | _ => exact rr r5
        | own es =>
          obtain ⟨c, ys, rfl, k1, k2, k3, k4, k5⟩ := so
          refine ⟨c, ys, rfl, k1, ?_, k3, k4, rl k5⟩
          rw [upd_ne ?_]; exact k2
          rintro rfl
          exact hj (sl.sep i j c _ _ he e ho ho')
    · by_cases hj : i = j
      · subst hj
        rw [List.getElem?_set_self hi] at e1; cases e1
      · rw [List.getElem?_set_ne hj] at e1
        by_cases hk : i = k
        · subst hk
          rw [List.getElem?_set_self hi] at e2; cases e2
        · rw [List.getElem?_set_ne hk] at e2
          exact sl.sep j k b _ _ e1 e2 e3 e4
  · exact ⟨F, Exn.refl _ _, gb, w, sl⟩
end
section
variable {G : Gx} {W : XK} {X : Cx} {e a b c : Expr} {es : List Expr} {m ma mb mc : Ev D} {n : Ev (List D)} {pos p : Pos} {st : Stmt} {sts rest : List Stmt} {s t u : Es} {k : Ev Bool} {tg : Expr} {g : Tg} {tgt : TG} {js : List Nat}
theorem s_nil : PSsd G W X [] sNext := ⟨pss_imp pss_nil fun D σ H ⟨α0, F0, Bs, α, F, ρ, κ, gb, w, sl, h⟩ => PSt.nx gb w sl h⟩
theorem s_cons (h1 : PSd G W X st s) (h2 : PSsd G W X rest t) : PSsd G W X (st :: rest) (sSeq s t) :=
  ⟨pss_imp (pss_cons h1.run h2.run) fun D σ H ⟨α0, F0, Bs, α, F, ρ, κ, gb, w, sl, h⟩ => by
    refine ⟨α0, F0, Bs, α, F, ρ, κ, gb, w, sl, ?_⟩
    unfold sSeq at h
    rcases hm : s ρ κ with _ | ⟨o, κ'⟩
    · rw [hm] at h; exact h
    · rw [hm] at h
      cases o with
      | nx ρ1 => exact fun α' F' H' g x w' σ' sl' => ⟨α0, F0, Bs, α', F', ρ1, κ', g, w', sl', h.ex x⟩
      | rt d => exact h
      | bk ρ1 => exact h
      | ct ρ1 => exact h
      | er c => exact h⟩
theorem s_one (h1 : PSd G W X st s) : PSsd G W X [st] s := ⟨pss_one h1.run⟩
theorem s_pass : PSd G W X (.Pass pos) sNext := ⟨ps_imp ps_pass fun D σ H ⟨α0, F0, Bs, α, F, ρ, κ, gb, w, sl, h⟩ => PSt.nx gb w sl h⟩
theorem s_break : PSd G W X (.Break pos) sBrk := ⟨ps_imp ps_break fun D σ H ⟨α0, F0, Bs, α, F, ρ, κ, gb, w, sl, h⟩ => h α F H gb (Exn.refl _ _) w σ sl⟩
theorem s_continue : PSd G W X (.Continue pos) sCt := ⟨ps_imp ps_continue fun D σ H ⟨α0, F0, Bs, α, F, ρ, κ, gb, w, sl, h⟩ => h α F H gb (Exn.refl _ _) w σ sl⟩
theorem s_doc {x : Str} {j : Nat} {pos' : Pos} : PSd G W X (.Expr (.Constant (.str x) j pos) pos') sNext := ⟨ps_imp ps_doc fun D σ H ⟨α0, F0, Bs, α, F, ρ, κ, gb, w, sl, h⟩ => PSt.nx gb w sl h⟩
theorem s_expr (h1 : PD G W X e m) (hs : swapsWith e none pos.line X.env = pure false := by rfl) : PSd G W X (.Expr e pos) (sExp m) :=
  ⟨ps_imp (ps_expr h1.run hs) fun D σ H ⟨α0, F0, Bs, α, F, ρ, κ, gb, w, sl, h⟩ =>
    tD_mono (fun x H1 ⟨α1, F1, κ1, d, g1, gb1, w1, sl1, r1, h1⟩ => PSt.nx gb1 w1 sl1 h1) (tD_bindS gb w sl h)⟩
theorem s_ret (h1 : PD G W X e m) : PSd G W X (.Return (some e) pos) (sRet m) :=
  ⟨ps_imp (ps_ret h1.run) fun D σ H ⟨α0, F0, Bs, α, F, ρ, κ, gb, w, sl, h⟩ =>
    tD_mono (fun x H1 ⟨α1, F1, κ1, d, g1, gb1, w1, sl1, r1, h1⟩ => by
      split at h1
      · exact h1.elim
      · rename_i hb
        exact h1 α1 F1 H1 gb1 (Exn.refl _ _) w1 x (r1.rp (by cases q : isBor d <;> simp_all))) (tD_bindS gb w sl h)⟩
theorem s_retN : PSd G W X (.Return none pos) sRetN := ⟨ps_imp ps_retN fun D σ H ⟨α0, F0, Bs, α, F, ρ, κ, gb, w, sl, h⟩ => h α F H gb (Exn.refl _ _) w _ .non⟩
theorem s_if {x y : List Stmt} (hc : PB G W X c k) (hx : PSsd G W X x s) (hy : PSsd G W X y t) : PSd G W X (.If c x y pos) (sIf k s t) :=
  ⟨ps_imp (ps_if hc.run hx.run hy.run) fun D σ H ⟨α0, F0, Bs, α, F, ρ, κ, gb, w, sl, h⟩ =>
    tT_mono (fun b H1 ⟨α1, F1, κ1, gb1, w1, sl1, h1⟩ => by
      cases b with
      | true => exact iteT ⟨α0, F0, Bs, α1, F1, ρ, κ1, gb1, w1, sl1, h1⟩
      | false => exact iteF ⟨α0, F0, Bs, α1, F1, ρ, κ1, gb1, w1, sl1, h1⟩) (tT_bindS gb w sl h)⟩
theorem asg_reads {K : PySem.W.Frag} {σ : L2.St} {H : Hp} {Dn : Ends}
    (hg : ∀ (α : List Addr) (F H Bs : Hp) (κ : Ka) (ρ ρ' : List Sl) (σ : L2.St) (d : D) (v : V) (Q : L2.St → Hp → Prop), Wd G K α F H κ → Sls K α F H Bs ρ σ → Rp K α F d v → g d ρ = some ρ' → (∀ σ', Sls K α F H Bs ρ' σ' → Q σ' H) → tgt v σ H Q)
    (h : tS G W K (sAsg g m) Dn σ H) : tAsg (tD G W K m) tgt Dn σ H := by
  obtain ⟨α0, F0, Bs, α, F, ρ, κ, gb, w, sl, h⟩ := h
  refine tD_mono (fun x H1 ⟨α1, F1, κ1, d, g1, gb1, w1, sl1, r1, h1⟩ => ?_) (tD_bindS gb w sl h)
  split at h1
  · exact h1.elim
  · rename_i hb
    split at h1
    · rename_i ρ1 hg1
      exact hg α1 F1 H1 Bs κ1 ρ ρ1 σ d x _ w1 sl1 (r1.rp (by cases q : isBor d <;> simp_all)) hg1 fun σ' sl' => PSt.nx gb1 w1 sl' h1
    · exact h1.elim
theorem s_asg (h1 : PD G W X e m) (hg : PGd X tg tgt g js) (hs : swapsWithSole [tg] e pos.line X.env = pure false := by rfl) (hw : swappedStores [tg] e X.env = pure none := by rfl) (hz : (assignEach [tg] X.env).map (·.2) = [assign tg X.env] := by rfl) :
    PSd G W X (.Assign [tg] e pos) (sAsg g m) :=
  ⟨ps_imp (ps_asg h1.run hg.pg hs hw hz) fun D σ H h => asg_reads (fun α F H Bs κ ρ ρ' σ d v Q w sl r e hq => hg.ok G α F H Bs κ ρ ρ' σ d v Q w sl r e fun σ' sl' _ => hq σ' sl') h⟩
theorem gNm_reads {K : PySem.W.Frag} (i : Nat) (α : List Addr) (F H Bs : Hp) (κ : Ka) (ρ ρ' : List Sl) (σ : L2.St) (d : D) (v : V) (Q : L2.St → Hp → Prop) (w : Wd G K α F H κ) (sl : Sls K α F H Bs ρ σ) (r : Rp K α F d v) (e : gNm i d ρ = some ρ') (h : ∀ σ', Sls K α F H Bs ρ' σ' → Q σ' H) : L2.gName i v σ H Q := by
  unfold gNm at e
  split at e
  · cases e
  · cases e; exact h _ (sl.setVal i r)
theorem s_set {i : Nat} {x : Str} {pos' : Pos} (hN : X.N.Nodup) (h1 : PD G W X e m) (hi : X.N[i]? = some x := by rfl) (hx : Loc X.env.scope x := by first | exact .inl rfl | exact .inr rfl) (hs : swapsWith e (some (.Name x pos')) pos.line X.env = pure false := by rfl)
    (hf : X.fn x = true ∨ X.env.scope.names.lookup x = some .local := by first | exact .inl rfl | exact .inr rfl | assumption) : PSd G W X (.Assign [.Name x pos'] e pos) (sAsg (gNm i) m) :=
  ⟨ps_imp (ps_set hN hi hx h1.run hs hf) fun D σ H h => asg_reads (gNm_reads i) h⟩
theorem own_reads {K : PySem.W.Frag} {σ : L2.St} {H : Hp} {Dn : Ends} {i : Nat} (h : tS G W K (sOwn i n) Dn σ H) : tAsg (tF G W K n) (L2.gName i) Dn σ H := by
  obtain ⟨α0, F0, Bs, α, F, ρ, κ, gb, w, sl, h⟩ := h
  have key := tF_bindS gb w sl h
  obtain ⟨α2, F2, ρ2, κ2, Bs2, w2, sl2, h2⟩ := key
  refine ⟨α2, F2, ρ2, κ2, Bs2, w2, sl2, ?_⟩
  revert h2
  rcases n ρ2 κ2 with _ | ⟨o, κ'⟩
  · exact id
  · cases o with
    | er c => exact id
    | ok ds =>
      intro h2 α' F' H' g w' a xs k1 k2 k3 k4 r
      obtain ⟨α1, F1, κ1, ds1, a1, xs1, g1, gb1, w1, sl1, e1, q1, q2, q3, q4, r1, h3⟩ := h2 α' F' H' g w' a xs k1 k2 k3 k4 r
      cases e1
      refine PSt.nx gb1 w1 (sl1.set i (s := .own ds1) (o := some (.ref a)) ⟨a, xs1, rfl, q1, q2, q3, ?_, r1⟩ fun ds e j es b e1 e2 e3 => ?_) h3
      · cases q : Bs a with
        | none => rfl
        | some o => exact absurd q4 (gb.dm a (by rw [q]; simp))
      · cases e3
        obtain ⟨o, ho, a', xs', e5, k6, _⟩ := sl.at' j _ e1
        rw [e2] at ho; cases ho; cases e5
        rw [q4] at k6; cases k6
/-- x = [..], a list that the frame keeps as its own -/
theorem s_own {i : Nat} {x : Str} {pos' : Pos} (hN : X.N.Nodup) (h1 : PF G W X e n) (hi : X.N[i]? = some x := by rfl) (hx : Loc X.env.scope x := by first | exact .inl rfl | exact .inr rfl) (hs : swapsWith e (some (.Name x pos')) pos.line X.env = pure false := by rfl)
    (hf : X.fn x = true ∨ X.env.scope.names.lookup x = some .local := by first | exact .inl rfl | exact .inr rfl | assumption) : PSd G W X (.Assign [.Name x pos'] e pos) (sOwn i n) :=
  ⟨ps_imp (ps_set hN hi hx h1.run hs hf) fun D σ H h => own_reads h⟩
theorem s_frz (i : Nat) (h : PSd G W X st s) : PSd G W X st (sFrz i s) := ⟨ps_imp h.run fun D σ H ⟨α0, F0, Bs, α, F, ρ, κ, gb, w, sl, h⟩ => by
  obtain ⟨F2, x2, gb2, w2, sl2⟩ := frz_ok gb w sl i
  exact ⟨α0, F0, Bs, α, F2, frz i ρ, κ, gb2, w2, sl2, h.ex x2⟩⟩
/-- y = [.. for ..] on one line -/
theorem setLc_reads {K : PySem.W.Frag} {σ : L2.St} {H : Hp} {Dn : Ends} {i : Nat} {τ : TE} (hτ : ∀ σ H Q, tF G W K n σ H Q → τ σ H Q) (h : tS G W K (sAsg (gNm i) (eFr n)) Dn σ H) : tAsg τ (L2.gName i) Dn σ H := by
  obtain ⟨α0, F0, Bs, α, F, ρ, κ, gb, w, sl, h⟩ := h
  refine hτ _ _ _ ⟨α, F, ρ, κ, Bs, w, sl, ?_⟩
  unfold sAsg eFr at h
  rcases hm : n ρ κ with _ | ⟨o, κ'⟩
  · rw [hm] at h; exact h
  · rw [hm] at h
    cases o with
    | er c => exact fun α' F' H' g w' => h α' F' H' (gb.trans g) g.exn w'
    | ok ds =>
      intro α' F' H' g w' a xs k1 k2 k3 k4 r
      have k5 : Bs a = none := by
        cases q : Bs a with
        | none => rfl
        | some o => exact absurd k4 (gb.dm a (by rw [q]; simp))
      obtain ⟨g2, w2⟩ := Gr.frz w' k1 k3 k2 g k4
      obtain ⟨g3, _⟩ := Gr.frz w' k1 k3 k2 (gb.trans g) k5
      have sm : Same F' (upd F' a (.lst xs)) := fun b u e => by rw [upd_ne (ne_of_none e k2)]; exact e
      have r2 : Rp K α' (upd F' a (.lst xs)) (.lst ds) (.ref a) := .lst upd_same (by have := RpL.mono (β := []) sm r; rwa [List.append_nil] at this)
      exact PSt.nx g3 w2 ((sl.gr g2).setVal i r2) (h.ex g2.exn)
theorem s_setLc {i : Nat} {y : Str} {py : Pos} {elt iter : Expr} {ifs : List Expr} {scope : Scope} {own : List (Str × Nat)} {spos : Pos} {q : Ev Bool} (hc : X.calm = true) (hN : X.N.Nodup) (hi : PDI G W X true tg iter n) (ok : BlkOk X.N X.env.scope scope own)
    (hg : ∀ (s : Shared) (H : Hp) (C : Addr) (cl : List (Str × Addr)) (fp : List Addr), PGd (X.blk s H scope (compEnvC scope cl C X.env) fp) tg tgt g js) (hj : ∀ j ∈ js, j ∈ own.map (·.2))
    (ht : ∀ (s : Shared) (H : Hp) (C : Addr) (cl : List (Str × Addr)) (fp : List Addr), PTsd G (X.blk s H scope (compEnvC scope cl C X.env) fp) ifs q)
    (he : ∀ (s : Shared) (H : Hp) (C : Addr) (cl : List (Str × Addr)) (fp : List Addr), PD G E0 (X.blk s H scope (compEnvC scope cl C X.env) fp) elt m)
    (hsw : swapsWith (.ListComp elt [⟨tg, iter, ifs, 0⟩] scope pos) (some (.Name y py)) spos.line X.env = pure true) (hy : X.N[i]? = some y := by rfl) (hyl : X.env.scope.names.lookup y = some .local := by rfl)
    (hs : ∀ x, foldedSetIterable iter X.env x = pure x := by intro _; rfl) :
    PSd G W X (.Assign [.Name y py] (.ListComp elt [⟨tg, iter, ifs, 0⟩] scope pos) spos) (sAsg (gNm i) (eFr (eComp (own.map (·.2)) n g q m))) :=
  ⟨⟨fun pins s σ H D I h => (ps_setLc (g := tgt) (tt := tT G E0 X.K q) (te := tD G E0 X.K m) hc hN hy hyl hsw hi.run ok (fun s H C cl fp => (hg s H C cl fp).pg) (fun s H C cl fp => (ht s H C cl fp).run) (fun s H C cl fp => (he s H C cl fp).run) hs).run pins s σ H D I
    (setLc_reads (fun σ H Q h => comp_reads (fun α F H Bs κ ρ ρ' σ d v Q w sl r e hq => (hg s H 0 [] []).ok G α F H Bs κ ρ ρ' σ d v Q w sl r e fun σ' sl' hw => hq σ' sl' (hw _ hj)) (fun σ => wipe_wipe _ _ fun j hj => hj) h) h)⟩⟩
end
end
end DL
set_option Elab.async false
set_option linter.all false
set_option maxRecDepth 100000
set_option maxHeartbeats 4000000
/-! DL7: loops, own lists, the store, defs. -/
namespace DL
noncomputable section
open PySem PySem.Spec PyProof.Rows L2
section
variable {G : Gx} {W : XK} {K : PySem.W.Frag} {α α' α0 : List Addr} {F F' F0 H H' Bs : Hp} {κ : Ka} {σ : L2.St} {ρ : List Sl} {Dn : Ends}
theorem tI_bindS {l : Bool} {n : Ev (List D)} {f : List D → Ka → Option (Out × Ka)} {R : It → Hp → Prop} (gb : Gr α0 F0 Bs α F H) (w : Wd G K α F H κ) (sl : Sls K α F H Bs ρ σ) (h : PSt G W K α0 F0 Bs α F Dn ((n ρ κ).bindS f))
    (hR : ∀ α1 F1 H1 κ1 ds J, Gr α0 F0 Bs α1 F1 H1 → Wd G K α1 F1 H1 κ1 → Sls K α1 F1 H1 Bs ρ σ → ItOk G K l α1 F1 H1 J ds → PSt G W K α0 F0 Bs α1 F1 Dn (f ds κ1) → R J H1) : tI G W K l n σ H R := by
  refine ⟨α, F, ρ, κ, Bs, w, sl, ?_⟩
  rcases hm : n ρ κ with _ | ⟨o, κ'⟩
  · rw [hm] at h; exact h
  · rw [hm] at h
    cases o with
    | ok d => exact fun α' F' H' g w' J j => hR α' F' H' κ' d J (gb.trans g) w' (sl.gr g) j (h.ex g.exn)
    | er c => exact fun α' F' H' g w' => h α' F' H' (gb.trans g) g.exn w'
end
section
variable {G : Gx} {W : XK} {X : Cx} {e a b c : Expr} {es : List Expr} {m ma mb mc : Ev D} {n : Ev (List D)} {pos p : Pos} {st : Stmt} {sts rest : List Stmt} {s t u : Es} {k : Ev Bool} {tg : Expr} {g : Tg} {tgt : TG} {js : List Nat}
theorem s_for {iter : Expr} {body : List Stmt} (hp : PassesOwn (model X.prog X.w) X.A X.env X.xe) (hc : X.calm = true) (hi : PDI G W X false tg iter n) (hg : PGd X tg tgt g js) (hb : PSsd G W X body s)
    (hs : ∀ x, foldedSetIterable iter X.env x = pure x := by intro _; rfl) : PSd G W X (.For tg iter body [] pos) (sForE n g s) :=
  ⟨ps_imp (ps_for hp hc hi.run hg.pg hb.run hs) fun Dn σ H ⟨α0, F0, Bs, α, F, ρ, κ, gb, w, sl, h⟩ => by
    refine tI_bindS gb w sl h fun α1 F1 H1 κ1 ds J gb1 w1 sl1 j1 h1 => ?_
    refine ⟨fun i m σ H => m = ds.length - i ∧ i ≤ ds.length ∧ ∃ α2 F2 κ2 ρ2, Exn α1 F1 α2 F2 ∧ Gr α0 F0 Bs α2 F2 H ∧ Wd G X.K α2 F2 H κ2 ∧ Sls X.K α2 F2 H Bs ρ2 σ ∧ PSt G W X.K α0 F0 Bs α2 F2 Dn (sFor g s (ds.drop i) ρ2 κ2), ⟨ds.length, by simp, Nat.zero_le _, α1, F1, κ1, ρ, Exn.refl _ _, gb1, w1, sl1, h1⟩, ?_⟩
    rintro i m σ2 H2 ⟨rfl, hi, α2, F2, κ2, ρ2, ex2, gb2, w2, sl2, h2⟩
    by_cases hlt : i < ds.length
    · have hd : ds[i]? = some ds[i] := List.getElem?_eq_getElem hlt
      have hdr : ds.drop i = ds[i] :: ds.drop (i + 1) := List.drop_eq_getElem_cons hlt
      rw [hdr] at h2
      simp only [sFor] at h2
      obtain ⟨go, yl⟩ := j1.go α2 F2 H2 κ2 ex2 w2 i _ hd
      rcases hgd : g ds[i] ρ2 with _ | ρ3
      · rw [hgd] at h2; exact h2.elim
      · rw [hgd] at h2
        refine .inr ⟨go, fun σ' H' => i + 1 ≤ ds.length ∧ ∃ α2 F2 κ2 ρ2, Exn α1 F1 α2 F2 ∧ Gr α0 F0 Bs α2 F2 H' ∧ Wd G X.K α2 F2 H' κ2 ∧ Sls X.K α2 F2 H' Bs ρ2 σ' ∧ PSt G W X.K α0 F0 Bs α2 F2 Dn (sFor g s (ds.drop (i + 1)) ρ2 κ2),
          fun σ' H' ⟨q1, q2⟩ => ⟨ds.length - (i + 1), by omega, rfl, q1, q2⟩, fun x H3 hy => ?_⟩
        obtain ⟨F3, g3, w3, r3⟩ := yl x H3 hy
        have gb3 := gb2.trans g3
        have ex3 := ex2.trans g3.exn
        have h3 := h2.ex g3.exn
        refine hg.ok G α2 F3 H3 Bs κ2 ρ2 ρ3 σ2 _ x _ w3 (sl2.gr g3) r3 hgd fun σ3 sl3 _ => ?_
        refine ⟨α0, F0, Bs, α2, F3, ρ3, κ2, gb3, w3, sl3, ?_⟩
        rcases hm : s ρ3 κ2 with _ | ⟨o, κ4⟩
        · simp only [hm] at h3; exact h3
        · simp only [hm] at h3
          cases o with
          | nx ρ4 => exact fun α' F' H' g' x' w' σ' sl' => ⟨hlt, α', F', κ4, ρ4, ex3.trans x', g', w', sl', h3.ex x'⟩
          | ct ρ4 => exact fun α' F' H' g' x' w' σ' sl' => ⟨hlt, α', F', κ4, ρ4, ex3.trans x', g', w', sl', h3.ex x'⟩
          | bk ρ4 => exact fun α' F' H' g' x' w' σ' sl' => h3 α' F' H' g' x' w' σ' sl'
          | rt d => exact h3
          | er c => exact h3
    · have ei : i = ds.length := by omega
      subst ei
      rw [List.drop_length] at h2
      exact .inl ⟨j1.stop α2 F2 H2 κ2 ex2 w2, PSt.nx gb2 w2 sl2 h2⟩⟩
/-- the turns that a while may take at the most -/
def fuel : Nat := 18446744073709551616
theorem s_while {body : List Stmt} (hp : PassesOwn (model X.prog X.w) X.A X.env X.xe) (hc : PB G W X c k) (hb : PSsd G W X body s) : PSd G W X (.While c body [] pos) (sWhl k s fuel) :=
  ⟨ps_imp (ps_while hp hc.run hb.run) fun Dn σ H ⟨α0, F0, Bs, α, F, ρ, κ, gb, w, sl, h⟩ => by
    generalize fuel = fl at h
    refine ⟨fun m σ H => ∃ α2 F2 κ2 ρ2, Gr α0 F0 Bs α2 F2 H ∧ Wd G X.K α2 F2 H κ2 ∧ Sls X.K α2 F2 H Bs ρ2 σ ∧ PSt G W X.K α0 F0 Bs α2 F2 Dn (sWhl k s m ρ2 κ2), ⟨fl, α, F, κ, ρ, gb, w, sl, h⟩, ?_⟩
    rintro m σ2 H2 ⟨α2, F2, κ2, ρ2, gb2, w2, sl2, h2⟩
    cases m with
    | zero => exact h2.elim
    | succ m =>
      simp only [sWhl] at h2
      refine tT_mono (fun b H3 hb3 => ?_) (tT_bindS gb2 w2 sl2 h2)
      obtain ⟨α3, F3, κ3, gb3, w3, sl3, h3⟩ := hb3
      cases b with
      | false => rw [if_neg Bool.false_ne_true]; exact PSt.nx gb3 w3 sl3 h3
      | true =>
        rw [if_pos rfl]
        refine ⟨fun σ' H' => ∃ α2 F2 κ2 ρ2, Gr α0 F0 Bs α2 F2 H' ∧ Wd G X.K α2 F2 H' κ2 ∧ Sls X.K α2 F2 H' Bs ρ2 σ' ∧ PSt G W X.K α0 F0 Bs α2 F2 Dn (sWhl k s m ρ2 κ2), fun σ' H' q => ⟨m, Nat.lt_succ_self m, q⟩, ?_⟩
        refine ⟨α0, F0, Bs, α3, F3, ρ2, κ3, gb3, w3, sl3, ?_⟩
        rcases hm : s ρ2 κ3 with _ | ⟨o, κ4⟩
        · simp only [if_true, hm] at h3; exact h3
        · simp only [if_true, hm] at h3
          cases o with
          | nx ρ4 => exact fun α' F' H' g' x' w' σ' sl' => ⟨α', F', κ4, ρ4, g', w', sl', h3.ex x'⟩
          | ct ρ4 => exact fun α' F' H' g' x' w' σ' sl' => ⟨α', F', κ4, ρ4, g', w', sl', h3.ex x'⟩
          | bk ρ4 => exact fun α' F' H' g' x' w' σ' sl' => h3 α' F' H' g' x' w' σ' sl'
          | rt d => exact h3
          | er c => exact h3⟩

/-! ### own lists -/
def sApp (i : Nat) (m : Ev D) : Es := fun ρ κ => match ρ[i]? with
  | some (.own ds) => (m ρ κ).bindS fun d κ1 => if isBor d = true ∨ 16777216 ≤ ds.length then none else some (.nx (ρ.set i (.own (ds ++ [d]))), κ1)
  | _ => none
def sSetI (i : Nat) (mi m : Ev D) : Es := fun ρ κ => match ρ[i]? with
  | some (.own ds) => (m ρ κ).bindS fun d κ1 => (mi ρ κ1).bindS fun j κ2 => match j with
    | .int z => match ixN ds.length z with
      | some q => if isBor d = true then none else some (.nx (ρ.set i (.own (ds.set q d))), κ2)
      | none => none
    | _ => none
  | _ => none
/-- o[i] = e, o a list of the store -/
def sSetO (mo mi m : Ev D) : Es := fun ρ κ => (m ρ κ).bindS fun d κ1 => (mo ρ κ1).bindS fun o κ2 => (mi ρ κ2).bindS fun j κ3 => match o, j with
  | .obj n, .int z => match κ3[n]? with
    | some (.lst ds) => match ixN ds.length z with
      | some q => if isBor d = true then none else some (.nx ρ, κ3.set n (.lst (ds.set q d)))
      | none => none
    | _ => none
  | _, _ => none
/-- the own list at slot i is written -/
theorem own_write {α0 : List Addr} {F0 Bs : Hp} {α : List Addr} {F H : Hp} {κ : Ka} {ρ : List Sl} {σ : L2.St} {K : PySem.W.Frag} {i : Nat} {ds ds' : List D} {a : Addr} {xs' : List V} (gb : Gr α0 F0 Bs α F H) (w : Wd G K α F H κ) (sl : Sls K α F H Bs ρ σ)
    (he : ρ[i]? = some (.own ds)) (ha : σ[i]? = some (some (.ref a))) (r : RpL K α F ds' xs') : Gr α0 F0 Bs α F (upd H a (.lst xs')) ∧ Wd G K α F (upd H a (.lst xs')) κ ∧ Sls K α F (upd H a (.lst xs')) Bs (ρ.set i (.own ds')) σ := by
  obtain ⟨o, ho, a', xs, e, h1, h2, h3, h4, r0⟩ := sl.at' i _ he
  rw [ha] at ho; cases ho; cases e
  have hi : i < ρ.length := (List.getElem?_eq_some_iff.mp he).1
  refine ⟨gb.out h4, w.out h3 h2, by simp [sl.len], fun j s e => ?_, fun j k b ds1 es e1 e2 e3 e4 => ?_⟩
  · by_cases hj : i = j
    · subst hj
      rw [List.getElem?_set_self hi] at e; cases e
      exact ⟨_, ha, a, xs', rfl, upd_same, h2, h3, h4, r⟩
    · rw [List.getElem?_set_ne hj] at e
      obtain ⟨o', ho', so⟩ := sl.at' j s e
      refine ⟨o', ho', ?_⟩
      cases s with
      | no => trivial
      | val d =>
        obtain ⟨v, e5, r5, b5⟩ := so
        refine ⟨v, e5, ?_, b5⟩
        cases d with
        | bor es =>
          obtain ⟨c, ys, rfl, k1, k2, k3, k4⟩ := r5
          obtain ⟨c', e6, k6⟩ := b5 rfl
          cases e6
          refine ⟨c, ys, rfl, ?_, k2, k3, k4⟩
          rw [upd_ne (fun (q : c = a) => k6 (q ▸ h4))]; exact k1
        | _ => exact r5
      | own es =>
        obtain ⟨c, ys, rfl, k1, k2, k3, k4, k5⟩ := so
        refine ⟨c, ys, rfl, ?_, k2, k3, k4, k5⟩
        rw [upd_ne ?_]; exact k1
        rintro rfl
        exact hj (sl.sep i j c _ _ he e ha ho')
  · have f1 : ∃ ds2, ρ[j]? = some (.own ds2) := by
      by_cases hj : i = j
      · subst hj; exact ⟨_, he⟩
      · rw [List.getElem?_set_ne hj] at e1; exact ⟨_, e1⟩
    have f2 : ∃ ds2, ρ[k]? = some (.own ds2) := by
      by_cases hk : i = k
      · subst hk; exact ⟨_, he⟩
      · rw [List.getElem?_set_ne hk] at e2; exact ⟨_, e2⟩
    obtain ⟨d1, f1⟩ := f1
    obtain ⟨d2, f2⟩ := f2
    exact sl.sep j k b _ _ f1 f2 e3 e4
theorem own_at {K : PySem.W.Frag} {α : List Addr} {F H Bs : Hp} {ρ : List Sl} {σ : L2.St} {i : Nat} {ds : List D} (sl : Sls K α F H Bs ρ σ) (he : ρ[i]? = some (.own ds)) : ∃ a xs, σ[i]? = some (some (.ref a)) ∧ H a = some (.lst xs) ∧ a ∉ α ∧ RpL K α F ds xs := by
  obtain ⟨o, ho, a, xs, e, h1, h2, h3, h4, r0⟩ := sl.at' i _ he
  cases e
  exact ⟨a, xs, ho, h1, h3, r0⟩
theorem s_app {i : Nat} {x : Str} {px apos cpos : Pos} (h1 : PD G W X e m) (hN : X.N[i]? = some x := by rfl) (hv : Vis X.env.scope x := by first | exact Or.inl rfl | exact Or.inr (Or.inl rfl) | exact Or.inr (Or.inr rfl)) (hd : (x == ("__debug__" : Str)) = false := by decide) (hcd : (x == ("__classdict__" : Str)) = false := by decide)
    (hs : starEach [e] X.env = (false, eval e X.env) :: starEach [] X.env := by rfl)
    (hsw : swapsWith (.Call (.Attribute (.Name x px) "append" apos) [e] [] cpos) none pos.line X.env = pure false := by rfl)
    (hb : attributeBase (.Name x px) "append" X.env (eval (.Name x px) X.env) = eval (.Name x px) X.env := by rfl) (hline : (apos.endLine == cpos.line) = true := by rfl)
    (hfew : ((backTo cpos (starEach [e] X.env)).all (fun x => !x.1) && (backToKw cpos (keywordEach [] X.env)).all (fun x => x.1.isSome)
      && decide ([e].length + ([] : List Keyword).length + (if ([] : List Keyword).isEmpty then 0 else 1) < 30)) = true := by rfl) :
    PSd G W X (.Expr (.Call (.Attribute (.Name x px) "append" apos) [e] [] cpos) pos) (sApp i m) :=
  ⟨ps_imp (ps_expr (pe_bm PySem.F.plainAttrs_list PySem.F.slot_list_append PySem.F.type_list_append mt_append (pe_var hN hv hd hcd) (pa_cons h1.run pa_nil hs) hb hfew hline hs) hsw) fun Dn σ H ⟨α0, F0, Bs, α, F, ρ, κ, gb, w, sl, h⟩ => by
    unfold sApp at h
    split at h
    · rename_i ds he
      obtain ⟨a, xs, hσ, ha, na, r⟩ := own_at sl he
      refine ⟨.ref a, hσ, .inl ⟨rfl, xs, SqL.of ha⟩, ?_⟩
      refine tD_mono (fun y H1 ⟨α1, F1, κ1, d, g1, gb1, w1, sl1, r1, h1⟩ => ?_) (tD_bindS gb w sl h)
      split at h1
      · exact h1.elim
      · rename_i hnb
        have hnb1 : isBor d = false := by
          cases q : isBor d with
          | false => rfl
          | true => exact absurd (.inl q) hnb
        have hnb2 : ds.length < 16777216 := Nat.lt_of_not_le fun q => hnb (.inr q)
        have r2 := r.gr g1
        obtain ⟨k1, k2, k3⟩ := own_write gb1 w1 sl1 he hσ (r2.append (.cons (r1.rp hnb1) .nil))
        exact ⟨a, xs, y, rfl, rfl, g1.ke _ _ ha na, by rw [sizeLine_eq, ← r.length]; exact hnb2, PSt.nx k1 k2 k3 h1⟩
    · exact h.elim⟩
theorem s_seti {i : Nat} {x : Str} {px tpos : Pos} (h1 : PD G W X e m) (h2 : PD G W X b mb) (hN : X.N[i]? = some x := by rfl) (hv : Vis X.env.scope x := by first | exact Or.inl rfl | exact Or.inr (Or.inl rfl) | exact Or.inr (Or.inr rfl)) (hd : (x == ("__debug__" : Str)) = false := by decide) (hcd : (x == ("__classdict__" : Str)) = false := by decide)
    (ha : ∀ v, assign (.Subscript (.Name x px) b tpos) X.env v = (do
      let ov ← holding [v] (eval (.Name x px) X.env)
      let iv ← holding [v, ov] (eval b X.env)
      standAt tpos
      holding [v, ov, iv] (setItem ov iv v)
      release [v, ov, iv] []) := by intro _; rfl)
    (hs : swapsWithSole [.Subscript (.Name x px) b tpos] e pos.line X.env = pure false := by rfl) (hw : swappedStores [.Subscript (.Name x px) b tpos] e X.env = pure none := by rfl) (hz : (assignEach [.Subscript (.Name x px) b tpos] X.env).map (·.2) = [assign (.Subscript (.Name x px) b tpos) X.env] := by rfl) :
    PSd G W X (.Assign [.Subscript (.Name x px) b tpos] e pos) (sSetI i mb m) :=
  ⟨ps_imp (ps_asg h1.run (pg_sub (pe_var hN hv hd hcd) h2.run set_list ha) hs hw hz) fun Dn σ H ⟨α0, F0, Bs, α, F, ρ, κ, gb, w, sl, h⟩ => by
    unfold sSetI at h
    split at h
    · rename_i ds he
      refine tD_mono (fun y H1 ⟨α1, F1, κ1, d, g1, gb1, w1, sl1, r1, h1⟩ => ?_) (tD_bindS gb w sl h)
      obtain ⟨a, xs, hσ, ha, na, r⟩ := own_at sl1 he
      refine ⟨.ref a, hσ, ?_⟩
      refine tD_mono (fun z H2 ⟨α2, F2, κ2, j, g2, gb2, w2, sl2, r2, h2⟩ => ?_) (tD_bindS gb1 w1 sl1 h1)
      split at h2
      · rename_i z'
        split at h2
        · rename_i q hq
          split at h2
          · exact h2.elim
          · rename_i hb
            have rd := (r1.gr g2).rp (by cases q : isBor d <;> simp_all)
            have r3 := r.gr g2
            obtain ⟨k1, k2, k3⟩ := own_write gb2 w2 sl2 he hσ (r3.set rd q)
            exact ⟨a, xs, z', q, rfl, rv_int r2, g2.ke _ _ ha na, by rw [← r.length]; exact hq, PSt.nx k1 k2 k3 h2⟩
        · exact h2.elim
      · exact h2.elim
    · exact h.elim⟩
/-- a list of the store is written -/
theorem cell_write {α0 : List Addr} {F0 Bs : Hp} {α : List Addr} {F H : Hp} {κ : Ka} {ρ : List Sl} {σ : L2.St} {K : PySem.W.Frag} {n : Nat} {ds ds' : List D} {a : Addr} {xs' : List V} (gb : Gr α0 F0 Bs α F H) (w : Wd G K α F H κ) (sl : Sls K α F H Bs ρ σ)
    (ha : α[n]? = some a) (hk : κ[n]? = some (.lst ds)) (r : RpL K α F ds' xs') : Gr α0 F0 Bs α F (upd H a (.lst xs')) ∧ Wd G K α F (upd H a (.lst xs')) (κ.set n (.lst ds')) ∧ Sls K α F (upd H a (.lst xs')) Bs ρ σ := by
  have am : a ∈ α := List.mem_of_getElem? ha
  have fa : F a = none := w.fre a am
  refine ⟨⟨gb.al, gb.fr, gb.fn, fun b u e m => ?_, fun b e => ?_⟩, ⟨fun b u e => ?_, by simp [w.len], w.inj, w.fre, fun k b c e1 e2 => ?_⟩, ⟨sl.len, fun j s e => ?_, sl.sep⟩⟩
  · have h1 := gb.ke b u e m
    rw [upd_ne ?_]; exact h1
    rintro rfl
    obtain ⟨β, rfl, hβ⟩ := gb.al
    rcases List.mem_append.mp am with z | z
    · exact m z
    · rw [hβ _ z] at e; cases e
  · by_cases hb : b = a
    · subst hb; rw [upd_same]; simp
    · rw [upd_ne hb]; exact gb.dm b e
  · rw [upd_ne (ne_of_none e fa)]; exact w.sub _ _ e
  · by_cases hk' : k = n
    · subst hk'
      rw [ha] at e1; cases e1
      have hl : k < κ.length := (List.getElem?_eq_some_iff.mp hk).1
      rw [List.getElem?_set_self hl] at e2; cases e2
      exact ⟨xs', upd_same, r⟩
    · rw [List.getElem?_set_ne (Ne.symm hk')] at e2
      have := (w.cel k b c e1 e2).keep (β := []) (F' := F) (H' := upd H a (.lst xs')) (Same.refl _) (upd_ne (fun (q : b = a) => hk' (w.inj k n a (q ▸ e1) ha)))
      rwa [List.append_nil] at this
  · obtain ⟨o, ho, so⟩ := sl.at' j s e
    refine ⟨o, ho, ?_⟩
    cases s with
    | no => trivial
    | val d =>
      obtain ⟨v, e5, r5, b5⟩ := so
      refine ⟨v, e5, ?_, b5⟩
      cases d with
      | bor es =>
        obtain ⟨c, ys, rfl, k1, k2, k3, k4⟩ := r5
        exact ⟨c, ys, rfl, by rw [upd_ne (fun (q : c = a) => k2 (q ▸ am))]; exact k1, k2, k3, k4⟩
      | _ => exact r5
    | own es =>
      obtain ⟨c, ys, rfl, k1, k2, k3, k4, k5⟩ := so
      exact ⟨c, ys, rfl, by rw [upd_ne (fun (q : c = a) => k3 (q ▸ am))]; exact k1, k2, k3, k4, k5⟩
theorem s_seto {o i : Expr} {mo mi : Ev D} {tpos : Pos} (h1 : PD G W X e m) (ho : PD G W X o mo) (hi : PD G W X i mi)
    (ha : ∀ v, assign (.Subscript o i tpos) X.env v = (do
      let ov ← holding [v] (eval o X.env)
      let iv ← holding [v, ov] (eval i X.env)
      standAt tpos
      holding [v, ov, iv] (setItem ov iv v)
      release [v, ov, iv] []) := by intro _; rfl)
    (hs : swapsWithSole [.Subscript o i tpos] e pos.line X.env = pure false := by rfl) (hw : swappedStores [.Subscript o i tpos] e X.env = pure none := by rfl) (hz : (assignEach [.Subscript o i tpos] X.env).map (·.2) = [assign (.Subscript o i tpos) X.env] := by rfl) :
    PSd G W X (.Assign [.Subscript o i tpos] e pos) (sSetO mo mi m) :=
  ⟨ps_imp (ps_asg h1.run (pg_sub ho.run hi.run set_list ha) hs hw hz) fun Dn σ H ⟨α0, F0, Bs, α, F, ρ, κ, gb, w, sl, h⟩ => by
    refine tD_mono (fun y H1 ⟨α1, F1, κ1, d, g1, gb1, w1, sl1, r1, h1⟩ => ?_) (tD_bindS gb w sl h)
    refine tD_mono (fun x H2 ⟨α2, F2, κ2, q, g2, gb2, w2, sl2, r2, h2⟩ => ?_) (tD_bindS gb1 w1 sl1 h1)
    refine tD_mono (fun z H3 ⟨α3, F3, κ3, j, g3, gb3, w3, sl3, r3, h3⟩ => ?_) (tD_bindS gb2 w2 sl2 h2)
    have rq := r2.gr g3
    cases q with
    | obj n' =>
      cases j with
      | int z' =>
        simp only at h3
        split at h3
        · rename_i ds hk
          split at h3
          · rename_i q' hq
            split at h3
            · exact h3.elim
            · rename_i hb
              cases rq with
              | obj hα =>
                obtain ⟨xs, hx, r⟩ := w3.cell hα hk
                have rd := ((r1.gr g2).gr g3).rp (by cases q : isBor d <;> simp_all)
                obtain ⟨k1, k2, k3⟩ := cell_write gb3 w3 sl3 hα hk (r.set rd q')
                exact ⟨_, xs, z', q', rfl, rv_int r3, hx, by rw [← r.length]; exact hq, PSt.nx k1 k2 k3 h3⟩
          · exact h3.elim
        · exact h3.elim
      | _ => exact h3.elim
    | _ => exact h3.elim⟩
/-- [..] as a thing of the store -/
theorem d_st (h : PF G W X e n) : PD G W X e (eSt n) :=
  ⟨pe_imp h.run fun σ H Q ⟨α, F, ρ, κ, Bs, w, sl, h⟩ => by
    refine ⟨α, F, ρ, κ, Bs, w, sl, ?_⟩
    unfold eSt at h
    rcases hm : n ρ κ with _ | ⟨o, κ'⟩
    · rw [hm] at h; exact h
    · rw [hm] at h
      cases o with
      | er c => exact h
      | ok ds =>
        intro α' F' H' g w' a xs h1 h2 h3 h4 r
        have hs : H' a ≠ none := by rw [h1]; simp
        refine h (α' ++ [a]) F' H' ⟨?_, g.fr, g.fn, g.ke, g.dm⟩ ⟨w'.sub, by simp [w'.len], fun i j b e1 e2 => ?_, fun b m => ?_, fun k b c e1 e2 => ?_⟩ _ (Rp.rv (.obj (by rw [← w'.len]; simp)))
        · obtain ⟨β, rfl, hβ⟩ := g.al
          exact ⟨β ++ [a], by simp, fun b m => by rcases List.mem_append.mp m with z | z; exact hβ b z; simp at z; rw [z]; exact h4⟩
        · have key : ∀ i, (α' ++ [a])[i]? = some b → (i < α'.length ∧ α'[i]? = some b) ∨ (i = α'.length ∧ b = a) := fun i e => by
            by_cases hi : i < α'.length
            · rw [List.getElem?_append_left hi] at e; exact .inl ⟨hi, e⟩
            · rw [List.getElem?_append_right (Nat.le_of_not_lt hi)] at e
              have : i - α'.length = 0 := by
                refine Nat.eq_zero_of_not_pos fun q => ?_
                rw [List.getElem?_eq_none (by simp; omega)] at e; cases e
              rw [this] at e
              simp at e
              exact .inr ⟨by omega, e.symm⟩
          rcases key i e1 with ⟨p1, p2⟩ | ⟨p1, p2⟩ <;> rcases key j e2 with ⟨q1, q2⟩ | ⟨q1, q2⟩
          · exact w'.inj i j b p2 q2
          · subst q2; exact absurd (List.mem_of_getElem? p2) h3
          · subst p2; exact absurd (List.mem_of_getElem? q2) h3
          · rw [p1, q1]
        · rcases List.mem_append.mp m with z | z
          · exact w'.fre b z
          · simp at z; rw [z]; exact h2
        · by_cases hk : k < α'.length
          · rw [List.getElem?_append_left hk] at e1
            rw [List.getElem?_append_left (by rw [← w'.len]; exact hk)] at e2
            exact (w'.cel k b c e1 e2).keep (Same.refl _) rfl
          · rw [List.getElem?_append_right (Nat.le_of_not_lt hk)] at e1
            have k0 : k - α'.length = 0 := by
              refine Nat.eq_zero_of_not_pos fun q => ?_
              rw [List.getElem?_eq_none (by simp; omega)] at e1; cases e1
            rw [k0] at e1
            rw [List.getElem?_append_right (by rw [← w'.len]; exact Nat.le_of_not_lt hk)] at e2
            rw [← w'.len, k0] at e2
            simp at e1 e2
            subst e1 e2
            exact ⟨xs, h1, r.mono (Same.refl _)⟩⟩
/-! ### a, b = x, y; x op= e -/
def sPar (i j : Nat) (n : Ev (List D)) : Es := fun ρ κ => (n ρ κ).bindS fun ds κ1 => match ds with
  | [d, e] => if noBor ds = true then some (.nx ((ρ.set i (.val d)).set j (.val e)), κ1) else none
  | _ => none
theorem s_par {i j : Nat} {x y : Str} {px py pt : Pos} {kt k2 pt2} (hc : X.calm = true) (hN : X.N.Nodup) (ha : PDL G W X [a, b] n)
    (hw : swappedStores [.Tuple [.Name x px, .Name y py] kt pt] (.Tuple [a, b] k2 pt2) X.env = pure (some [x, y])) (hi : X.N[i]? = some x := by rfl) (hj : X.N[j]? = some y := by rfl) (hij : i ≠ j := by decide)
    (hx : X.env.scope.names.lookup x = some .local := by rfl) (hy : X.env.scope.names.lookup y = some .local := by rfl)
    (hs : swapsWithSole [.Tuple [.Name x px, .Name y py] kt pt] (.Tuple [a, b] k2 pt2) pos.line X.env = pure false := by rfl) :
    PSd G W X (.Assign [.Tuple [.Name x px, .Name y py] kt pt] (.Tuple [a, b] k2 pt2) pos) (sPar i j n) :=
  ⟨ps_imp (ps_par hc hN hi hj hij hx hy ha.run hw hs) fun Dn σ H ⟨α0, F0, Bs, α, F, ρ, κ, gb, w, sl, h⟩ =>
    tL_mono (fun vs H1 ⟨α1, F1, κ1, ds, g1, gb1, w1, sl1, r1, h1⟩ => by
      split at h1
      · rename_i d e
        split at h1
        · rename_i hb
          have r2 := r1.rpl hb
          cases r2 with
          | cons ra rt => cases rt with | cons rb rt => cases rt; exact ⟨_, _, rfl, PSt.nx gb1 w1 ((sl1.setVal i ra).setVal j rb) h1⟩
        · exact h1.elim
      · exact h1.elim) (tL_bindS gb w sl h)⟩
def sAug (i : Nat) (f : D → D → Option D) (m : Ev D) : Es := fun ρ κ => match ρ[i]? with
  | some (.val d) => (m ρ κ).bindS fun e κ1 => match f d e with
    | some r => if isBor r = true then none else some (.nx (ρ.set i (.val r)), κ1)
    | none => none
  | _ => none
def oAddI (x y : D) : Option D := match x, y with
  | .int i, .int j => some (.int (i + j))
  | _, _ => none
def oSubI (x y : D) : Option D := match x, y with
  | .int i, .int j => some (.int (i - j))
  | _, _ => none
theorem s_augI {i : Nat} {x : Str} {pos' : Pos} {op : Operator} {q : Int → Int → Int} {f : D → D → Option D} (hN : X.N.Nodup) (h1 : PD G W X e m) (ho : PIp X op (ipI q)) (hf : ∀ d e r, f d e = some r → ∃ i j, d = .int i ∧ e = .int j ∧ r = .int (q i j))
    (hi : X.N[i]? = some x := by rfl) (hx : Loc X.env.scope x := by first | exact .inl rfl | exact .inr rfl) (hfn : X.fn x = true ∨ X.env.scope.names.lookup x = some .local := by first | exact .inl rfl | exact .inr rfl | assumption) : PSd G W X (.AugAssign (.Name x pos') op e pos) (sAug i f m) :=
  ⟨ps_imp (ps_aug hN hi hx h1.run ho hfn) fun Dn σ H ⟨α0, F0, Bs, α, F, ρ, κ, gb, w, sl, h⟩ => by
    unfold sAug at h
    split at h
    · rename_i d he
      obtain ⟨o, ho, v, rfl, r0, _⟩ := sl.at' i _ he
      refine ⟨v, ho, ?_⟩
      refine tD_mono (fun y H1 ⟨α1, F1, κ1, e, g1, gb1, w1, sl1, r1, h1⟩ => ?_) (tD_bindS gb w sl h)
      rcases hr : f d e with _ | r
      · simp only [hr] at h1; exact h1.elim
      · simp only [hr] at h1
        obtain ⟨a, b, rfl, rfl, rfl⟩ := hf d e r hr
        rw [if_neg (show ¬ isBor (D.int (q a b)) = true from fun z => by cases z)] at h1
        exact ⟨a, b, rv_int r0, rv_int r1, PSt.nx gb1 w1 (sl1.setVal i (.int _)) h1⟩
    · exact h.elim⟩
theorem s_augAdd {i : Nat} {x : Str} {pos' : Pos} (hN : X.N.Nodup) (h1 : PD G W X e m)
    (hi : X.N[i]? = some x := by rfl) (hx : Loc X.env.scope x := by first | exact .inl rfl | exact .inr rfl) (hfn : X.fn x = true ∨ X.env.scope.names.lookup x = some .local := by first | exact .inl rfl | exact .inr rfl | assumption) : PSd G W X (.AugAssign (.Name x pos') .Add e pos) (sAug i oAddI m) :=
  s_augI hN h1 ip_add (fun d e r h => by unfold oAddI at h; split at h <;> first | (cases h; exact ⟨_, _, rfl, rfl, rfl⟩) | cases h) hi hx hfn
theorem s_augSub {i : Nat} {x : Str} {pos' : Pos} (hN : X.N.Nodup) (h1 : PD G W X e m)
    (hi : X.N[i]? = some x := by rfl) (hx : Loc X.env.scope x := by first | exact .inl rfl | exact .inr rfl) (hfn : X.fn x = true ∨ X.env.scope.names.lookup x = some .local := by first | exact .inl rfl | exact .inr rfl | assumption) : PSd G W X (.AugAssign (.Name x pos') .Sub e pos) (sAug i oSubI m) :=
  s_augI hN h1 ip_sub (fun d e r h => by unfold oSubI at h; split at h <;> first | (cases h; exact ⟨_, _, rfl, rfl, rfl⟩) | cases h) hi hx hfn
end
/-! ### defs -/
/-- an error is no end of a def that lets none out -/
def noEr {β : Type} (r : Re β) : Re β := match r with
  | some (.ok a, k) => some (.ok a, k)
  | _ => none
def slots (N : Nat) (ds : List D) : List Sl := ds.map Sl.val ++ List.replicate (N - ds.length) .no
/-- what a def means: its body over its slots -/
def mean (N : Nat) (body : Es) (ds : List D) (κ : Ka) : Re D := match body (slots N ds) κ with
  | some (.nx _, κ') => some (.ok .non, κ')
  | some (.rt d, κ') => some (.ok d, κ')
  | some (.er c, κ') => some (.er c, κ')
  | _ => none
theorem sls_start {K : PySem.W.Frag} {α : List Addr} {F H : Hp} {ds : List D} {vs : List V} {N : List Str} (r : RvL K α F H ds vs) : Sls K α F H H (slots N.length ds) (L2.start N vs) := by
  have el := r.length
  have key : ∀ (i : Nat) (s : Sl), (slots N.length ds)[i]? = some s → ∃ o, (L2.start N vs)[i]? = some o ∧ SlOk K α F H H s o ∧ ∀ es, s ≠ .own es := by
    intro i s e
    unfold slots at e
    unfold L2.start
    by_cases hi : i < ds.length
    · rw [List.getElem?_append_left (by simpa using hi), List.getElem?_map] at e
      obtain ⟨d, hd, rfl⟩ := Option.map_eq_some_iff.mp e
      have : ∃ v, vs[i]? = some v ∧ Rv K α F H d v := by
        clear e hi el
        induction r generalizing i with
        | nil => simp at hd
        | cons h t ih =>
          cases i with
          | zero => simp at hd; subst hd; exact ⟨_, by simp, h⟩
          | succ i => obtain ⟨v, a, b⟩ := ih i (by simpa using hd); exact ⟨v, by simpa using a, b⟩
      obtain ⟨v, hv, rv⟩ := this
      refine ⟨some v, ?_, ⟨v, rfl, rv, fun hb => ?_⟩, fun es q => by cases q⟩
      · rw [List.getElem?_append_left (by rw [List.length_map, ← el]; exact hi), List.getElem?_map, hv]; rfl
      · cases d with
        | bor es => obtain ⟨a, xs, rfl, h1, _⟩ := rv; exact ⟨a, rfl, by rw [h1]; simp⟩
        | _ => cases hb
    · rw [List.getElem?_append_right (by simpa using Nat.le_of_not_lt hi)] at e
      have e' := List.getElem?_eq_some_iff.mp e
      obtain ⟨h1, h2⟩ := e'
      simp at h1 h2
      subst h2
      refine ⟨none, ?_, trivial, fun es q => by cases q⟩
      rw [List.getElem?_append_right (by rw [List.length_map, ← el]; exact Nat.le_of_not_lt hi)]
      rw [List.length_map, ← el]
      rw [List.getElem?_replicate]
      rw [if_pos (by omega)]
  refine ⟨?_, fun i s e => let ⟨o, a, b, _⟩ := key i s e; ⟨o, a, b⟩, fun i j a ds' es e1 _ _ _ => ?_⟩
  · unfold slots L2.start; simp [el]
  · obtain ⟨_, _, _, q⟩ := key i _ e1
    exact absurd rfl (q ds')
/-- a def (no error leaves it) keeps the promise of its meaning -/
theorem fn_ok {P : Program} {w : World} {K : PySem.W.Frag} {mg : Str → Option Value} {base : Heap} {G : Gx} {x qual : Str} {st : Stmt} {f : Addr} {fd : FuncData} {N ps : List Str} {k : Nat} {s : Es} (F : Fun K x qual st f fd) (S : FnScope N ps (defScope st))
    (hb : ∀ (cdv : Value) (A : Around) (outer : List Env) (s0 : Shared) (H : Hp) (E : XK), Room k (A.deeper (envOfC qual (defScope st) s0.heap.objs.size f cdv)) → PSsd G E0 (cxOf CX0 P w K mg base N qual (defScope st) f cdv A outer s0 H E).nox (defBody st) s) :
    FnOk P w K mg base CX0 (k + 1) f fd ps (spD G K ps.length (fun ds κ => noEr (mean N.length s ds κ))) := by
  refine F.ok S (fun vs H Q E h => h.1) (fun cdv A outer s0 H vs Q E hr h => ?_)
  obtain ⟨hl, α, Fh, κ, ds, w0, r, h⟩ := h
  refine ⟨_, (hb cdv A outer s0 H E hr).run, α, Fh, H, α, Fh, slots N.length ds, κ, Gr.refl _ _ _, w0, sls_start r, ?_⟩
  unfold mean at h
  rcases hm : s (slots N.length ds) κ with _ | ⟨o, κ'⟩
  · simp only [hm, noEr] at h; exact h
  · simp only [hm] at h
    cases o with
    | nx ρ => exact fun α' F' H' g x w' σ' sl' => h α' F' H' g w' _ .non
    | rt d => exact fun α' F' H' g x w' v r' => h α' F' H' g w' _ r'.rv
    | bk ρ => exact h.elim
    | ct ρ => exact h.elim
    | er c => exact h.elim
end
end DL
set_option Elab.async false
set_option linter.all false
set_option maxRecDepth 100000
set_option maxHeartbeats 4000000
/-! DL8: defs that call one another, the law's end. -/
namespace DL
noncomputable section
open PySem PySem.Spec PyProof.Rows L2
/-- the def called x means fm -/
structure FD (P : Program) (w : World) (K : PySem.W.Frag) (mg : Str → Option Value) (base : Heap) (G : Gx) (k : Nat) (x : Str) (ar : Nat) (fm : List D → Ka → Re D) : Prop where
  ex : ∃ f fd ps, FnOk P w K mg base CX0 k f fd ps (spD G K ar fm) ∧ mg x = some (.ref f) ∧ PySem.W.keepIn K (.ref f) = true ∧ Binds K fd ps []
section
variable {P : Program} {w : World} {K : PySem.W.Frag} {mg : Str → Option Value} {base : Heap} {G : Gx} {j k ar : Nat} {x : Str} {fm : List D → Ka → Re D}
theorem FD.mono (F : FD P w K mg base G j x ar fm) (h : j ≤ k) : FD P w K mg base G k x ar fm :=
  let ⟨f, fd, ps, a, b, c, d⟩ := F.ex
  ⟨f, fd, ps, a.mono h, b, c, d⟩
/-- a meaning that is never defined is kept by any def -/
theorem FD.zero {qual : Str} {st : Stmt} {f : Addr} {fd : FuncData} {ps : List Str} (F : Fun K x qual st f fd) (b : Binds K fd ps []) (m : mg x = some (.ref f)) (hl : ar = ps.length) : FD P w K mg base G k x ar (fun _ _ => none) := by
  subst hl
  exact ⟨f, fd, ps, ⟨fun vs H Q E h => h.1, fun A outer s H args us vs Q E hr he hb hv ⟨_, _, _, _, _, _, _, h⟩ => h.elim⟩, m, F.kp, b⟩
theorem fn_fd {qual : Str} {st : Stmt} {f : Addr} {fd : FuncData} {N ps : List Str} {s : Es} (F : Fun K x qual st f fd) (S : FnScope N ps (defScope st)) (b : Binds K fd ps []) (m : mg x = some (.ref f))
    (hb : ∀ (cdv : Value) (A : Around) (outer : List Env) (s0 : Shared) (H : Hp) (E : XK), Room k (A.deeper (envOfC qual (defScope st) s0.heap.objs.size f cdv)) → PSsd G E0 (cxOf CX0 P w K mg base N qual (defScope st) f cdv A outer s0 H E).nox (defBody st) s) :
    FD P w K mg base G (k + 1) x ps.length (fun ds κ => noEr (mean N.length s ds κ)) := ⟨f, fd, ps, fn_ok F S hb, m, F.kp, b⟩
end
section
variable {G : Gx} {W : XK} {X : Cx} {e a b c : Expr} {es : List Expr} {m ma mb mc : Ev D} {n : Ev (List D)} {pos p : Pos}
theorem d_call {j k ar : Nat} {x : Str} {fm : List D → Ka → Re D} (F : FD X.prog X.w X.K X.mg X.base G j x ar fm) (hr : Room k X.A) (ha : PDL G W X (e :: es) n) (hjk : j ≤ k := by decide) (hg : Gl X x := by rfl)
    (hdb : (x == ("__debug__" : Str)) = false := by decide) (he : starEach (e :: es) X.env = (false, eval e X.env) :: starEach es X.env := by rfl) (hpl : (backTo pos (starEach es X.env)).any (·.1) = false := by rfl) :
    PD G W X (.Call (.Name x p) (e :: es) [] pos) (eCall ar fm n) := by
  obtain ⟨f, fd, ps, h1, h2, h3, h4⟩ := F.ex
  exact pd_call h1 (hr.mono hjk) hg h2 h3 h4 (fun _ _ _ _ _ _ _ h => h.elim) ha hdb he hpl
theorem d_call0 {j k : Nat} {x : Str} {fm : List D → Ka → Re D} (F : FD X.prog X.w X.K X.mg X.base G j x 0 fm) (hr : Room k X.A) (hjk : j ≤ k := by decide) (hg : Gl X x := by rfl) (hdb : (x == ("__debug__" : Str)) = false := by decide) :
    PD G W X (.Call (.Name x p) [] [] pos) (eCall 0 fm aNil) := by
  obtain ⟨f, fd, ps, h1, h2, h3, h4⟩ := F.ex
  exact pd_call0 h1 (hr.mono hjk) hg h2 h3 h4 (fun _ _ _ _ _ _ _ h => h.elim) hdb
/-- constants of the top -/
theorem d_gint {x : Str} {i : Int} (hm : ∃ t, X.mg x = some (.int i t)) (hg : Gl X x := by rfl) (hdb : (x == ("__debug__" : Str)) = false := by decide) : PD G W X (.Name x pos) (eC (.int i)) :=
  let ⟨t, h⟩ := hm; pd_glob hg h (v := .int i) ⟨t, rfl⟩ (fun _ _ => .int i) hdb
theorem d_gstr {x : Str} {i : Str} (hm : ∃ t, X.mg x = some (.str i t)) (hg : Gl X x := by rfl) (hdb : (x == ("__debug__" : Str)) = false := by decide) : PD G W X (.Name x pos) (eC (.str i)) :=
  let ⟨t, h⟩ := hm; pd_glob hg h (v := .str i) ⟨t, rfl⟩ (fun _ _ => .str i) hdb
def eNeg (m : Ev D) : Ev D := eUn (fun d κ => rOf (oNeg d) κ) m
theorem d_neg' (ha : PD G W X a ma) : PD G W X (.UnaryOp .USub a pos) (eNeg ma) := d_neg ha
/-! short words, the names' facts by rfl -/
theorem w_len (hm : X.mg "len" = none) (ha : PD G W X e m) (hg : Gl X "len" := by rfl) (hs : starEach [e] X.env = (false, eval e X.env) :: starEach [] X.env := by rfl) (hpl : (backTo pos (starEach [] X.env)).any (·.1) = false := by rfl) : PD G W X (.Call (.Name "len" p) [e] [] pos) (eBi bLen (aCons m aNil)) := d_len hg hm (pl_cons ha pl_nil hs) hs hpl
theorem w_sum (hm : X.mg "sum" = none) (ha : PD G W X e m) (hc : X.calm = true := by rfl) (hg : Gl X "sum" := by rfl) (hs : starEach [e] X.env = (false, eval e X.env) :: starEach [] X.env := by rfl) (hpl : (backTo pos (starEach [] X.env)).any (·.1) = false := by rfl) : PD G W X (.Call (.Name "sum" p) [e] [] pos) (eBi bSum (aCons m aNil)) := d_sum hc hg hm (pl_cons ha pl_nil hs) hs hpl
theorem w_abs (hm : X.mg "abs" = none) (ha : PD G W X e m) (hg : Gl X "abs" := by rfl) (hs : starEach [e] X.env = (false, eval e X.env) :: starEach [] X.env := by rfl) (hpl : (backTo pos (starEach [] X.env)).any (·.1) = false := by rfl) : PD G W X (.Call (.Name "abs" p) [e] [] pos) (eBi bAbs (aCons m aNil)) := d_abs hg hm (pl_cons ha pl_nil hs) hs hpl
theorem w_int (hm : X.mg "int" = none) (ha : PD G W X e m) (hg : Gl X "int" := by rfl) (hs : starEach [e] X.env = (false, eval e X.env) :: starEach [] X.env := by rfl) (hpl : (backTo pos (starEach [] X.env)).any (·.1) = false := by rfl) : PD G W X (.Call (.Name "int" p) [e] [] pos) (eBi bInt (aCons m aNil)) := d_int1 hg hm (pl_cons ha pl_nil hs) hs hpl
theorem w_tuple (hm : X.mg "tuple" = none) (ha : PD G W X e m) (hg : Gl X "tuple" := by rfl) (hs : starEach [e] X.env = (false, eval e X.env) :: starEach [] X.env := by rfl) (hpl : (backTo pos (starEach [] X.env)).any (·.1) = false := by rfl) : PD G W X (.Call (.Name "tuple" p) [e] [] pos) (eBi bTuple (aCons m aNil)) := d_tuple hg hm (pl_cons ha pl_nil hs) hs hpl
theorem w_list (hm : X.mg "list" = none) (ha : PD G W X e m) (hg : Gl X "list" := by rfl) (hs : starEach [e] X.env = (false, eval e X.env) :: starEach [] X.env := by rfl) (hpl : (backTo pos (starEach [] X.env)).any (·.1) = false := by rfl) : PF G W X (.Call (.Name "list" p) [e] [] pos) (fBi bList (aCons m aNil)) := d_list hg hm (pl_cons ha pl_nil hs) hs hpl
theorem w_max1 (hm : X.mg "max" = none) (ha : PD G W X e m) (hc : X.calm = true := by rfl) (hg : Gl X "max" := by rfl) (hs : starEach [e] X.env = (false, eval e X.env) :: starEach [] X.env := by rfl) (hpl : (backTo pos (starEach [] X.env)).any (·.1) = false := by rfl) : PD G W X (.Call (.Name "max" p) [e] [] pos) (eBi bMax (aCons m aNil)) := d_max hc hg hm (pl_cons ha pl_nil hs) hs hpl
theorem w_min1 (hm : X.mg "min" = none) (ha : PD G W X e m) (hc : X.calm = true := by rfl) (hg : Gl X "min" := by rfl) (hs : starEach [e] X.env = (false, eval e X.env) :: starEach [] X.env := by rfl) (hpl : (backTo pos (starEach [] X.env)).any (·.1) = false := by rfl) : PD G W X (.Call (.Name "min" p) [e] [] pos) (eBi bMin (aCons m aNil)) := d_min hc hg hm (pl_cons ha pl_nil hs) hs hpl
theorem w_max2 (hm : X.mg "max" = none) (ha : PD G W X a ma) (hb : PD G W X b mb) (hc : X.calm = true := by rfl) (hg : Gl X "max" := by rfl) (hs : starEach [a, b] X.env = (false, eval a X.env) :: starEach [b] X.env := by rfl) (hs2 : starEach [b] X.env = (false, eval b X.env) :: starEach [] X.env := by rfl) (hpl : (backTo pos (starEach [b] X.env)).any (·.1) = false := by rfl) : PD G W X (.Call (.Name "max" p) [a, b] [] pos) (eBi bMax (aCons ma (aCons mb aNil))) := d_max hc hg hm (pl_cons ha (pl_cons hb pl_nil hs2) hs) hs hpl
theorem w_min2 (hm : X.mg "min" = none) (ha : PD G W X a ma) (hb : PD G W X b mb) (hc : X.calm = true := by rfl) (hg : Gl X "min" := by rfl) (hs : starEach [a, b] X.env = (false, eval a X.env) :: starEach [b] X.env := by rfl) (hs2 : starEach [b] X.env = (false, eval b X.env) :: starEach [] X.env := by rfl) (hpl : (backTo pos (starEach [b] X.env)).any (·.1) = false := by rfl) : PD G W X (.Call (.Name "min" p) [a, b] [] pos) (eBi bMin (aCons ma (aCons mb aNil))) := d_min hc hg hm (pl_cons ha (pl_cons hb pl_nil hs2) hs) hs hpl
theorem w_isi {T : Str} {Ts : String} {p2 : Pos} (hT : bootBuiltins T = some (.type Ts)) (hm : X.mg "isinstance" = none) (hm2 : X.mg T = none) (ha : PD G W X a ma) (hg : Gl X "isinstance" := by rfl) (hg2 : Gl X T := by rfl)
    (hn : T ≠ "__name__" := by decide) (hdb : (T == ("__debug__" : Str)) = false := by decide)
    (hs : starEach [a, .Name T p2] X.env = (false, eval a X.env) :: starEach [.Name T p2] X.env := by rfl) (hs2 : starEach [.Name T p2] X.env = (false, eval (.Name T p2) X.env) :: starEach [] X.env := by rfl)
    (hpl : (backTo pos (starEach [.Name T p2] X.env)).any (·.1) = false := by rfl) :
    PD G W X (.Call (.Name "isinstance" p) [a, .Name T p2] [] pos) (eIsi Ts ma) := d_isi hT hg2 hm2 hg hm ha hn hdb hs hs2 hpl
theorem bt_int : bootBuiltins "int" = some (.type "int") := by decide +kernel
theorem bt_bool : bootBuiltins "bool" = some (.type "bool") := by decide +kernel
theorem bt_str : bootBuiltins "str" = some (.type "str") := by decide +kernel
theorem bt_tuple : bootBuiltins "tuple" = some (.type "tuple") := by decide +kernel
theorem bt_list : bootBuiltins "list" = some (.type "list") := by decide +kernel
variable {l : Bool} {tg : Expr}
theorem w_range1 (hm : X.mg "range" = none) (ha : PD G W X a ma) (hg : Gl X "range" := by rfl) (hs : starEach [a] X.env = [(false, eval a X.env)] := by rfl) : PDI G W X l tg (.Call (.Name "range" p) [a] [] pos) (iRange1 (aCons ma aNil)) := d_range1 hg hm (pl_cons ha pl_nil hs) hs
theorem w_range2 (hm : X.mg "range" = none) (ha : PD G W X a ma) (hb : PD G W X b mb) (hg : Gl X "range" := by rfl) (hs : starEach [a, b] X.env = [(false, eval a X.env), (false, eval b X.env)] := by rfl) (hs2 : starEach [b] X.env = [(false, eval b X.env)] := by rfl) : PDI G W X l tg (.Call (.Name "range" p) [a, b] [] pos) (iRange2 (aCons ma (aCons mb aNil))) :=
  d_range2 hg hm (pl_cons ha (pl_cons hb pl_nil hs2) (by rw [hs, hs2])) hs hs2
theorem w_range3 (hm : X.mg "range" = none) (ha : PD G W X a ma) (hb : PD G W X b mb) (hc : PD G W X c mc) (hg : Gl X "range" := by rfl) (hs : starEach [a, b, c] X.env = (false, eval a X.env) :: starEach [b, c] X.env := by rfl) (hs2 : starEach [b, c] X.env = (false, eval b X.env) :: starEach [c] X.env := by rfl) (hs3 : starEach [c] X.env = (false, eval c X.env) :: starEach [] X.env := by rfl)
    (hpl : (backTo pos (starEach [b, c] X.env)).any (·.1) = false := by rfl) : PDI G W X l tg (.Call (.Name "range" p) [a, b, c] [] pos) (iRange3 (aCons ma (aCons mb (aCons mc aNil)))) :=
  d_range3 hg hm (pl_cons ha (pl_cons hb (pl_cons hc pl_nil hs3) hs2) hs) hs hpl
theorem w_comp {elt iter : Expr} {ifs : List Expr} {scope : Scope} {own : List (Str × Nat)} {g : Tg} {t : Ev Bool} {ev : Ev D} {gt : TG} {js : List Nat} (own' : own = own := rfl) (hN : X.N.Nodup) (hi : PDI G W X true tg iter n) (ok : blkC X.N X.env.scope scope own = true)
    (hg : ∀ (s : Shared) (H : Hp) (C : Addr) (cl : List (Str × Addr)) (fp : List Addr), PGd (X.blk s H scope (compEnvC scope cl C X.env) fp) tg gt g js)
    (ht : ∀ (s : Shared) (H : Hp) (C : Addr) (cl : List (Str × Addr)) (fp : List Addr), PTsd G (X.blk s H scope (compEnvC scope cl C X.env) fp) ifs t)
    (he : ∀ (s : Shared) (H : Hp) (C : Addr) (cl : List (Str × Addr)) (fp : List Addr), PD G E0 (X.blk s H scope (compEnvC scope cl C X.env) fp) elt ev) (hj : ∀ j ∈ js, j ∈ own.map (·.2) := by decide) (hc : X.calm = true := by rfl) (hs : ∀ x, foldedSetIterable iter X.env x = pure x := by intro _; rfl) :
    PF G W X (.ListComp elt [⟨tg, iter, ifs, 0⟩] scope pos) (eComp (own.map (·.2)) n g t ev) := f_comp hc hN hi (blkOk_by ok) hg hj ht he hs
theorem w_setLc {i : Nat} {y : Str} {py : Pos} {elt iter : Expr} {ifs : List Expr} {scope : Scope} {own : List (Str × Nat)} {spos : Pos} {g : Tg} {q : Ev Bool} {ev : Ev D} {gt : TG} {js : List Nat} (own' : own = own := rfl) (hN : X.N.Nodup) (hi : PDI G W X true tg iter n) (ok : blkC X.N X.env.scope scope own = true)
    (hg : ∀ (s : Shared) (H : Hp) (C : Addr) (cl : List (Str × Addr)) (fp : List Addr), PGd (X.blk s H scope (compEnvC scope cl C X.env) fp) tg gt g js)
    (ht : ∀ (s : Shared) (H : Hp) (C : Addr) (cl : List (Str × Addr)) (fp : List Addr), PTsd G (X.blk s H scope (compEnvC scope cl C X.env) fp) ifs q)
    (he : ∀ (s : Shared) (H : Hp) (C : Addr) (cl : List (Str × Addr)) (fp : List Addr), PD G E0 (X.blk s H scope (compEnvC scope cl C X.env) fp) elt ev) (hj : ∀ j ∈ js, j ∈ own.map (·.2) := by decide) (hc : X.calm = true := by rfl) (hs : ∀ x, foldedSetIterable iter X.env x = pure x := by intro _; rfl)
    (hsw : swapsWith (.ListComp elt [⟨tg, iter, ifs, 0⟩] scope pos) (some (.Name y py)) spos.line X.env = pure true := by exact sw_true rfl rfl rfl (by decide +kernel)) (hy : X.N[i]? = some y := by rfl) (hyl : X.env.scope.names.lookup y = some .local := by rfl) :
    PSd G W X (.Assign [.Name y py] (.ListComp elt [⟨tg, iter, ifs, 0⟩] scope pos) spos) (sAsg (gNm i) (eFr (eComp (own.map (·.2)) n g q ev))) := s_setLc hc hN hi (blkOk_by ok) hg hj ht he hsw hy hyl hs
end
/-- the law's end: its meaning gives True -/
theorem law_end {G : Gx} {K : PySem.W.Frag} {f : List D → Ka → Re D} (h : ∀ ns : List Int, ns.length ≤ 63 → ∃ κ, f [.rol (ns.map D.int)] [] = some (.ok (.bl true), κ)) (H : Hp) (a : Addr) (ns : List Int) (hl : ns.length ≤ 63) (hS : SqL K H a (ns.map V.int)) :
    spD G K 1 f [.ref a] H (fun v _ => v = .bl true) fun _ _ _ => False := by
  refine ⟨rfl, [], H, [], [.rol (ns.map D.int)], ⟨Same.refl _, rfl, fun i j a e => by simp at e, fun a m => by simp at m, fun n a c e => by simp at e⟩, .cons (Rp.rv (.rol hS (RpL.of_ints ns))) .nil, ?_⟩
  obtain ⟨κ, e⟩ := h ns hl
  rw [e]
  exact fun α' F' H' g w v r => rv_bl r
end
end DL
set_option Elab.async false
set_option linter.all false
set_option maxRecDepth 100000
set_option maxHeartbeats 4000000
/-! DL9: chains of three comparisons. -/
namespace DL
noncomputable section
open PySem PySem.Spec PyProof.Rows L2
section
variable {X : Cx} {a b c d : Expr} {ta tb tc td : TE} {pos : Pos}
def tChain3 (r r' r'' : R2) (ta tb tc td : TE) : TE := fun σ H Q => ta σ H fun x H1 => tb σ H1 fun y H2 => r x y H2 fun z H3 => ∃ k, z = .bl k ∧
  (if k = true then tc σ H3 fun w H4 => r' y w H4 fun z' H5 => ∃ k', z' = .bl k' ∧ (if k' = true then td σ H5 fun u H6 => r'' w u H6 Q else Q (.bl false) H5) else Q (.bl false) H3)
theorem pe_chain3 {op op' op'' : CmpOp} {r r' r'' : R2} (ho : OpR X (compareOp op) r) (ho' : OpR X (compareOp op') r') (ho'' : OpR X (compareOp op'') r'') (ha : PE X a ta) (hb : PE X b tb) (hc : PE X c tc) (hd : PE X d td)
    (hm : lastMarks [op, op', op''] [b, c, d] = false := by with_unfolding_all rfl) : PE X (.Compare a [op, op', op''] [b, c, d] pos) (tChain3 r r' r'' ta tb tc td) := by
  refine ⟨fun pins s σ H Q I h => ?_⟩
  refine Compare_chain (thn (ha.run pins s σ H _ I h) fun v s1 ⟨x, H1, I1, r1, q1⟩ => chain_link (thn (hb.run pins s1 σ H1 _ I1 q1) fun u s2 ⟨y, H2, I2, r2, q2⟩ =>
    thn (ho pins s2 σ H2 x y v u _ I2 r1 r2 q2) fun d s3 ⟨z, H3, I3, r3, k, e, q3⟩ => ?_)) hm
  subst e
  cases r3
  refine wpAny_truthy_bool ?_
  cases k with
  | false => exact ite_ff ⟨.bl false, H3, I3, rfl, q3⟩
  | true =>
    refine ite_tt (chain_link (thn (hc.run pins s3 σ H3 _ I3 q3) fun w' s4 ⟨z', H4, I4, r4, q4⟩ => thn (ho' pins s4 σ H4 y z' u w' _ I4 r2 r4 q4) fun d' s5 ⟨z2, H5, I5, r5, k2, e2, q5⟩ => ?_))
    subst e2
    cases r5
    refine wpAny_truthy_bool ?_
    cases k2 with
    | false => exact ite_ff ⟨.bl false, H5, I5, rfl, q5⟩
    | true => exact ite_tt (chain_last (thn (hd.run pins s5 σ H5 _ I5 q5) fun w2 s6 ⟨z3, H6, I6, r6, q6⟩ => ho'' pins s6 σ H6 z' z3 w' w2 Q I6 r4 r6 q6))
theorem pt_chain3 {op op' op'' : CmpOp} {r r' r'' : R2} (ho : OpR X (compareOp op) r) (ho' : OpR X (compareOp op') r') (ho'' : OpR X (compareOp op'') r'') (ha : PE X a ta) (hb : PE X b tb) (hc : PE X c tc) (hd : PE X d td)
    (hm : lastMarks [op, op', op''] [b, c, d] = false := by with_unfolding_all rfl) : PT X (.Compare a [op, op', op''] [b, c, d] pos) (tTest (tChain3 r r' r'' ta tb tc td)) := by
  refine ⟨fun pins s σ H Q I h => ?_⟩
  refine isTrue_chain (thn (ha.run pins s σ H _ I h) fun v s1 ⟨x, H1, I1, r1, q1⟩ => test_link (thn (hb.run pins s1 σ H1 _ I1 q1) fun u s2 ⟨y, H2, I2, r2, q2⟩ =>
    thn (ho pins s2 σ H2 x y v u _ I2 r1 r2 q2) fun d s3 ⟨z, H3, I3, r3, k, e, q3⟩ => ?_)) hm
  subst e
  cases r3
  refine wpAny_truthy_bool ?_
  cases k with
  | false =>
    obtain ⟨k', e', q'⟩ := q3
    cases e'
    exact ite_ff ⟨H3, I3, q'⟩
  | true =>
    refine ite_tt (test_link (thn (hc.run pins s3 σ H3 _ I3 q3) fun w' s4 ⟨z', H4, I4, r4, q4⟩ => thn (ho' pins s4 σ H4 y z' u w' _ I4 r2 r4 q4) fun d' s5 ⟨z2, H5, I5, r5, k2, e2, q5⟩ => ?_))
    subst e2
    cases r5
    refine wpAny_truthy_bool ?_
    cases k2 with
    | false =>
      obtain ⟨k', e', q'⟩ := q5
      cases e'
      exact ite_ff ⟨H5, I5, q'⟩
    | true =>
      refine ite_tt (test_last (thn (hd.run pins s5 σ H5 _ I5 q5) fun w2 s6 ⟨z3, H6, I6, r6, q6⟩ => thn (ho'' pins s6 σ H6 z' z3 w' w2 _ I6 r4 r6 q6) fun d' s7 ⟨z4, H7, I7, r7, k3, e3, q7⟩ => ?_))
      subst e3
      cases r7
      exact wpAny_truthy_bool ⟨H7, I7, q7⟩
end
def eChain3 (c c' c'' : D → D → Option Bool) (ma mb mc md : Ev D) : Ev D := fun ρ κ => (ma ρ κ).bind fun x κ1 => (mb ρ κ1).bind fun y κ2 => match c x y with
  | some true => (mc ρ κ2).bind fun z κ3 => match c' y z with
    | some true => (md ρ κ3).bind fun u κ4 => rOf ((c'' z u).map D.bl) κ4
    | some false => ret (.bl false) κ3
    | none => none
  | some false => ret (.bl false) κ2
  | none => none
def bChain3 (c c' c'' : D → D → Option Bool) (ma mb mc md : Ev D) : Ev Bool := fun ρ κ => (ma ρ κ).bind fun x κ1 => (mb ρ κ1).bind fun y κ2 => match c x y with
  | some true => (mc ρ κ2).bind fun z κ3 => match c' y z with
    | some true => (md ρ κ3).bind fun u κ4 => rOfB (c'' z u) κ4
    | some false => some (.ok false, κ3)
    | none => none
  | some false => some (.ok false, κ2)
  | none => none
section
variable {G : Gx} {W : XK} {X : Cx} {a b c d : Expr} {ma mb mc md : Ev D} {pos : Pos} {op op' op'' : CmpOp} {f f' f'' : D → D → Option Bool}
theorem d_chain3 (k : Cm X op f) (k' : Cm X op' f') (k'' : Cm X op'' f'') (ha : PD G W X a ma) (hb : PD G W X b mb) (hc : PD G W X c mc) (hd : PD G W X d md) (hm : lastMarks [op, op', op''] [b, c, d] = false := by rfl) :
    PD G W X (.Compare a [op, op', op''] [b, c, d] pos) (eChain3 f f' f'' ma mb mc md) := by
  obtain ⟨r, ho, hf⟩ := k.ex
  obtain ⟨r', ho', hf'⟩ := k'.ex
  obtain ⟨r'', ho'', hf''⟩ := k''.ex
  exact ⟨pe_imp (pe_chain3 ho ho' ho'' ha.run hb.run hc.run hd.run hm) fun σ H Q ⟨α, F, ρ, κ, Bs, w, sl, h⟩ =>
    tD_mono (fun x H1 ⟨α1, F1, κ1, d, g1, w1, sl1, r1, h1⟩ => tD_mono (fun y H2 ⟨α2, F2, κ2, e, g2, w2, sl2, r2, h2⟩ => by
      rcases hfe : f d e with _ | k
      · rw [hfe] at h2; exact h2.elim
      · rw [hfe] at h2
        refine hf G α2 F2 H2 κ2 _ d e x y k w2 (r1.gr g2) r2 hfe ⟨k, rfl, ?_⟩
        cases k with
        | false => rw [if_neg Bool.false_ne_true]; exact PO.now w2 h2 (.bl false)
        | true =>
          rw [if_pos rfl]
          refine tD_mono (fun z H3 ⟨α3, F3, κ3, u, g3, w3, sl3, r3, h3⟩ => ?_) (tD_bind w2 sl2 h2)
          rcases hfe2 : f' e u with _ | k
          · rw [hfe2] at h3; exact h3.elim
          · rw [hfe2] at h3
            refine hf' G α3 F3 H3 κ3 _ e u y z k w3 (r2.gr g3) r3 hfe2 ⟨k, rfl, ?_⟩
            cases k with
            | false => rw [if_neg Bool.false_ne_true]; exact PO.now w3 h3 (.bl false)
            | true =>
              rw [if_pos rfl]
              refine tD_mono (fun z' H4 ⟨α4, F4, κ4, u', g4, w4, sl4, r4, h4⟩ => ?_) (tD_bind w3 sl3 h3)
              obtain ⟨k, e1, q⟩ := PO.bl w4 h4
              exact hf'' G α4 F4 H4 κ4 Q u u' z z' k w4 (r3.gr g4) r4 e1 q) (tD_bind w1 sl1 h1)) (tD_bind w sl h)⟩
theorem b_chain3 (k : Cm X op f) (k' : Cm X op' f') (k'' : Cm X op'' f'') (ha : PD G W X a ma) (hb : PD G W X b mb) (hc : PD G W X c mc) (hd : PD G W X d md) (hm : lastMarks [op, op', op''] [b, c, d] = false := by rfl) :
    PB G W X (.Compare a [op, op', op''] [b, c, d] pos) (bChain3 f f' f'' ma mb mc md) := by
  obtain ⟨r, ho, hf⟩ := k.ex
  obtain ⟨r', ho', hf'⟩ := k'.ex
  obtain ⟨r'', ho'', hf''⟩ := k''.ex
  exact ⟨pt_imp (pt_chain3 ho ho' ho'' ha.run hb.run hc.run hd.run hm) fun σ H Q ⟨α, F, ρ, κ, Bs, w, sl, h⟩ =>
    tD_mono (fun x H1 ⟨α1, F1, κ1, d, g1, w1, sl1, r1, h1⟩ => tD_mono (fun y H2 ⟨α2, F2, κ2, e, g2, w2, sl2, r2, h2⟩ => by
      rcases hfe : f d e with _ | k
      · rw [hfe] at h2; exact h2.elim
      · rw [hfe] at h2
        refine hf G α2 F2 H2 κ2 _ d e x y k w2 (r1.gr g2) r2 hfe ⟨k, rfl, ?_⟩
        cases k with
        | false => rw [if_neg Bool.false_ne_true]; exact ⟨false, rfl, POB.now w2 h2⟩
        | true =>
          rw [if_pos rfl]
          refine tD_mono (fun z H3 ⟨α3, F3, κ3, u, g3, w3, sl3, r3, h3⟩ => ?_) (tD_bindB w2 sl2 h2)
          rcases hfe2 : f' e u with _ | k
          · rw [hfe2] at h3; exact h3.elim
          · rw [hfe2] at h3
            refine hf' G α3 F3 H3 κ3 _ e u y z k w3 (r2.gr g3) r3 hfe2 ⟨k, rfl, ?_⟩
            cases k with
            | false => rw [if_neg Bool.false_ne_true]; exact ⟨false, rfl, POB.now w3 h3⟩
            | true =>
              rw [if_pos rfl]
              refine tD_mono (fun z' H4 ⟨α4, F4, κ4, u', g4, w4, sl4, r4, h4⟩ => ?_) (tD_bindB w3 sl3 h3)
              obtain ⟨k, e1, q⟩ := POB.bl w4 h4
              exact hf'' G α4 F4 H4 κ4 _ u u' z z' k w4 (r3.gr g4) r4 e1 ⟨k, rfl, q⟩) (tD_bindB w1 sl1 h1)) (tD_bindB w sl h)⟩
end
end
end DL
set_option Elab.async false
set_option linter.all false
set_option maxRecDepth 100000
set_option maxHeartbeats 4000000
/-! DLm: reckoning with meanings. -/
namespace DL
noncomputable section
open PySem L2
/-- an expression's end: a value of which Q holds -/
def wpE0 {α : Type} (r : Re α) (Q : α → Ka → Prop) : Prop := match r with
  | some (.ok a, κ) => Q a κ
  | _ => False
structure wpE {α : Type} (r : Re α) (Q : α → Ka → Prop) : Prop where
  to : wpE0 r Q
/-- a statement's end -/
def wpS0 (r : Option (Out × Ka)) (Qn : List Sl → Ka → Prop) (Qr : D → Ka → Prop) (Qb Qc : List Sl → Ka → Prop) : Prop := match r with
  | some (.nx ρ, κ) => Qn ρ κ
  | some (.rt d, κ) => Qr d κ
  | some (.bk ρ, κ) => Qb ρ κ
  | some (.ct ρ, κ) => Qc ρ κ
  | _ => False
structure wpS (r : Option (Out × Ka)) (Qn : List Sl → Ka → Prop) (Qr : D → Ka → Prop) (Qb Qc : List Sl → Ka → Prop) : Prop where
  to : wpS0 r Qn Qr Qb Qc
section
variable {α β : Type} {Q : β → Ka → Prop} {Qn Qb Qc : List Sl → Ka → Prop} {Qr : D → Ka → Prop} {ρ : List Sl} {κ : Ka}
theorem wpE_ok {a : α} {Q : α → Ka → Prop} : wpE (some (.ok a, κ)) Q = Q a κ := propext ⟨fun h => h.to, fun h => ⟨h⟩⟩
theorem wpE_no {Q : α → Ka → Prop} (h : wpE none Q) : False := h.to
theorem wpE_er {Q : α → Ka → Prop} {c} (h : wpE (some (.er c, κ)) Q) : False := h.to
theorem wpE_bind {r : Re α} {f : α → Ka → Re β} : wpE (r.bind f) Q = wpE r fun a κ => wpE (f a κ) Q := by
  rcases r with _ | ⟨o, k⟩
  · exact propext ⟨fun h => ⟨h.to⟩, fun h => ⟨h.to⟩⟩
  · cases o
    · rw [wpE_ok]; rfl
    · exact propext ⟨fun h => ⟨h.to⟩, fun h => ⟨h.to⟩⟩
theorem wpE_bindN {r : Re α} {f : α → Ka → Re β} : wpE (r.bindN f) Q = wpE r fun a κ => wpE (f a κ) Q := by
  rcases r with _ | ⟨o, k⟩
  · exact propext ⟨fun h => ⟨h.to⟩, fun h => ⟨h.to⟩⟩
  · cases o
    · rw [wpE_ok]; rfl
    · exact propext ⟨fun h => ⟨h.to⟩, fun h => ⟨h.to⟩⟩
theorem wpS_bindS {r : Re α} {f : α → Ka → Option (Out × Ka)} : wpS (r.bindS f) Qn Qr Qb Qc = wpE r fun a κ => wpS (f a κ) Qn Qr Qb Qc := by
  rcases r with _ | ⟨o, k⟩
  · exact propext ⟨fun h => ⟨h.to⟩, fun h => ⟨h.to⟩⟩
  · cases o
    · rw [wpE_ok]; rfl
    · exact propext ⟨fun h => ⟨h.to⟩, fun h => ⟨h.to⟩⟩
theorem wpE_mono {r : Re α} {Q Q' : α → Ka → Prop} (h : wpE r Q) (hq : ∀ a κ, Q a κ → Q' a κ) : wpE r Q' := by
  rcases r with _ | ⟨o, k⟩
  · exact ⟨h.to⟩
  · cases o with
    | ok a => exact ⟨hq _ _ h.to⟩
    | er c => exact ⟨h.to⟩
theorem wpE_eq {r : Re α} {Q : α → Ka → Prop} : wpE r Q ↔ ∃ a κ, r = some (.ok a, κ) ∧ Q a κ := by
  rcases r with _ | ⟨o, k⟩
  · constructor
    · intro h; exact h.to.elim
    · rintro ⟨_, _, e, _⟩; cases e
  · cases o with
    | ok a =>
      constructor
      · intro h; exact ⟨a, k, rfl, h.to⟩
      · rintro ⟨a', k', e, h⟩; cases e; exact ⟨h⟩
    | er c =>
      constructor
      · intro h; exact h.to.elim
      · rintro ⟨_, _, e, _⟩; cases e
theorem wpS_nx : wpS (some (.nx ρ, κ)) Qn Qr Qb Qc = Qn ρ κ := propext ⟨fun h => h.to, fun h => ⟨h⟩⟩
theorem wpS_rt {d : D} : wpS (some (.rt d, κ)) Qn Qr Qb Qc = Qr d κ := propext ⟨fun h => h.to, fun h => ⟨h⟩⟩
theorem wpS_seq {a b : Es} : wpS (sSeq a b ρ κ) Qn Qr Qb Qc = wpS (a ρ κ) (fun ρ κ => wpS (b ρ κ) Qn Qr Qb Qc) Qr Qb Qc := by
  unfold sSeq
  rcases h : a ρ κ with _ | ⟨o, k⟩
  · exact propext ⟨fun h => ⟨h.to⟩, fun h => ⟨h.to⟩⟩
  · cases o
    · rw [wpS_nx]
    all_goals exact propext ⟨fun h => ⟨h.to⟩, fun h => ⟨h.to⟩⟩
theorem wpS_next : wpS (sNext ρ κ) Qn Qr Qb Qc = Qn ρ κ := wpS_nx
theorem wpS_if {c : Ev Bool} {a b : Es} : wpS (sIf c a b ρ κ) Qn Qr Qb Qc = wpE (c ρ κ) fun t κ => if t = true then wpS (a ρ κ) Qn Qr Qb Qc else wpS (b ρ κ) Qn Qr Qb Qc := by
  unfold sIf
  rw [wpS_bindS]
  congr 1
  funext t κ
  split <;> rfl
theorem wpS_mono {r : Option (Out × Ka)} {Qn' Qb' Qc' : List Sl → Ka → Prop} {Qr' : D → Ka → Prop} (h : wpS r Qn Qr Qb Qc) (hn : ∀ ρ κ, Qn ρ κ → Qn' ρ κ) (hr : ∀ d κ, Qr d κ → Qr' d κ) (hb : ∀ ρ κ, Qb ρ κ → Qb' ρ κ) (hc : ∀ ρ κ, Qc ρ κ → Qc' ρ κ) : wpS r Qn' Qr' Qb' Qc' := by
  rcases r with _ | ⟨o, k⟩
  · exact ⟨h.to⟩
  · cases o with
    | nx ρ => exact ⟨hn _ _ h.to⟩
    | rt d => exact ⟨hr _ _ h.to⟩
    | bk ρ => exact ⟨hb _ _ h.to⟩
    | ct ρ => exact ⟨hc _ _ h.to⟩
    | er c => exact ⟨h.to⟩
theorem wpS_for {g : Tg} {m : Es} (I : Nat → List Sl → Ka → Prop) : ∀ (ds : List D) (k : Nat) (ρ : List Sl) (κ : Ka), I k ρ κ →
    (∀ i d ρ κ, ds[i]? = some d → I (k + i) ρ κ → ∃ ρ1, g d ρ = some ρ1 ∧ wpS (m ρ1 κ) (fun ρ κ => I (k + i + 1) ρ κ) Qr Qn (fun ρ κ => I (k + i + 1) ρ κ)) → (∀ ρ κ, I (k + ds.length) ρ κ → Qn ρ κ) → wpS (sFor g m ds ρ κ) Qn Qr Qb Qc
  | [], k, ρ, κ, h0, _, hd => ⟨hd ρ κ h0⟩
  | d :: ds, k, ρ, κ, h0, hs, hd => by
    obtain ⟨ρ1, e, h⟩ := hs 0 d ρ κ rfl h0
    have next : ∀ ρ κ, I (k + 0 + 1) ρ κ → wpS (sFor g m ds ρ κ) Qn Qr Qb Qc := fun ρ κ h1 =>
      wpS_for I ds (k + 1) ρ κ h1 (fun i d ρ κ e h => by
        have := hs (i + 1) d ρ κ (by simpa using e) (by rw [show k + (i + 1) = k + 1 + i by omega]; exact h)
        rw [show k + (i + 1) = k + 1 + i by omega] at this
        exact this) (fun ρ κ h => hd ρ κ (by rw [List.length_cons, show k + (ds.length + 1) = k + 1 + ds.length by omega]; exact h))
    simp only [sFor, e]
    rcases hm : m ρ1 κ with _ | ⟨o, k'⟩
    · rw [hm] at h; exact h.to.elim
    · rw [hm] at h
      cases o with
      | nx ρ2 => exact next _ _ h.to
      | ct ρ2 => exact next _ _ h.to
      | bk ρ2 => exact ⟨h.to⟩
      | rt d => exact ⟨h.to⟩
      | er c => exact h.to.elim
/-- a loop, by what holds at its turns -/
theorem wpS_forE {g : Tg} {m : Es} {n : Ev (List D)} (ds : List D) {κ1 : Ka} (hn : n ρ κ = some (.ok ds, κ1)) (I : Nat → List Sl → Ka → Prop) (h0 : I 0 ρ κ1)
    (hs : ∀ i d ρ κ, ds[i]? = some d → I i ρ κ → ∃ ρ1, g d ρ = some ρ1 ∧ wpS (m ρ1 κ) (fun ρ κ => I (i + 1) ρ κ) Qr Qn (fun ρ κ => I (i + 1) ρ κ)) (hd : ∀ ρ κ, I ds.length ρ κ → Qn ρ κ) : wpS (sForE n g m ρ κ) Qn Qr Qb Qc := by
  unfold sForE
  rw [hn]
  show wpS (sFor g m ds ρ κ1) Qn Qr Qb Qc
  exact wpS_for I ds 0 ρ κ1 h0 (fun i d ρ κ e h => by rw [Nat.zero_add] at h ⊢; exact hs i d ρ κ e h) (fun ρ κ h => hd ρ κ (by rw [Nat.zero_add] at h; exact h))
/-- a def's end -/
theorem mean_wp {N : Nat} {s : Es} {ds : List D} {Q : D → Ka → Prop} (h : wpS (s (slots N ds) κ) (fun _ κ => Q .non κ) Q (fun _ _ => False) (fun _ _ => False)) : wpE (noEr (mean N s ds κ)) Q := by
  unfold mean
  rcases hm : s (slots N ds) κ with _ | ⟨o, k⟩
  · rw [hm] at h; exact ⟨h.to⟩
  · rw [hm] at h
    cases o with
    | nx ρ => exact ⟨h.to⟩
    | rt d => exact ⟨h.to⟩
    | bk ρ => exact ⟨h.to⟩
    | ct ρ => exact ⟨h.to⟩
    | er c => exact ⟨h.to⟩
theorem eq_of_wp {α : Type} {r : Re α} {a : α} {κ : Ka} (h : wpE r fun x κ' => x = a ∧ κ' = κ) : r = some (.ok a, κ) := by
  obtain ⟨a', κ', e, rfl, rfl⟩ := wpE_eq.mp h
  exact e
theorem wp_of_eq {α : Type} {r : Re α} {a : α} {κ : Ka} {Q : α → Ka → Prop} (e : r = some (.ok a, κ)) (h : Q a κ) : wpE r Q := by rw [e]; exact ⟨h⟩
end
/-- a comprehension without errors: each item gives an optional value -/
theorem cLoop_eq {g : Tg} {t : Ev Bool} {e : Ev D} {ρw : List Sl} {κ : Ka} (f : D → Option D) : ∀ (ds acc : List D), acc.length + ds.length ≤ 16777216 →
    (∀ d ∈ ds, ∃ ρ2, g d ρw = some ρ2 ∧ ((f d = none ∧ t ρ2 κ = some (.ok false, κ)) ∨ ∃ y, f d = some y ∧ isBor y = false ∧ t ρ2 κ = some (.ok true, κ) ∧ e ρ2 κ = some (.ok y, κ))) →
    cLoop g t e ρw ds acc κ = some (.ok (acc ++ ds.filterMap f), κ)
  | [], acc, _, _ => by simp [cLoop]
  | d :: ds, acc, hl, h => by
    obtain ⟨ρ2, e1, h1⟩ := h d (by simp)
    have hl' : acc.length + ds.length + 1 ≤ 16777216 := by simpa [Nat.add_assoc] using hl
    rcases h1 with ⟨e2, e3⟩ | ⟨y, e2, e3, e4, e5⟩
    · simp only [cLoop, e1, e3, Re.bindN, if_neg Bool.false_ne_true, List.filterMap_cons, e2]
      exact cLoop_eq f ds acc (by omega) fun d hd => h d (by simp [hd])
    · simp only [cLoop, e1, e4, e5, Re.bindN, if_true, List.filterMap_cons, e2, e3]
      rw [if_neg (by simp; omega)]
      rw [cLoop_eq f ds (acc ++ [y]) (by simp; omega) fun d hd => h d (by simp [hd])]
      simp
theorem eComp_eq {vs : List Nat} {n : Ev (List D)} {g : Tg} {t : Ev Bool} {e : Ev D} {ρ : List Sl} {κ κ1 : Ka} {ds : List D} (f : D → Option D) (hn : n ρ κ = some (.ok ds, κ1)) (hl : ds.length ≤ 16777216)
    (h : ∀ d ∈ ds, ∃ ρ2, g d (wipeR ρ vs) = some ρ2 ∧ ((f d = none ∧ t ρ2 κ1 = some (.ok false, κ1)) ∨ ∃ y, f d = some y ∧ isBor y = false ∧ t ρ2 κ1 = some (.ok true, κ1) ∧ e ρ2 κ1 = some (.ok y, κ1))) :
    eComp vs n g t e ρ κ = some (.ok (ds.filterMap f), κ1) := by
  unfold eComp
  rw [hn]
  show cLoop g t e (wipeR ρ vs) ds [] κ1 = _
  rw [cLoop_eq f ds [] (by simpa using hl) h]
  simp
/-- .. without a test -/
theorem eComp_map {vs : List Nat} {n : Ev (List D)} {g : Tg} {e : Ev D} {ρ : List Sl} {κ κ1 : Ka} {ds : List D} (f : D → D) (hn : n ρ κ = some (.ok ds, κ1)) (hl : ds.length ≤ 16777216)
    (h : ∀ d ∈ ds, ∃ ρ2, g d (wipeR ρ vs) = some ρ2 ∧ isBor (f d) = false ∧ e ρ2 κ1 = some (.ok (f d), κ1)) :
    eComp vs n g bYes e ρ κ = some (.ok (ds.map f), κ1) := by
  rw [eComp_eq (fun d => some (f d)) hn hl fun d hd => let ⟨ρ2, a, b, c⟩ := h d hd; ⟨ρ2, a, .inr ⟨f d, rfl, b, rfl, c⟩⟩]
  simp
end
end DL
set_option Elab.async false
set_option linter.all false
set_option maxRecDepth 100000
set_option maxHeartbeats 4000000
/-! DLe: the rows by which simp reckons meanings. -/
namespace DL
noncomputable section
open PySem L2
section
variable {α β : Type} {ρ : List Sl} {κ : Ka} {m ma mb mc md : Ev D} {n : Ev (List D)} {c na nb : Ev Bool} {f f' f'' : D → D → Option D} {p p' p'' : D → D → Option Bool}
@[simp] theorem bind_ok {a : α} {f : α → Ka → Re β} : Re.bind (some (.ok a, κ)) f = f a κ := rfl
@[simp] theorem bind_none {f : α → Ka → Re β} : Re.bind (none : Re α) f = none := rfl
@[simp] theorem bindN_ok {a : α} {f : α → Ka → Re β} : Re.bindN (some (.ok a, κ)) f = f a κ := rfl
@[simp] theorem bindS_ok {a : α} {f : α → Ka → Option (Out × Ka)} : Re.bindS (some (.ok a, κ)) f = f a κ := rfl
@[simp] theorem rOf_some {d : D} : rOf (some d) κ = some (.ok d, κ) := rfl
@[simp] theorem rOfB_some {d : Bool} : rOfB (some d) κ = some (.ok d, κ) := rfl
@[simp] theorem rOfL_some {d : List D} : rOfL (some d) κ = some (.ok d, κ) := rfl
@[simp] theorem ret_def {d : D} : ret d κ = some (.ok d, κ) := rfl
theorem eVar_def {i : Nat} : eVar i ρ κ = match ρ[i]? with
  | some (.val d) => some (.ok d, κ)
  | some (.own ds) => some (.ok (.bor ds), κ)
  | _ => none := rfl
@[simp] theorem eVar_z {d : D} {r : List Sl} : eVar 0 (.val d :: r) κ = some (.ok d, κ) := rfl
@[simp] theorem eVar_zo {ds : List D} {r : List Sl} : eVar 0 (.own ds :: r) κ = some (.ok (.bor ds), κ) := rfl
@[simp] theorem eVar_s {i : Nat} {s : Sl} {r : List Sl} : eVar (i + 1) (s :: r) κ = eVar i r κ := by simp [eVar]
@[simp] theorem eC_def {d : D} : eC d ρ κ = some (.ok d, κ) := rfl
@[simp] theorem eOp_def : eOp f ma mb ρ κ = (ma ρ κ).bind fun x κ1 => (mb ρ κ1).bind fun y κ2 => rOf (f x y) κ2 := rfl
@[simp] theorem eNeg_def : eNeg m ρ κ = (m ρ κ).bind fun x κ1 => rOf (oNeg x) κ1 := rfl
@[simp] theorem eCmp_def : eCmp p ma mb ρ κ = (ma ρ κ).bind fun x κ1 => (mb ρ κ1).bind fun y κ2 => rOf ((p x y).map D.bl) κ2 := rfl
@[simp] theorem bCmp_def : bCmp p ma mb ρ κ = (ma ρ κ).bind fun x κ1 => (mb ρ κ1).bind fun y κ2 => rOfB (p x y) κ2 := rfl
@[simp] theorem eChain_def : eChain p p' ma mb mc ρ κ = (ma ρ κ).bind fun x κ1 => (mb ρ κ1).bind fun y κ2 => match p x y with
  | some true => (mc ρ κ2).bind fun z κ3 => rOf ((p' y z).map D.bl) κ3
  | some false => ret (.bl false) κ2
  | none => none := rfl
@[simp] theorem bChain_def : bChain p p' ma mb mc ρ κ = (ma ρ κ).bind fun x κ1 => (mb ρ κ1).bind fun y κ2 => match p x y with
  | some true => (mc ρ κ2).bind fun z κ3 => rOfB (p' y z) κ3
  | some false => some (.ok false, κ2)
  | none => none := rfl
@[simp] theorem eChain3_def : eChain3 p p' p'' ma mb mc md ρ κ = (ma ρ κ).bind fun x κ1 => (mb ρ κ1).bind fun y κ2 => match p x y with
  | some true => (mc ρ κ2).bind fun z κ3 => match p' y z with
    | some true => (md ρ κ3).bind fun u κ4 => rOf ((p'' z u).map D.bl) κ4
    | some false => ret (.bl false) κ3
    | none => none
  | some false => ret (.bl false) κ2
  | none => none := rfl
@[simp] theorem bOf_def : bOf m ρ κ = (m ρ κ).bind fun d κ1 => rOfB (truth d) κ1 := rfl
@[simp] theorem bAnd_def : bAnd na nb ρ κ = (na ρ κ).bind fun b κ1 => if b = true then nb ρ κ1 else some (.ok false, κ1) := rfl
@[simp] theorem bOr_def : bOr na nb ρ κ = (na ρ κ).bind fun b κ1 => if b = true then some (.ok true, κ1) else nb ρ κ1 := rfl
@[simp] theorem bNot_def : bNot na ρ κ = (na ρ κ).bind fun b κ1 => some (.ok (!b), κ1) := rfl
@[simp] theorem eAnd_def : eAnd ma mb ρ κ = (ma ρ κ).bind fun d κ1 => match truth d with
  | some true => mb ρ κ1
  | some false => ret d κ1
  | none => none := rfl
@[simp] theorem eOr_def : eOr ma mb ρ κ = (ma ρ κ).bind fun d κ1 => match truth d with
  | some true => ret d κ1
  | some false => mb ρ κ1
  | none => none := rfl
@[simp] theorem eNot_def : eNot m ρ κ = (m ρ κ).bind fun d κ1 => rOf ((truth d).map fun b => .bl (!b)) κ1 := rfl
@[simp] theorem eIf_def : eIf c ma mb ρ κ = (c ρ κ).bind fun b κ1 => if b = true then ma ρ κ1 else mb ρ κ1 := rfl
@[simp] theorem aNil_def : aNil ρ κ = some (.ok [], κ) := rfl
@[simp] theorem aCons_def : aCons m n ρ κ = (m ρ κ).bind fun d κ1 => (n ρ κ1).bind fun ds κ2 => some (.ok (d :: ds), κ2) := rfl
@[simp] theorem eTup_def : eTup n ρ κ = (n ρ κ).bind fun ds κ1 => if noBor ds = true ∧ ds.length ≤ 16777216 then ret (.tup ds) κ1 else none := rfl
@[simp] theorem fLst_def : fLst n ρ κ = (n ρ κ).bind fun ds κ1 => if noBor ds = true ∧ ds.length ≤ 16777216 then some (.ok ds, κ1) else none := rfl
@[simp] theorem eFr_def : eFr n ρ κ = (n ρ κ).bind fun ds κ1 => ret (.lst ds) κ1 := rfl
@[simp] theorem eSt_def : eSt n ρ κ = (n ρ κ).bind fun ds κ1 => some (.ok (.obj κ1.length), κ1 ++ [.lst ds]) := rfl
@[simp] theorem eCall_def {ar : Nat} {g : List D → Ka → Re D} : eCall ar g n ρ κ = (n ρ κ).bind fun ds κ1 => if ds.length = ar then g ds κ1 else none := rfl
@[simp] theorem eBi_def {g : Ka → List D → Option D} : eBi g n ρ κ = (n ρ κ).bind fun ds κ1 => rOf (g κ1 ds) κ1 := rfl
@[simp] theorem fBi_def {g : Ka → List D → Option (List D)} : fBi g n ρ κ = (n ρ κ).bind fun ds κ1 => rOfL (g κ1 ds) κ1 := by
  unfold fBi
  first | rfl | skip
@[simp] theorem eIdx_def : eIdx ma mb ρ κ = (ma ρ κ).bind fun x κ1 => (mb ρ κ1).bind fun y κ2 => rOf (oIdx κ2 x y) κ2 := rfl
@[simp] theorem sNone_def : sNone ρ κ = some (.ok none, κ) := rfl
@[simp] theorem sSome_def : sSome m ρ κ = (m ρ κ).bind fun d κ1 => match d with
  | .int i => some (.ok (some i), κ1)
  | _ => none := rfl
@[simp] theorem eCut_def {l h : Ev (Option Int)} : eCut m l h ρ κ = (m ρ κ).bind fun d κ1 => (l ρ κ1).bind fun i κ2 => (h ρ κ2).bind fun j κ3 => rOf (oCut d i j) κ3 := rfl
@[simp] theorem eIsi_def {T : String} : eIsi T m ρ κ = (m ρ κ).bind fun d κ1 => rOf (((tyName κ1 d).bind fun a => kitB a T).map D.bl) κ1 := rfl
@[simp] theorem iAny_def {l : Bool} : iAny l m ρ κ = (m ρ κ).bind fun d κ1 => rOfL (walkD l d) κ1 := rfl
@[simp] theorem iRange1_def : iRange1 n ρ κ = (n ρ κ).bind fun ds κ1 => rOfL (bRange1 ds) κ1 := rfl
@[simp] theorem iRange2_def : iRange2 n ρ κ = (n ρ κ).bind fun ds κ1 => rOfL (bRange2 ds) κ1 := rfl
@[simp] theorem iRange3_def : iRange3 n ρ κ = (n ρ κ).bind fun ds κ1 => rOfL (bRange3 ds) κ1 := rfl
@[simp] theorem bYes_def : bYes ρ κ = some (.ok true, κ) := rfl
/-! statements -/
variable {s t : Es} {g : Tg}
@[simp] theorem sNext_def : sNext ρ κ = some (.nx ρ, κ) := rfl
@[simp] theorem sSeq_def : sSeq s t ρ κ = match s ρ κ with
  | some (.nx ρ1, κ1) => t ρ1 κ1
  | r => r := rfl
@[simp] theorem sRet_def : sRet m ρ κ = (m ρ κ).bindS fun d κ1 => if isBor d = true then none else some (.rt d, κ1) := rfl
@[simp] theorem sIf_def : sIf c s t ρ κ = (c ρ κ).bindS fun b κ1 => if b = true then s ρ κ1 else t ρ κ1 := rfl
@[simp] theorem sAsg_def : sAsg g m ρ κ = (m ρ κ).bindS fun d κ1 => if isBor d = true then none else match g d ρ with
  | some ρ1 => some (.nx ρ1, κ1)
  | none => none := rfl
@[simp] theorem sOwn_def {i : Nat} : sOwn i n ρ κ = (n ρ κ).bindS fun ds κ1 => some (.nx (ρ.set i (.own ds)), κ1) := rfl
@[simp] theorem sExp_def : sExp m ρ κ = (m ρ κ).bindS fun _ κ1 => some (.nx ρ, κ1) := rfl
@[simp] theorem sFrz_def {i : Nat} : sFrz i s ρ κ = s (frz i ρ) κ := rfl
@[simp] theorem sPar_def {i j : Nat} : sPar i j n ρ κ = (n ρ κ).bindS fun ds κ1 => match ds with
  | [d, e] => if noBor ds = true then some (.nx ((ρ.set i (.val d)).set j (.val e)), κ1) else none
  | _ => none := rfl
@[simp] theorem sApp_def {i : Nat} : sApp i m ρ κ = match ρ[i]? with
  | some (.own ds) => (m ρ κ).bindS fun d κ1 => if isBor d = true ∨ 16777216 ≤ ds.length then none else some (.nx (ρ.set i (.own (ds ++ [d]))), κ1)
  | _ => none := rfl
@[simp] theorem gNm_def {i : Nat} {d : D} : gNm i d ρ = if isBor d = true then none else some (ρ.set i (.val d)) := rfl
@[simp] theorem gsNil_def : gsNil [] ρ = some ρ := rfl
@[simp] theorem gsCons_def {r : Tgs} {d : D} {ds : List D} : gsCons g r (d :: ds) ρ = (g d ρ).bind (r ds) := rfl
@[simp] theorem gTu_def {k : Nat} {r : Tgs} {ds : List D} : gTu k r (.tup ds) ρ = if ds.length = k then r ds ρ else none := rfl
/-! data -/
@[simp] theorem isBor_int {i : Int} : isBor (.int i) = false := rfl
@[simp] theorem isBor_bl {i : Bool} : isBor (.bl i) = false := rfl
@[simp] theorem isBor_str {i : Str} : isBor (.str i) = false := rfl
@[simp] theorem isBor_non : isBor .non = false := rfl
@[simp] theorem isBor_tup {ds : List D} : isBor (.tup ds) = false := rfl
@[simp] theorem isBor_lst {ds : List D} : isBor (.lst ds) = false := rfl
@[simp] theorem isBor_obj {k : Nat} : isBor (.obj k) = false := rfl
@[simp] theorem isBor_bor {ds : List D} : isBor (.bor ds) = true := rfl
@[simp] theorem noBor_nil : noBor [] = true := rfl
@[simp] theorem noBor_cons {d : D} {ds : List D} : noBor (d :: ds) = (!isBor d && noBor ds) := rfl
@[simp] theorem oAdd_int {i j : Int} : oAdd (.int i) (.int j) = some (.int (i + j)) := rfl
@[simp] theorem oSub_int {i j : Int} : oSub (.int i) (.int j) = some (.int (i - j)) := rfl
@[simp] theorem oNeg_int {i : Int} : oNeg (.int i) = some (.int (-i)) := rfl
@[simp] theorem cLt_int {i j : Int} : cLt (.int i) (.int j) = some (decide (i < j)) := rfl
@[simp] theorem cLe_int {i j : Int} : cLe (.int i) (.int j) = some (decide (i ≤ j)) := rfl
@[simp] theorem cGt_int {i j : Int} : cGt (.int i) (.int j) = some (decide (j < i)) := rfl
@[simp] theorem cGe_int {i j : Int} : cGe (.int i) (.int j) = some (decide (j ≤ i)) := rfl
@[simp] theorem fit_int {i : Int} : D.fit (.int i) = true := rfl
@[simp] theorem fit_bl {i : Bool} : D.fit (.bl i) = true := rfl
@[simp] theorem fit_non : D.fit .non = true := rfl
@[simp] theorem cEq_int {i j : Int} : cEq (.int i) (.int j) = some (i == j) := by simp [cEq, eqD, D.py, PyData.eqv]
@[simp] theorem cNe_int {i j : Int} : cNe (.int i) (.int j) = some (!(i == j)) := by simp [cNe, eqD, D.py, PyData.eqv]
@[simp] theorem cEq_bl {i j : Bool} : cEq (.bl i) (.bl j) = some (i == j) := by simp [cEq, eqD, D.py, PyData.eqv]
@[simp] theorem truth_bl {b : Bool} : truth (.bl b) = some b := rfl
@[simp] theorem truth_int {i : Int} : truth (.int i) = some (i != 0) := rfl
@[simp] theorem truth_tup {ds : List D} : truth (.tup ds) = some (!ds.isEmpty) := rfl
@[simp] theorem oIdx_tup {ds : List D} {i : Int} : oIdx κ (.tup ds) (.int i) = atI ds i := rfl
@[simp] theorem oIdx_lst {ds : List D} {i : Int} : oIdx κ (.lst ds) (.int i) = atI ds i := rfl
@[simp] theorem oIdx_bor {ds : List D} {i : Int} : oIdx κ (.bor ds) (.int i) = atI ds i := rfl
@[simp] theorem oIdx_rol {ds : List D} {i : Int} : oIdx κ (.rol ds) (.int i) = atI ds i := rfl
@[simp] theorem bLen_tup {ds : List D} : bLen κ [.tup ds] = some (.int ds.length) := rfl
@[simp] theorem bLen_lst {ds : List D} : bLen κ [.lst ds] = some (.int ds.length) := rfl
@[simp] theorem bLen_bor {ds : List D} : bLen κ [.bor ds] = some (.int ds.length) := rfl
@[simp] theorem bLen_rol {ds : List D} : bLen κ [.rol ds] = some (.int ds.length) := rfl
@[simp] theorem bTuple_lst {ds : List D} : bTuple κ [.lst ds] = some (.tup ds) := rfl
@[simp] theorem bTuple_bor {ds : List D} : bTuple κ [.bor ds] = some (.tup ds) := rfl
@[simp] theorem bTuple_tup {ds : List D} : bTuple κ [.tup ds] = some (.tup ds) := rfl
@[simp] theorem bMin_2 {i j : Int} : bMin κ [.int i, .int j] = some (.int (if j < i then j else i)) := rfl
@[simp] theorem bMax_2 {i j : Int} : bMax κ [.int i, .int j] = some (.int (if j > i then j else i)) := rfl
@[simp] theorem bAbs_int {i : Int} : bAbs κ [.int i] = some (.int (if i < 0 then -i else i)) := rfl
@[simp] theorem bInt_int {i : Int} : bInt κ [.int i] = some (.int i) := rfl
@[simp] theorem walkD_lst {b : Bool} {ds : List D} : walkD b (.lst ds) = some ds := rfl
@[simp] theorem walkD_tup {b : Bool} {ds : List D} : walkD b (.tup ds) = some ds := rfl
@[simp] theorem walkD_bor {ds : List D} : walkD true (.bor ds) = some ds := rfl
@[simp] theorem oCut_tup {ds : List D} {l h : Option Int} : oCut (.tup ds) l h = some (.tup (cutD ds l h)) := rfl
@[simp] theorem ty_int {i : Int} : tyName κ (.int i) = some "int" := rfl
@[simp] theorem ty_bl {i : Bool} : tyName κ (.bl i) = some "bool" := rfl
@[simp] theorem ty_str {i : Str} : tyName κ (.str i) = some "str" := rfl
@[simp] theorem ty_non : tyName κ .non = some "NoneType" := rfl
@[simp] theorem ty_tup {ds : List D} : tyName κ (.tup ds) = some "tuple" := rfl
@[simp] theorem ty_lst {ds : List D} : tyName κ (.lst ds) = some "list" := rfl
@[simp] theorem kit_int_int : kitB "int" "int" = some true := by decide +kernel
@[simp] theorem kit_int_bool : kitB "int" "bool" = some false := by decide +kernel
@[simp] theorem kit_int_str : kitB "int" "str" = some false := by decide +kernel
@[simp] theorem kit_int_tuple : kitB "int" "tuple" = some false := by decide +kernel
@[simp] theorem kit_int_list : kitB "int" "list" = some false := by decide +kernel
@[simp] theorem kit_bool_int : kitB "bool" "int" = some true := by decide +kernel
@[simp] theorem kit_bool_bool : kitB "bool" "bool" = some true := by decide +kernel
@[simp] theorem kit_bool_str : kitB "bool" "str" = some false := by decide +kernel
@[simp] theorem kit_bool_tuple : kitB "bool" "tuple" = some false := by decide +kernel
@[simp] theorem kit_bool_list : kitB "bool" "list" = some false := by decide +kernel
@[simp] theorem kit_str_int : kitB "str" "int" = some false := by decide +kernel
@[simp] theorem kit_str_bool : kitB "str" "bool" = some false := by decide +kernel
@[simp] theorem kit_str_str : kitB "str" "str" = some true := by decide +kernel
@[simp] theorem kit_str_tuple : kitB "str" "tuple" = some false := by decide +kernel
@[simp] theorem kit_str_list : kitB "str" "list" = some false := by decide +kernel
@[simp] theorem kit_tuple_int : kitB "tuple" "int" = some false := by decide +kernel
@[simp] theorem kit_tuple_bool : kitB "tuple" "bool" = some false := by decide +kernel
@[simp] theorem kit_tuple_str : kitB "tuple" "str" = some false := by decide +kernel
@[simp] theorem kit_tuple_tuple : kitB "tuple" "tuple" = some true := by decide +kernel
@[simp] theorem kit_tuple_list : kitB "tuple" "list" = some false := by decide +kernel
@[simp] theorem kit_list_int : kitB "list" "int" = some false := by decide +kernel
@[simp] theorem kit_list_bool : kitB "list" "bool" = some false := by decide +kernel
@[simp] theorem kit_list_str : kitB "list" "str" = some false := by decide +kernel
@[simp] theorem kit_list_tuple : kitB "list" "tuple" = some false := by decide +kernel
@[simp] theorem kit_list_list : kitB "list" "list" = some true := by decide +kernel
@[simp] theorem kit_non_int : kitB "NoneType" "int" = some false := by decide +kernel
@[simp] theorem kit_non_bool : kitB "NoneType" "bool" = some false := by decide +kernel
@[simp] theorem kit_non_str : kitB "NoneType" "str" = some false := by decide +kernel
@[simp] theorem kit_non_tuple : kitB "NoneType" "tuple" = some false := by decide +kernel
@[simp] theorem kit_non_list : kitB "NoneType" "list" = some false := by decide +kernel
@[simp] theorem noEr_ok {a : α} : noEr (some (.ok a, κ)) = some (.ok a, κ) := rfl
/-! slots of few data -/
@[simp] theorem atI_0 (a : α) (l : List α) : atI (a :: l) 0 = some a := by
  have : ixN (a :: l).length 0 = some 0 := by unfold ixN; simp
  unfold atI; rw [this]; rfl
@[simp] theorem atI_1 (a b : α) (l : List α) : atI (a :: b :: l) 1 = some b := by
  have : ixN (a :: b :: l).length 1 = some 1 := by unfold ixN; simp; omega
  unfold atI; rw [this]; rfl
@[simp] theorem atI_2 (a b c : α) (l : List α) : atI (a :: b :: c :: l) 2 = some c := by
  have : ixN (a :: b :: c :: l).length 2 = some 2 := by unfold ixN; simp; omega
  unfold atI; rw [this]; rfl
@[simp] theorem atI_3 (a b c d : α) (l : List α) : atI (a :: b :: c :: d :: l) 3 = some d := by
  have : ixN (a :: b :: c :: d :: l).length 3 = some 3 := by unfold ixN; simp; omega
  unfold atI; rw [this]; rfl
end
theorem oMul_int {i j : Int} (h : mulOk i j = true) : oMul (.int i) (.int j) = some (.int (i * j)) := by simp [oMul, h]
theorem oFdiv_int {i j : Int} (h : j ≠ 0) (h2 : j.natAbs < 1073741824) : oFdiv (.int i) (.int j) = some (.int (i.fdiv j)) := by simp [oFdiv, h, h2]
theorem oMod_int {i j : Int} (h : j ≠ 0) : oMod (.int i) (.int j) = some (.int (i.fmod j)) := by simp [oMod, h]
theorem mulOk_l {i j : Int} (h1 : -18446744073709551616 < i) (h2 : i < 18446744073709551616) : mulOk i j = true := by simp [mulOk, mulSm, h1, h2]
theorem mulOk_r {i j : Int} (h1 : -18446744073709551616 < j) (h2 : j < 18446744073709551616) : mulOk i j = true := by simp [mulOk, mulSm, h1, h2]
end
end DL
set_option Elab.async false
set_option linter.all false
set_option maxRecDepth 100000
set_option maxHeartbeats 4000000
/-! DLd: the laws' own drawing of numbers (the same in each law), and their sameness. -/
namespace DL
noncomputable section
open PySem L2
/-- _law_deal: slots 0 script, 1 row, 2 k, 3 cell, 4 turn, 5 total -/
def m__law_deal : Es := (sSeq (sOwn 1 (fLst aNil))
      (sSeq (sForE (iRange1 (aCons (eBi bMin (aCons (eBi bLen (aCons (eVar 0) aNil)) (aCons (eC (.int 63)) aNil))) aNil)) (gNm 2) (sSeq (sAsg (gNm 3) (eBi bAbs (aCons (eBi bInt (aCons (eIdx (eVar 0) (eVar 2)) aNil)) aNil)))
      (sIf (bCmp cGe (eVar 3) (eOp oPow (eC (.int 10)) (eC (.int 18)))) (sForE (iRange1 (aCons (eC (.int 40)) aNil)) (gNm 4) (sIf (bCmp cGt (eVar 3) (eC (.int 0))) (sSeq (sApp 1 (eOp oMod (eVar 3) (eC (.int 1009))))
      (sAsg (gNm 3) (eOp oFdiv (eVar 3) (eC (.int 1009))))) sNext)) (sSeq (sAsg (gNm 3) (eOp oAdd (eOp oAdd (eOp oMul (eOp oMod (eVar 3) (eC (.int 2147483629))) (eC (.int 48271))) (eOp oMul (eVar 2) (eC (.int 69621)))) (eC (.int 11))))
      (sForE (iRange1 (aCons (eC (.int 5)) aNil)) (gNm 4) (sSeq (sAsg (gNm 3) (eOp oMod (eOp oAdd (eOp oAdd (eOp oMul (eVar 3) (eC (.int 16807))) (eC (.int 12345))) (eVar 4)) (eC (.int 2147483647))))
      (sApp 1 (eOp oMod (eOp oFdiv (eVar 3) (eC (.int 7))) (eC (.int 1009))))))))))
      (sSeq (sAsg (gNm 5) (eOp oAdd (eBi bSum (aCons (eVar 1) aNil)) (eBi bLen (aCons (eVar 0) aNil))))
      (sFrz 1 (sRet (eFr (fLst (aCons (eVar 1) (aCons (eSt (fLst (aCons (eC (.int 0)) aNil))) (aCons (eVar 5) aNil))))))))))
def f__law_deal (ds : List DL.D) (κ : Ka) : Re DL.D := noEr (mean 6 m__law_deal ds κ)
/-- _law_take: slots 0 deal, 1 many, 2 at, 3 cell, 4 turn -/
def m__law_take : Es := (sSeq (sAsg (gNm 2) (eIdx (eIdx (eVar 0) (eC (.int 1))) (eC (.int 0))))
      (sSeq (sSetO (eIdx (eVar 0) (eC (.int 1))) (eC (.int 0)) (eOp oAdd (eVar 2) (eC (.int 1))))
      (sSeq (sIf (bCmp cLt (eVar 2) (eBi bLen (aCons (eIdx (eVar 0) (eC (.int 0))) aNil))) (sRet (eOp oMod (eIdx (eIdx (eVar 0) (eC (.int 0))) (eVar 2)) (eVar 1))) sNext)
      (sSeq (sAsg (gNm 3) (eOp oMod (eOp oAdd (eOp oAdd (eOp oMul (eVar 2) (eC (.int 7919))) (eOp oMul (eIdx (eVar 0) (eC (.int 2))) (eC (.int 31)))) (eC (.int 17))) (eC (.int 2147483629))))
      (sSeq (sForE (iRange1 (aCons (eC (.int 3)) aNil)) (gNm 4) (sAsg (gNm 3) (eOp oMod (eOp oAdd (eOp oAdd (eOp oMul (eVar 3) (eVar 3)) (eOp oMul (eC (.int 48271)) (eVar 2))) (eC (.int 12345))) (eC (.int 2147483647)))))
      (sRet (eOp oMod (eOp oFdiv (eVar 3) (eC (.int 7))) (eVar 1))))))))
def f__law_take (ds : List DL.D) (κ : Ka) : Re DL.D := noEr (mean 5 m__law_take ds κ)
/-- _law_same: slots 0 a, 1 b, 2 k -/
def m__law_same (self : List DL.D → Ka → Re DL.D) : Es := (sSeq (sIf (bOr (bOf (eIsi "tuple" (eVar 1))) (bOf (eIsi "list" (eVar 1)))) (sSeq (sIf (bOr (bAnd (bOf (eIsi "tuple" (eVar 1))) (bNot (bOf (eIsi "tuple" (eVar 0))))) (bAnd (bOf (eIsi "list" (eVar 1))) (bNot (bOf (eIsi "list" (eVar 0)))))) (sRet (eC (.bl false))) sNext)
      (sSeq (sIf (bCmp cNe (eBi bLen (aCons (eVar 0) aNil)) (eBi bLen (aCons (eVar 1) aNil))) (sRet (eC (.bl false))) sNext)
      (sSeq (sForE (iRange1 (aCons (eBi bLen (aCons (eVar 1) aNil)) aNil)) (gNm 2) (sIf (bNot (bOf (eCall 2 self (aCons (eIdx (eVar 0) (eVar 2)) (aCons (eIdx (eVar 1) (eVar 2)) aNil))))) (sRet (eC (.bl false))) sNext))
      (sRet (eC (.bl true)))))) sNext)
      (sSeq (sIf (bOr (bOf (eIsi "bool" (eVar 0))) (bOf (eIsi "bool" (eVar 1)))) (sRet (eAnd (eIsi "bool" (eVar 0)) (eAnd (eIsi "bool" (eVar 1)) (eCmp cEq (eVar 0) (eVar 1))))) sNext)
      (sSeq (sIf (bOf (eIsi "int" (eVar 1))) (sRet (eAnd (eIsi "int" (eVar 0)) (eCmp cEq (eVar 0) (eVar 1)))) sNext)
      (sSeq (sIf (bOf (eIsi "str" (eVar 1))) (sRet (eAnd (eIsi "str" (eVar 0)) (eCmp cEq (eVar 0) (eVar 1)))) sNext)
      (sRet (eAnd (eCmp cIs (eVar 0) (eC .non)) (eCmp cIs (eVar 1) (eC .non))))))))
def f__law_sameN : Nat → List DL.D → Ka → Re DL.D
  | 0 => fun _ _ => none
  | k + 1 => fun ds κ => noEr (mean 3 (m__law_same (f__law_sameN k)) ds κ)
def f__law_same : List DL.D → Ka → Re DL.D := f__law_sameN 12
/-- _law_bool: slots 0 answer, 1 due -/
def m__law_bool : Es := (sRet (eAnd (eIsi "bool" (eVar 0)) (eCmp cEq (eVar 0) (eVar 1))))
def f__law_bool (ds : List DL.D) (κ : Ka) : Re DL.D := noEr (mean 2 m__law_bool ds κ)
section
variable {κ : Ka} {ρ : List Sl} {α : Type}
@[simp] theorem oIdx_obj {ds : List D} {i : Int} {k : Ka} : oIdx (.lst ds :: k) (.obj 0) (.int i) = atI ds i := rfl
@[simp] theorem sSetO_def {mo mi m : Ev D} : sSetO mo mi m ρ κ = (m ρ κ).bindS fun d κ1 => (mo ρ κ1).bindS fun o κ2 => (mi ρ κ2).bindS fun j κ3 => match o, j with
  | .obj n, .int z => match κ3[n]? with
    | some (.lst ds) => match ixN ds.length z with
      | some q => if isBor d = true then none else some (.nx ρ, κ3.set n (.lst (ds.set q d)))
      | none => none
    | _ => none
  | _, _ => none := rfl
theorem wpE_atom {α : Type} {r : Re α} {a : α} {k : Ka} {Q : α → Ka → Prop} (e : r = some (.ok a, k)) (h : Q a k) : wpE r Q := by rw [e]; exact ⟨h⟩
theorem wpS_atom {r : Option (Out × Ka)} {ρ' : List Sl} {k : Ka} {Qn Qb Qc : List Sl → Ka → Prop} {Qr : D → Ka → Prop} (e : r = some (.nx ρ', k)) (h : Qn ρ' k) : wpS r Qn Qr Qb Qc := by rw [e]; exact ⟨h⟩
theorem wpS_atomR {r : Option (Out × Ka)} {d : D} {k : Ka} {Qn Qb Qc : List Sl → Ka → Prop} {Qr : D → Ka → Prop} (e : r = some (.rt d, k)) (h : Qr d k) : wpS r Qn Qr Qb Qc := by rw [e]; exact ⟨h⟩
theorem fmod_bd (a : Int) {b : Int} (h : 0 < b) : 0 ≤ a.fmod b ∧ a.fmod b < b := ⟨Int.fmod_nonneg_of_pos _ h, Int.fmod_lt_of_pos _ h⟩
theorem atI_get? {l : List α} {i : Int} (h0 : 0 ≤ i) (h1 : i < l.length) : atI l i = l[i.toNat]? := by
  unfold atI ixN
  rw [if_pos h0, if_pos h1]; rfl
end
/-- what is drawn from -/
def dealD (r : List Int) (t : Int) : D := .lst [.lst (r.map D.int), .obj 0, .int t]
def at_ (i : Int) : Ka := [.lst [.int i]]
theorem range3 : rangeD 0 3 = [.int 0, .int 1, .int 2] := by rfl
theorem take_ok (r : List Int) (t at' many : Int) (h0 : 0 ≤ at') (hm : 0 < many) : ∃ v, f__law_take [dealD r t, .int many] (at_ at') = some (.ok (.int v), at_ (at' + 1)) ∧ 0 ≤ v ∧ v < many := by
  suffices h : wpE (f__law_take [dealD r t, .int many] (at_ at')) fun d κ => ∃ v, d = .int v ∧ κ = at_ (at' + 1) ∧ 0 ≤ v ∧ v < many by
    obtain ⟨d, κ, e, v, rfl, rfl, h1, h2⟩ := wpE_eq.mp h
    exact ⟨v, e, h1, h2⟩
  unfold f__law_take
  refine mean_wp ?_
  have hs : slots 5 [dealD r t, .int many] = [.val (dealD r t), .val (.int many), .no, .no, .no] := rfl
  rw [hs]
  unfold m__law_take dealD
  simp only [wpS_seq]
  refine wpS_atom (ρ' := [.val (dealD r t), .val (.int many), .val (.int at'), .no, .no]) (k := at_ at') (by simp [at_, dealD]) ?_
  refine wpS_atom (ρ' := [.val (dealD r t), .val (.int many), .val (.int at'), .no, .no]) (k := at_ (at' + 1)) (by simp [at_, dealD, ixN]) ?_
  rw [wpS_if]
  refine wpE_atom (a := decide (at' < r.length)) (k := at_ (at' + 1)) (by simp [at_, dealD]) ?_
  have hmod : many ≠ 0 := by omega
  by_cases hlt : at' < r.length
  · rw [if_pos (decide_eq_true hlt)]
    have e1 : atI (r.map D.int) at' = some (.int (r[at'.toNat]'(by omega))) := by
      rw [atI_get? h0 (by simpa using hlt), List.getElem?_map, List.getElem?_eq_getElem (by omega)]; rfl
    refine wpS_atomR (d := .int ((r[at'.toNat]'(by omega)).fmod many)) (k := at_ (at' + 1)) (by simp [at_, dealD, e1, oMod_int hmod]) ?_
    exact ⟨_, rfl, rfl, (fmod_bd _ hm).1, (fmod_bd _ hm).2⟩
  · rw [if_neg (by simp [hlt])]
    rw [wpS_next]
    refine wpS_atom (ρ' := [.val (dealD r t), .val (.int many), .val (.int at'), .val (.int ((at' * 7919 + t * 31 + 17).fmod 2147483629)), .no]) (k := at_ (at' + 1)) ?_ ?_
    · simp [at_, dealD, oMul_int (mulOk_r (i := at') (j := 7919) (by omega) (by omega)), oMul_int (mulOk_r (i := t) (j := 31) (by omega) (by omega)), oMod_int]
    · refine wpS_forE (κ1 := at_ (at' + 1)) (rangeD 0 3) (by simp [at_, bRange1, okR, rOfL]) (fun _ ρ κ => κ = at_ (at' + 1) ∧ ∃ c s, ρ = [.val (dealD r t), .val (.int many), .val (.int at'), .val (.int c), s] ∧ 0 ≤ c ∧ c < 2147483647) ⟨rfl, _, _, rfl, (fmod_bd _ (by omega)).1, by have := (fmod_bd (at' * 7919 + t * 31 + 17) (b := 2147483629) (by omega)).2; omega⟩ ?_ ?_
      · rintro i d ρ κ hd ⟨rfl, c, s, rfl, c0, c1⟩
        have hb : ∃ j, d = .int j := by
          unfold rangeD at hd
          rw [List.getElem?_map] at hd
          obtain ⟨j, _, rfl⟩ := Option.map_eq_some_iff.mp hd
          exact ⟨_, rfl⟩
        obtain ⟨j, rfl⟩ := hb
        refine ⟨_, rfl, ?_⟩
        refine wpS_atom (ρ' := [.val (dealD r t), .val (.int many), .val (.int at'), .val (.int ((c * c + 48271 * at' + 12345).fmod 2147483647)), .val (.int j)]) (k := at_ (at' + 1)) ?_ ⟨rfl, _, _, rfl, (fmod_bd _ (by omega)).1, (fmod_bd _ (by omega)).2⟩
        simp [oMul_int (mulOk_r (i := c) (j := c) (by omega) (by omega)), oMul_int (mulOk_l (i := 48271) (j := at') (by omega) (by omega)), oMod_int]
      · rintro ρ κ ⟨rfl, c, s, rfl, c0, c1⟩
        refine wpS_atomR (d := .int ((c.fdiv 7).fmod many)) (k := at_ (at' + 1)) (by simp [oFdiv_int, oMod_int hmod]) ?_
        exact ⟨_, rfl, rfl, (fmod_bd _ hm).1, (fmod_bd _ hm).2⟩
theorem mem_range {lo hi : Int} {i : Nat} {d : D} (h : (rangeD lo hi)[i]? = some d) : d = .int (lo + (i : Int)) ∧ i < (hi - lo).toNat := by
  unfold rangeD at h
  rw [List.getElem?_map] at h
  obtain ⟨j, hj, rfl⟩ := Option.map_eq_some_iff.mp h
  obtain ⟨h1, h2⟩ := List.getElem?_eq_some_iff.mp hj
  rw [List.getElem_range] at h2
  subst h2
  exact ⟨rfl, by simpa using h1⟩
theorem range_len (lo hi : Int) : (rangeD lo hi).length = (hi - lo).toNat := by simp [rangeD]
theorem pow18 : oPow (.int 10) (.int 18) = some (.int 1000000000000000000) := by
  simp [oPow]
theorem stB1' (R : D) (own : List D) (c0 I M A B C x : Int) (s4 s5 : Sl) (κ : Ka) (hM : M ≠ 0) (hx : c0.fmod M = x) (h1 : mulOk x A = true) (h2 : mulOk I B = true) : sAsg (gNm 3) (eOp oAdd (eOp oAdd (eOp oMul (eOp oMod (eVar 3) (eC (.int M))) (eC (.int A))) (eOp oMul (eVar 2) (eC (.int B)))) (eC (.int C))) [.val R, .own own, .val (.int I), .val (.int c0), s4, s5] κ = some (.nx [.val R, .own own, .val (.int I), .val (.int (x * A + I * B + C)), s4, s5], κ) := by
  have h1 := oMul_int h1
  have h2 := oMul_int h2
  have h3 := oMod_int (i := c0) hM
  rw [hx] at h3
  simp [h1, h2, h3]
theorem stB1 (R : D) (own : List D) (c0 : Int) (I : Int) (s4 s5 : Sl) (κ : Ka) : ∃ c, sAsg (gNm 3) (eOp oAdd (eOp oAdd (eOp oMul (eOp oMod (eVar 3) (eC (.int 2147483629))) (eC (.int 48271))) (eOp oMul (eVar 2) (eC (.int 69621)))) (eC (.int 11))) [.val R, .own own, .val (.int I), .val (.int c0), s4, s5] κ = some (.nx [.val R, .own own, .val (.int I), .val (.int c), s4, s5], κ) :=
  ⟨_, stB1' R own c0 I 2147483629 48271 69621 11 (c0.fmod 2147483629) s4 s5 κ (by omega) (Eq.refl _) (mulOk_r (by omega) (by omega)) (mulOk_r (by omega) (by omega))⟩
theorem stB2 (R : D) (own : List D) (I c : Int) (J : Int) (s5 : Sl) (κ : Ka) : sAsg (gNm 3) (eOp oMod (eOp oAdd (eOp oAdd (eOp oMul (eVar 3) (eC (.int 16807))) (eC (.int 12345))) (eVar 4)) (eC (.int 2147483647))) [.val R, .own own, .val (.int I), .val (.int c), .val (.int J), s5] κ = some (.nx [.val R, .own own, .val (.int I), .val (.int ((c * 16807 + 12345 + J).fmod 2147483647)), .val (.int J), s5], κ) := by
  have h1 := oMul_int (mulOk_r (i := c) (j := 16807) (by omega) (by omega))
  simp [oMod_int, h1]
theorem stB3 (R : D) (rs : List Int) (I c : Int) (J : Int) (s5 : Sl) (κ : Ka) (hl : rs.length < 100000) : sApp 1 (eOp oMod (eOp oFdiv (eVar 3) (eC (.int 7))) (eC (.int 1009))) [.val R, .own (rs.map D.int), .val (.int I), .val (.int c), .val (.int J), s5] κ = some (.nx [.val R, .own ((rs ++ [(c.fdiv 7).fmod 1009]).map D.int), .val (.int I), .val (.int c), .val (.int J), s5], κ) := by
  simp [oMod_int, oFdiv_int]; omega
theorem deal_ok (ns : List Int) (hl : ns.length ≤ 63) : ∃ r t, f__law_deal [.rol (ns.map D.int)] [] = some (.ok (dealD r t), at_ 0) := by
  suffices h : wpE (f__law_deal [.rol (ns.map D.int)] []) fun d κ => ∃ r t, d = dealD r t ∧ κ = at_ 0 by
    obtain ⟨d, κ, e, r, t, rfl, rfl⟩ := wpE_eq.mp h
    exact ⟨r, t, e⟩
  unfold f__law_deal
  refine mean_wp ?_
  have hs : slots 6 [.rol (ns.map D.int)] = [.val (.rol (ns.map D.int)), .no, .no, .no, .no, .no] := rfl
  rw [hs]
  unfold m__law_deal
  simp only [wpS_seq]
  refine wpS_atom (ρ' := [.val (.rol (ns.map D.int)), .own (([] : List Int).map D.int), .no, .no, .no, .no]) (k := []) (by simp) ?_
  have hn1 : (-4611686018427387904 : Int) ≤ (if (63 : Int) < (ns.length : Int) then (63 : Int) else (ns.length : Int)) := by split <;> omega
  have hn2 : (if (63 : Int) < (ns.length : Int) then (63 : Int) else (ns.length : Int)) < (4611686018427387904 : Int) := by split <;> omega
  refine wpS_forE (κ1 := []) (rangeD 0 (if (63 : Int) < ns.length then 63 else ns.length)) (by simp [bRange1, okR, hn1, hn2]) (fun i ρ κ => κ = [] ∧ ∃ (rs : List Int) (s2 s3 s4 : Sl), ρ = [.val (.rol (ns.map D.int)), .own (rs.map D.int), s2, s3, s4, .no] ∧ rs.length ≤ 40 * i) ⟨rfl, [], _, _, _, rfl, by simp⟩ ?_ ?_
  · rintro i d ρ κ hd ⟨rfl, rs, s2, s3, s4, rfl, hrs⟩
    obtain ⟨rfl, hi⟩ := mem_range hd
    have hi2 : i < ns.length := by split at hi <;> omega
    have hi3 : i < 63 := by omega
    refine ⟨_, rfl, ?_⟩
    simp only [wpS_seq]
    have e1 : atI (ns.map D.int) (i : Int) = some (.int ns[i]) := by
      rw [atI_get? (by omega) (by simpa using hi2), List.getElem?_map]
      rw [show ((i : Int)).toNat = i from rfl, List.getElem?_eq_getElem hi2]; rfl
    refine wpS_atom (ρ' := [.val (.rol (ns.map D.int)), .own (rs.map D.int), .val (.int (0 + (i : Int))), .val (.int (if ns[i] < 0 then -ns[i] else ns[i])), s4, .no]) (k := []) (by simp [e1]) ?_
    generalize (if ns[i] < 0 then -ns[i] else ns[i]) = c0
    rw [wpS_if]
    refine wpE_atom (a := decide ((1000000000000000000 : Int) ≤ c0)) (k := []) (by simp [pow18]) ?_
    by_cases hc : (1000000000000000000 : Int) ≤ c0
    · rw [if_pos (decide_eq_true hc)]
      refine wpS_forE (κ1 := []) (rangeD 0 40) (by simp [bRange1, okR]) (fun j ρ κ => κ = [] ∧ ∃ (rs : List Int) (c : Int) (s4 : Sl), ρ = [.val (.rol (ns.map D.int)), .own (rs.map D.int), .val (.int (0 + (i : Int))), .val (.int c), s4, .no] ∧ rs.length ≤ 40 * i + j) ⟨rfl, rs, _, _, rfl, by omega⟩ ?_ ?_
      · rintro j d ρ κ hd ⟨rfl, rs, c, s4, rfl, hrs⟩
        obtain ⟨rfl, hj⟩ := mem_range hd
        have hj2 : j < 40 := by omega
        refine ⟨_, rfl, ?_⟩
        rw [wpS_if]
        refine wpE_atom (a := decide (0 < c)) (k := []) (by simp) ?_
        by_cases hc0 : 0 < c
        · rw [if_pos (decide_eq_true hc0)]
          simp only [wpS_seq]
          refine wpS_atom (ρ' := [.val (.rol (ns.map D.int)), .own ((rs ++ [c.fmod 1009]).map D.int), .val (.int (0 + (i : Int))), .val (.int c), .val (.int (0 + (j : Int))), .no]) (k := []) ?_ ?_
          · simp [oMod_int]; omega
          · refine wpS_atom (ρ' := [.val (.rol (ns.map D.int)), .own ((rs ++ [c.fmod 1009]).map D.int), .val (.int (0 + (i : Int))), .val (.int (c.fdiv 1009)), .val (.int (0 + (j : Int))), .no]) (k := []) (by simp [oFdiv_int]) ?_
            exact ⟨rfl, _, _, _, rfl, by simp; omega⟩
        · rw [if_neg (by simp [hc0])]
          rw [wpS_next]
          exact ⟨rfl, _, _, _, rfl, by omega⟩
      · rintro ρ κ ⟨rfl, rs, c, s4, rfl, hrs⟩
        rw [range_len] at hrs
        exact ⟨rfl, rs, _, _, _, rfl, by omega⟩
    · rw [if_neg (by simp [hc])]
      simp only [wpS_seq]
      obtain ⟨c1, e2⟩ := stB1 (.rol (ns.map D.int)) (rs.map D.int) c0 (0 + (i : Int)) s4 .no []
      refine wpS_atom e2 ?_
      refine wpS_forE (κ1 := []) (rangeD 0 5) (by simp [bRange1, okR]) (fun j ρ κ => κ = [] ∧ ∃ (rs : List Int) (c : Int) (s4 : Sl), ρ = [.val (.rol (ns.map D.int)), .own (rs.map D.int), .val (.int (0 + (i : Int))), .val (.int c), s4, .no] ∧ rs.length ≤ 40 * i + j) ⟨rfl, rs, _, _, rfl, by omega⟩ ?_ ?_
      · rintro j d ρ κ hd ⟨rfl, rs, c, s4, rfl, hrs⟩
        obtain ⟨rfl, hj⟩ := mem_range hd
        have hj2 : j < 5 := by omega
        refine ⟨_, rfl, ?_⟩
        simp only [wpS_seq]
        refine wpS_atom (stB2 _ _ _ _ _ _ _) ?_
        generalize ((c * 16807 + 12345 + (0 + (j : Int))).fmod 2147483647) = c2
        refine wpS_atom (stB3 _ _ _ _ _ _ _ (by omega)) ?_
        exact ⟨rfl, _, _, _, rfl, by simp; omega⟩
      · rintro ρ κ ⟨rfl, rs, c, s4, rfl, hrs⟩
        rw [range_len] at hrs
        exact ⟨rfl, rs, _, _, _, rfl, by omega⟩
  · rintro ρ κ ⟨rfl, rs, s2, s3, s4, rfl, hrs⟩
    refine wpS_atom (ρ' := [.val (.rol (ns.map D.int)), .own (rs.map D.int), s2, s3, s4, .val (.int (rs.sum + ns.length))]) (k := []) ?_ ?_
    · simp [bSum, listK, intsOf_map]
    · refine wpS_atomR (d := dealD rs (rs.sum + ns.length)) (k := at_ 0) ?_ ⟨_, _, rfl, rfl⟩
      simp [frz, dealD, at_]
end
end DL
set_option Elab.async false
set_option linter.all false
set_option maxRecDepth 100000
set_option maxHeartbeats 4000000
/-! DLf: shared laws on data: sameness, equality, walked rows. -/
namespace DL
noncomputable section
open PySem L2
/-- data that equality can be asked of, of depth at most k -/
def okD (k : Nat) (d : D) : Prop := d.nob = true ∧ PyData.canLay0 d.py = true ∧ d.py.depth ≤ k
section
variable {κ : Ka} {k : Nat} {ds es : List D} {d e : D}
theorem okD_int {i : Int} : okD k (.int i) := ⟨by simp [D.nob], by simp [D.py, PyData.canLay0], by simp [D.py, PyData.depth]⟩
theorem okD_bl {i : Bool} : okD k (.bl i) := ⟨by simp [D.nob], by simp [D.py, PyData.canLay0], by simp [D.py, PyData.depth]⟩
theorem okD_non : okD k .non := ⟨by simp [D.nob], by simp [D.py, PyData.canLay0], by simp [D.py, PyData.depth]⟩
theorem nobs_iff : ∀ ds : List D, D.nobs ds = true ↔ ∀ d ∈ ds, d.nob = true
  | [] => by simp [D.nobs]
  | d :: ds => by simp [D.nobs, nobs_iff ds]
theorem canLays_iff : ∀ ds : List D, PyData.canLayAll0 (D.pys ds) = true ↔ ∀ d ∈ ds, PyData.canLay0 d.py = true
  | [] => by simp [D.pys, PyData.canLayAll0]
  | d :: ds => by simp [D.pys, PyData.canLayAll0, canLays_iff ds]
theorem depths_iff : ∀ ds : List D, PyData.depthAll (D.pys ds) ≤ k ↔ ∀ d ∈ ds, d.py.depth ≤ k
  | [] => by simp [D.pys, PyData.depthAll]
  | d :: ds => by simp [D.pys, PyData.depthAll, Nat.max_le, depths_iff ds]
theorem okD_tup (h : ∀ d ∈ ds, okD k d) : okD (k + 1) (.tup ds) :=
  ⟨by rw [D.nob, nobs_iff]; exact fun d hd => (h d hd).1, by rw [D.py, PyData.canLay0, canLays_iff]; exact fun d hd => (h d hd).2.1,
   by rw [D.py, PyData.depth]; have := (depths_iff (k := k) ds).mpr fun d hd => (h d hd).2.2; omega⟩
theorem okD_lst (h : ∀ d ∈ ds, okD k d) : okD (k + 1) (.lst ds) :=
  ⟨by rw [D.nob, nobs_iff]; exact fun d hd => (h d hd).1, by rw [D.py, PyData.canLay0, canLays_iff]; exact fun d hd => (h d hd).2.1,
   by rw [D.py, PyData.depth]; have := (depths_iff (k := k) ds).mpr fun d hd => (h d hd).2.2; omega⟩
theorem okD_bor (h : ∀ d ∈ ds, okD k d) : okD (k + 1) (.bor ds) :=
  ⟨by rw [D.nob, nobs_iff]; exact fun d hd => (h d hd).1, by rw [D.py, PyData.canLay0, canLays_iff]; exact fun d hd => (h d hd).2.1,
   by rw [D.py, PyData.depth]; have := (depths_iff (k := k) ds).mpr fun d hd => (h d hd).2.2; omega⟩
theorem fit_of (h : okD 60 d) : d.fit = true := by
  unfold D.fit SeqAt.shaped
  simp only [Bool.and_eq_true, decide_eq_true_eq]
  exact ⟨h.1, h.2.1, by have := h.2.2; omega⟩
theorem okD_mono {m : Nat} (h : okD k d) (hm : k ≤ m) : okD m d := ⟨h.1, h.2.1, Nat.le_trans h.2.2 hm⟩
theorem cEq_of (h1 : okD 60 d) (h2 : okD 60 e) : cEq d e = some (PyData.eqv d.py e.py) := by
  unfold cEq eqD; rw [fit_of h1, fit_of h2]; rfl
theorem cNe_of (h1 : okD 60 d) (h2 : okD 60 e) : cNe d e = some (!PyData.eqv d.py e.py) := by
  unfold cNe eqD; rw [fit_of h1, fit_of h2]; rfl
theorem eqv_self (h : okD k d) : PyData.eqv d.py d.py = true := PySem.SeqAt.eqv_refl d.py h.2.1
theorem cEq_self (h : okD 60 d) : cEq d d = some true := by rw [cEq_of h h, eqv_self h]
theorem cNe_self (h : okD 60 d) : cNe d d = some false := by rw [cNe_of h h, eqv_self h]; rfl
theorem eqvAll_ints : ∀ l m : List Int, PyData.eqvAll (D.pys (l.map D.int)) (D.pys (m.map D.int)) = decide (l = m)
  | [], [] => by simp [D.pys, PyData.eqvAll]
  | [], b :: m => by simp [D.pys, PyData.eqvAll]
  | a :: l, [] => by simp [D.pys, PyData.eqvAll]
  | a :: l, b :: m => by
    simp only [D.pys, D.py, PyData.eqvAll, List.map_cons, PyData.eqv, eqvAll_ints l m, List.cons.injEq]
    by_cases h : a = b <;> simp [h]
theorem okD_ints (l : List Int) : okD 60 (.tup (l.map D.int)) := okD_mono (okD_tup (k := 0) fun d hd => by
  obtain ⟨i, _, rfl⟩ := List.mem_map.mp hd; exact okD_int) (by omega)
theorem cEq_ints (l m : List Int) : cEq (.tup (l.map D.int)) (.tup (m.map D.int)) = some (decide (l = m)) := by
  rw [cEq_of (okD_ints l) (okD_ints m), D.py, D.py, PyData.eqv, eqvAll_ints]
theorem cNe_ints (l m : List Int) : cNe (.tup (l.map D.int)) (.tup (m.map D.int)) = some (!decide (l = m)) := by
  rw [cNe_of (okD_ints l) (okD_ints m), D.py, D.py, PyData.eqv, eqvAll_ints]
theorem cEq_tup0 (l : List Int) : cEq (.tup (l.map D.int)) (.tup []) = some (decide (l = [])) := cEq_ints l []
theorem cNe_tup0 (l : List Int) : cNe (.tup (l.map D.int)) (.tup []) = some (!decide (l = [])) := cNe_ints l []
end
/-- data that _law_same finds like itself, in k turns -/
inductive Sm : Nat → D → Prop
  | int {k i} : Sm (k + 1) (.int i)
  | bl {k i} : Sm (k + 1) (.bl i)
  | str {k x} (h : PyData.strOk x = true) : Sm (k + 1) (.str x)
  | non {k} : Sm (k + 1) .non
  | tup {k ds} (h : ∀ d ∈ ds, Sm k d) (l : ds.length ≤ 16777216) : Sm (k + 1) (.tup ds)
  | lst {k ds} (h : ∀ d ∈ ds, Sm k d) (l : ds.length ≤ 16777216) : Sm (k + 1) (.lst ds)
section
variable {κ : Ka} {k : Nat} {ds es : List D} {d e : D} {α : Type}
@[simp] theorem cEq_str {x : Str} (h : PyData.strOk x = true) : cEq (.str x) (.str x) = some true :=
  cEq_self ⟨by simp [D.nob], by simpa [D.py, PyData.canLay0] using h, by simp [D.py, PyData.depth]⟩
theorem atI_nat {l : List α} {i : Nat} (h : i < l.length) : atI l (i : Int) = some l[i] := by
  rw [atI_get? (by omega) (by omega)]
  rw [show ((i : Int)).toNat = i from rfl, List.getElem?_eq_getElem h]
theorem Sm.nb : Sm k d → isBor d = false
  | .int => rfl | .bl => rfl | .str _ => rfl | .non => rfl | .tup _ _ => rfl | .lst _ _ => rfl
theorem range1_ok {j : Int} (h : -4611686018427387904 ≤ j ∧ j < 4611686018427387904) {ρ : List Sl} {n : Ev (List D)} (e : n ρ κ = some (.ok [.int j], κ)) : iRange1 n ρ κ = some (.ok (rangeD 0 j), κ) := by
  have h' : okR j := h
  simp [e, bRange1, h']
theorem range2_ok {i j : Int} (h1 : -4611686018427387904 ≤ i ∧ i < 4611686018427387904) (h2 : -4611686018427387904 ≤ j ∧ j < 4611686018427387904) {ρ : List Sl} {n : Ev (List D)} (e : n ρ κ = some (.ok [.int i, .int j], κ)) : iRange2 n ρ κ = some (.ok (rangeD i j), κ) := by
  have h1' : okR i := h1
  have h2' : okR j := h2
  simp [e, bRange2, h1', h2']
theorem same_rowT {f : List D → Ka → Re D} {ds : List D} (h : ∀ d ∈ ds, f [d, d] κ = some (.ok (.bl true), κ)) (l : ds.length ≤ 16777216) : noEr (mean 3 (m__law_same f) [.tup ds, .tup ds] κ) = some (.ok (.bl true), κ) := by
  refine eq_of_wp ?_
  refine mean_wp ?_
  show wpS (m__law_same f [.val (.tup ds), .val (.tup ds), .no] κ) _ _ _ _
  unfold m__law_same
  rw [wpS_seq, wpS_if]
  refine wpE_atom (a := true) (k := κ) (by simp) ?_
  rw [if_pos rfl]
  simp only [wpS_seq]
  refine wpS_atom (ρ' := [.val (.tup ds), .val (.tup ds), .no]) (k := κ) (by simp) ?_
  refine wpS_atom (ρ' := [.val (.tup ds), .val (.tup ds), .no]) (k := κ) (by simp) ?_
  refine wpS_forE (κ1 := κ) (rangeD 0 ds.length) (range1_ok (by omega) (by simp)) (fun i ρ κ' => κ' = κ ∧ ∃ s, ρ = [.val (.tup ds), .val (.tup ds), s]) ⟨rfl, _, rfl⟩ ?_ ?_
  · rintro i d ρ κ' hd ⟨rfl, s, rfl⟩
    obtain ⟨rfl, hi⟩ := mem_range hd
    have hi2 : i < ds.length := by omega
    refine ⟨_, rfl, ?_⟩
    refine wpS_atom (ρ' := [.val (.tup ds), .val (.tup ds), .val (.int (0 + (i : Int)))]) (k := κ') ?_ ⟨rfl, _, rfl⟩
    simp [atI_nat hi2, h ds[i] (List.getElem_mem hi2)]
  · rintro ρ κ' ⟨rfl, s, rfl⟩
    exact wpS_atomR (d := .bl true) (k := κ') (by simp) ⟨rfl, rfl⟩
theorem same_rowL {f : List D → Ka → Re D} {ds : List D} (h : ∀ d ∈ ds, f [d, d] κ = some (.ok (.bl true), κ)) (l : ds.length ≤ 16777216) : noEr (mean 3 (m__law_same f) [.lst ds, .lst ds] κ) = some (.ok (.bl true), κ) := by
  refine eq_of_wp ?_
  refine mean_wp ?_
  show wpS (m__law_same f [.val (.lst ds), .val (.lst ds), .no] κ) _ _ _ _
  unfold m__law_same
  rw [wpS_seq, wpS_if]
  refine wpE_atom (a := true) (k := κ) (by simp) ?_
  rw [if_pos rfl]
  simp only [wpS_seq]
  refine wpS_atom (ρ' := [.val (.lst ds), .val (.lst ds), .no]) (k := κ) (by simp) ?_
  refine wpS_atom (ρ' := [.val (.lst ds), .val (.lst ds), .no]) (k := κ) (by simp) ?_
  refine wpS_forE (κ1 := κ) (rangeD 0 ds.length) (range1_ok (by omega) (by simp)) (fun i ρ κ' => κ' = κ ∧ ∃ s, ρ = [.val (.lst ds), .val (.lst ds), s]) ⟨rfl, _, rfl⟩ ?_ ?_
  · rintro i d ρ κ' hd ⟨rfl, s, rfl⟩
    obtain ⟨rfl, hi⟩ := mem_range hd
    have hi2 : i < ds.length := by omega
    refine ⟨_, rfl, ?_⟩
    refine wpS_atom (ρ' := [.val (.lst ds), .val (.lst ds), .val (.int (0 + (i : Int)))]) (k := κ') ?_ ⟨rfl, _, rfl⟩
    simp [atI_nat hi2, h ds[i] (List.getElem_mem hi2)]
  · rintro ρ κ' ⟨rfl, s, rfl⟩
    exact wpS_atomR (d := .bl true) (k := κ') (by simp) ⟨rfl, rfl⟩
theorem same_refl : ∀ (k : Nat) (d : D), Sm k d → f__law_sameN k [d, d] κ = some (.ok (.bl true), κ)
  | k + 1, _, .int => by simp [f__law_sameN, m__law_same, mean, slots, List.replicate]
  | k + 1, _, .bl => by simp [f__law_sameN, m__law_same, mean, slots, List.replicate]
  | k + 1, _, .str h => by simp [f__law_sameN, m__law_same, mean, slots, List.replicate, cEq_str h]
  | k + 1, _, .non => by simp [f__law_sameN, m__law_same, mean, slots, List.replicate, cIs, isNon]
  | k + 1, _, .tup h l => same_rowT (fun d hd => same_refl k d (h d hd)) l
  | k + 1, _, .lst h l => same_rowL (fun d hd => same_refl k d (h d hd)) l
theorem same_ok (h : Sm 12 d) : f__law_same [d, d] κ = some (.ok (.bl true), κ) := same_refl 12 d h
@[simp] theorem same_int {i : Int} : f__law_same [.int i, .int i] κ = some (.ok (.bl true), κ) := same_ok .int
@[simp] theorem bool_ok {a b : Bool} : f__law_bool [.bl a, .bl b] κ = some (.ok (.bl (a == b)), κ) := by
  simp [f__law_bool, m__law_bool, mean, slots, List.replicate]
theorem Sm.ints {k : Nat} (l : List Int) (h : l.length ≤ 16777216) : Sm (k + 2) (.tup (l.map D.int)) :=
  .tup (fun d hd => by obtain ⟨i, _, rfl⟩ := List.mem_map.mp hd; exact .int) (by simpa using h)
@[simp] theorem wipeR_nil {ρ : List Sl} : wipeR ρ [] = ρ := rfl
@[simp] theorem wipeR_cons {ρ : List Sl} {v : Nat} {vs : List Nat} : wipeR ρ (v :: vs) = (wipeR ρ vs).set v .no := rfl
/-! greatest and least of a row -/
theorem bMax_ok {l : List Int} {b : Bool} (h : l ≠ []) : ∃ m, bMax κ [if b then .bor (l.map D.int) else .lst (l.map D.int)] = some (.int m) ∧ m ∈ l ∧ ∀ x ∈ l, x ≤ m := by
  obtain ⟨m, e⟩ := maxL_some (ns := l) (by cases l; exact absurd rfl h; simp)
  refine ⟨m, ?_, maxL_mem e⟩
  cases b <;> simp [bMax, listK, intsOf_map, e]
theorem bMin_ok {l : List Int} {b : Bool} (h : l ≠ []) : ∃ m, bMin κ [if b then .bor (l.map D.int) else .lst (l.map D.int)] = some (.int m) ∧ m ∈ l ∧ ∀ x ∈ l, m ≤ x := by
  obtain ⟨m, e⟩ := minL_some (ns := l) (by cases l; exact absurd rfl h; simp)
  refine ⟨m, ?_, minL_mem e⟩
  cases b <;> simp [bMin, listK, intsOf_map, e]
@[simp] theorem oAdd_tup {a b : List D} (h : a.length + b.length ≤ 16777216) : oAdd (.tup a) (.tup b) = some (.tup (a ++ b)) := by simp [oAdd, h]
@[simp] theorem oAdd_lst {a b : List D} (h : a.length + b.length ≤ 16777216) : oAdd (.lst a) (.lst b) = some (.lst (a ++ b)) := by simp [oAdd, h]
end
/-- a row told by its places -/
def tab (n : Nat) (F : Int → D) : List D := (List.range n).map fun (k : Nat) => F (k : Int)
section
variable {n : Nat} {F G : Int → D} {i lo hi : Int}
@[simp] theorem tab_len : (tab n F).length = n := by simp [tab]
theorem tab_at (h0 : 0 ≤ i) (h1 : i < n) : atI (tab n F) i = some (F i) := by
  rw [atI_get? h0 (by simpa using h1)]
  unfold tab
  rw [List.getElem?_map, List.getElem?_range (by omega)]
  simp [Int.toNat_of_nonneg h0]
theorem tab_mem {d : D} : d ∈ tab n F ↔ ∃ i : Int, 0 ≤ i ∧ i < n ∧ d = F i := by
  unfold tab
  simp only [List.mem_map, List.mem_range]
  constructor
  · rintro ⟨k, hk, rfl⟩; exact ⟨k, by omega, by omega, rfl⟩
  · rintro ⟨i, h0, h1, rfl⟩; exact ⟨i.toNat, by omega, by rw [Int.toNat_of_nonneg h0]⟩
theorem tab_map (f : D → D) : (tab n F).map f = tab n fun i => f (F i) := by simp [tab]
theorem range_tab : rangeD lo hi = tab (hi - lo).toNat fun i => .int (lo + i) := rfl
theorem tab_congr (h : ∀ i : Int, 0 ≤ i → i < n → F i = G i) : tab n F = tab n G := by
  unfold tab
  refine List.map_congr_left fun k hk => ?_
  exact h k (by omega) (by have := List.mem_range.mp hk; omega)
theorem tab_succ : tab (n + 1) F = tab n F ++ [F n] := by simp [tab, List.range_succ]
theorem tab_get? {k : Nat} {d : D} (h : (tab n F)[k]? = some d) : k < n ∧ d = F k := by
  unfold tab at h
  rw [List.getElem?_map] at h
  obtain ⟨j, hj, rfl⟩ := Option.map_eq_some_iff.mp h
  obtain ⟨h1, h2⟩ := List.getElem?_eq_some_iff.mp hj
  rw [List.getElem_range] at h2
  subst h2
  exact ⟨by simpa using h1, rfl⟩
end
theorem ints_tab (l : List Int) : l.map D.int = tab l.length fun i => .int (l.getD i.toNat 0) := by
  apply List.ext_getElem
  · simp
  · intro i h1 h2
    have h3 : i < l.length := by simpa using h1
    simp [tab, h3]
theorem tab_ints {n : Nat} {F : Int → Int} : (tab n fun i => .int (F i)) = ((List.range n).map fun (k : Nat) => F (k : Int)).map D.int := by simp [tab]
end
end DL
set_option Elab.async false
set_option linter.all false
set_option maxRecDepth 100000
set_option maxHeartbeats 4000000
/-! DLc: own classes: fields, methods, new things. -/
namespace DL
noncomputable section
open PySem PySem.Spec PyProof.Rows L2
def putD (f : Str) (d : D) : List (Str × D) → List (Str × D)
  | [] => [(f, d)]
  | p :: r => if p.1 = f then (p.1, d) :: r else p :: putD f d r
section
variable {K : PySem.W.Frag} {α : List Addr} {F : Hp} {fs : List (Str × D)} {vs : List (Str × V)} {f : Str} {d : D} {v : V}
theorem RpF.put (q : Rp K α F d v) : ∀ {fs : List (Str × D)} {vs : List (Str × V)}, RpF K α F fs vs → RpF K α F (putD f d fs) (putF f v vs)
  | _, _, .nil => .cons q .nil
  | _, _, .cons (x := x) h t => by
    show RpF K α F (if x = f then (x, d) :: _ else _ :: _) (if x = f then (x, v) :: _ else _ :: _)
    by_cases e : x = f
    · rw [if_pos e, if_pos e]; exact .cons q t
    · rw [if_neg e, if_neg e]; exact .cons h (RpF.put q t)
theorem RpF.look : ∀ {fs : List (Str × D)} {vs : List (Str × V)} {d : D}, RpF K α F fs vs → fs.lookup f = some d → ∃ v, vs.lookup f = some v ∧ Rp K α F d v
  | _, _, _, .nil, h => by simp at h
  | _, _, d, .cons (x := x) (d := e) (v := u) h t, q => by
    by_cases c : (f == x) = true
    · rw [List.lookup_cons, c] at q
      cases q
      exact ⟨u, by rw [List.lookup_cons, c], h⟩
    · have c' : (f == x) = false := by cases z : (f == x) <;> simp_all
      rw [List.lookup_cons, c'] at q
      obtain ⟨v, a, b⟩ := RpF.look t q
      exact ⟨v, by rw [List.lookup_cons, c']; exact a, b⟩
theorem RpF.lookN : ∀ {fs : List (Str × D)} {vs : List (Str × V)}, RpF K α F fs vs → fs.lookup f = none → vs.lookup f = none
  | _, _, .nil, _ => rfl
  | _, _, .cons (x := x) h t, q => by
    by_cases c : (f == x) = true
    · rw [List.lookup_cons, c] at q; cases q
    · have c' : (f == x) = false := by cases z : (f == x) <;> simp_all
      rw [List.lookup_cons, c'] at q ⊢
      exact RpF.lookN t q
theorem RpF.length (r : RpF K α F fs vs) : fs.length = vs.length := by
  induction r with
  | nil => rfl
  | cons _ _ ih => simp [ih]
end
/-! ### meanings -/
def oAttr (c : Nat) (f : Str) (κ : Ka) (d : D) : Option D := match d with
  | .obj n => match κ[n]? with
    | some (.ins c' fs) => if c' = c then fs.lookup f else none
    | _ => none
  | _ => none
def eAttr (c : Nat) (f : Str) (m : Ev D) : Ev D := fun ρ κ => (m ρ κ).bind fun d κ1 => rOf (oAttr c f κ1 d) κ1
/-- d is a thing of class c without a field m -/
def isIns (c : Nat) (m : Str) (κ : Ka) (d : D) : Bool := match d with
  | .obj n => match κ[n]? with
    | some (.ins c' fs) => decide (c' = c) && (fs.lookup m).isNone
    | _ => false
  | _ => false
def eMeth (c : Nat) (m : Str) (ar : Nat) (fm : List D → Ka → Re D) (mo : Ev D) (n : Ev (List D)) : Ev D := fun ρ κ => (mo ρ κ).bind fun o κ1 => if isIns c m κ1 o = true then (n ρ κ1).bind fun ds κ2 => if ds.length + 1 = ar then fm (o :: ds) κ2 else none else none
def mkRes (k : Nat) (r : Re D) : Re D := match r with
  | some (.ok .non, κ') => some (.ok (.obj k), κ')
  | some (.er c, κ') => some (.er c, κ')
  | _ => none
def eMake (c : Nat) (ar : Nat) (fm : List D → Ka → Re D) (n : Ev (List D)) : Ev D := fun ρ κ => (n ρ κ).bind fun ds κ1 => if ds.length + 1 = ar then mkRes κ1.length (fm (.obj κ1.length :: ds) (κ1 ++ [.ins c []])) else none
/-- d becomes the field f of the thing o -/
def putO (c : Nat) (f : Str) (d o : D) (ρ : List Sl) (κ : Ka) : Option (Out × Ka) := match o with
  | .obj n => match κ[n]? with
    | some (.ins c' fs) => if c' = c ∧ fs.length < 1000 ∧ isBor d = false then some (.nx ρ, κ.set n (.ins c (putD f d fs))) else none
    | _ => none
  | _ => none
def sFldS (c : Nat) (f : Str) (mo mv : Ev D) : Es := fun ρ κ => (mv ρ κ).bindS fun d κ1 => (mo ρ κ1).bindS fun o κ2 => putO c f d o ρ κ2
/-- o.f op= v -/
def sFldA (c : Nat) (f : Str) (op : D → D → Option D) (mo mv : Ev D) : Es := fun ρ κ => (mo ρ κ).bindS fun o κ1 => match oAttr c f κ1 o with
  | some x => (mv ρ κ1).bindS fun d κ2 => match op x d with
    | some z => putO c f z o ρ κ2
    | none => none
  | none => none
/-! ### the world with a cell changed, with a new thing -/
theorem cell_put {G : Gx} {α0 : List Addr} {F0 Bs : Hp} {α : List Addr} {F H : Hp} {κ : Ka} {ρ : List Sl} {σ : L2.St} {K : PySem.W.Frag} {n : Nat} {c c' : Cell} {a : Addr} {o : HO} (gb : Gr α0 F0 Bs α F H) (w : Wd G K α F H κ) (sl : Sls K α F H Bs ρ σ)
    (ha : α[n]? = some a) (hk : κ[n]? = some c) (hc : CellOk G K α F (upd H a o) a c') : Gr α0 F0 Bs α F (upd H a o) ∧ Wd G K α F (upd H a o) (κ.set n c') ∧ Sls K α F (upd H a o) Bs ρ σ := by
  have am : a ∈ α := List.mem_of_getElem? ha
  have fa : F a = none := w.fre a am
  refine ⟨⟨gb.al, gb.fr, gb.fn, fun b u e m => ?_, fun b e => ?_⟩, ⟨fun b u e => ?_, by simp [w.len], w.inj, w.fre, fun k b c e1 e2 => ?_⟩, ⟨sl.len, fun j s e => ?_, sl.sep⟩⟩
  · have h1 := gb.ke b u e m
    rw [upd_ne ?_]; exact h1
    rintro rfl
    obtain ⟨β, rfl, hβ⟩ := gb.al
    rcases List.mem_append.mp am with z | z
    · exact m z
    · rw [hβ _ z] at e; cases e
  · by_cases hb : b = a
    · subst hb; rw [upd_same]; simp
    · rw [upd_ne hb]; exact gb.dm b e
  · rw [upd_ne (ne_of_none e fa)]; exact w.sub _ _ e
  · by_cases hk' : k = n
    · subst hk'
      rw [ha] at e1; cases e1
      have hl : k < κ.length := (List.getElem?_eq_some_iff.mp hk).1
      rw [List.getElem?_set_self hl] at e2; cases e2
      exact hc
    · rw [List.getElem?_set_ne (Ne.symm hk')] at e2
      have := (w.cel k b c e1 e2).keep (β := []) (F' := F) (H' := upd H a o) (Same.refl _) (upd_ne (fun (q : b = a) => hk' (w.inj k n a (q ▸ e1) ha)))
      rwa [List.append_nil] at this
  · obtain ⟨u, ho, so⟩ := sl.at' j s e
    refine ⟨u, ho, ?_⟩
    cases s with
    | no => trivial
    | val d =>
      obtain ⟨v, e5, r5, b5⟩ := so
      refine ⟨v, e5, ?_, b5⟩
      cases d with
      | bor es =>
        obtain ⟨c, ys, rfl, k1, k2, k3, k4⟩ := r5
        exact ⟨c, ys, rfl, by rw [upd_ne (fun (q : c = a) => k2 (q ▸ am))]; exact k1, k2, k3, k4⟩
      | _ => exact r5
    | own es =>
      obtain ⟨c, ys, rfl, k1, k2, k3, k4, k5⟩ := so
      exact ⟨c, ys, rfl, by rw [upd_ne (fun (q : c = a) => k3 (q ▸ am))]; exact k1, k2, k3, k4, k5⟩
theorem cell_new {G : Gx} {α : List Addr} {F H H2 : Hp} {κ : Ka} {K : PySem.W.Frag} {x : Addr} {c : Cell} (w : Wd G K α F H κ) (nx : H x = none) (s2 : Same H H2) (hc : CellOk G K (α ++ [x]) F H2 x c) : Gr α F H (α ++ [x]) F H2 ∧ Wd G K (α ++ [x]) F H2 (κ ++ [c]) := by
  have fx : F x = none := w.sub.free nx
  have xm : x ∉ α := fun m => w.dom m nx
  refine ⟨⟨⟨[x], rfl, fun a m => by simp at m; rw [m]; exact nx⟩, Same.refl _, fun a f _ => f, fun a o e _ => s2 _ _ e, fun a n => ?_⟩, ⟨fun b u e => s2 _ _ (w.sub _ _ e), by simp [w.len], fun i j b e1 e2 => ?_, fun b m => ?_, fun k b c' e1 e2 => ?_⟩⟩
  · cases q : H a with
    | none => exact absurd q n
    | some o => rw [s2 _ _ q]; simp
  · have key : ∀ i, (α ++ [x])[i]? = some b → (i < α.length ∧ α[i]? = some b) ∨ (i = α.length ∧ b = x) := fun i e => by
      by_cases hi : i < α.length
      · rw [List.getElem?_append_left hi] at e; exact .inl ⟨hi, e⟩
      · rw [List.getElem?_append_right (Nat.le_of_not_lt hi)] at e
        have : i - α.length = 0 := by
          refine Nat.eq_zero_of_not_pos fun q => ?_
          rw [List.getElem?_eq_none (by simp; omega)] at e; cases e
        rw [this] at e
        simp at e
        exact .inr ⟨by omega, e.symm⟩
    rcases key i e1 with ⟨p1, p2⟩ | ⟨p1, p2⟩ <;> rcases key j e2 with ⟨q1, q2⟩ | ⟨q1, q2⟩
    · exact w.inj i j b p2 q2
    · subst q2; exact absurd (List.mem_of_getElem? p2) xm
    · subst p2; exact absurd (List.mem_of_getElem? q2) xm
    · rw [p1, q1]
  · rcases List.mem_append.mp m with z | z
    · exact w.fre b z
    · simp at z; rw [z]; exact fx
  · by_cases hk : k < α.length
    · rw [List.getElem?_append_left hk] at e1
      rw [List.getElem?_append_left (by rw [← w.len]; exact hk)] at e2
      have hb := w.cel k b c' e1 e2
      exact hb.keep (Same.refl _) (by
        cases q : H b with
        | none => exact absurd q hb.dom
        | some o => exact s2 _ _ q)
    · rw [List.getElem?_append_right (Nat.le_of_not_lt hk)] at e1
      have k0 : k - α.length = 0 := by
        refine Nat.eq_zero_of_not_pos fun q => ?_
        rw [List.getElem?_eq_none (by simp; omega)] at e1; cases e1
      rw [k0] at e1
      rw [List.getElem?_append_right (by rw [← w.len]; exact Nat.le_of_not_lt hk)] at e2
      rw [← w.len, k0] at e2
      simp at e1 e2
      subst e1 e2
      exact hc
/-! ### the ties -/
section
variable {G : Gx} {W : XK} {X : Cx} {o e a b : Expr} {es : List Expr} {m mo mv ma : Ev D} {n : Ev (List D)} {pos p apos tpos : Pos} {c : Nat} {f : Str}
theorem d_attr (he : PD G W X e m) (cl : Cls X.K (G.cls c)) (na : NoAttr X.K (G.cls c) f) (hb : attributeBase e f X.env (eval e X.env) = eval e X.env := by rfl) : PD G W X (.Attribute e f pos) (eAttr c f m) :=
  ⟨pe_imp (pe_fld he.run hb) fun σ H Q ⟨α, F, ρ, κ, Bs, w, sl, h⟩ => by
    refine tD_mono (fun x H1 ⟨α1, F1, κ1, d, g1, w1, sl1, r1, h1⟩ => ?_) (tD_bind w sl h)
    unfold oAttr at h1
    cases d with
    | obj n =>
      simp only at h1
      split at h1
      · rename_i c' fs hk
        split at h1
        · rename_i hc
          subst hc
          cases r1 with
          | obj hα =>
            obtain ⟨dx, vs, e1, rf⟩ := w1.cell hα hk
            cases hl : fs.lookup f with
            | none => rw [hl] at h1; exact h1.elim
            | some y =>
              rw [hl] at h1
              obtain ⟨v, lv, rv⟩ := rf.look hl
              exact ⟨_, _, dx, vs, v, rfl, e1, cl, na, lv, h1.ok w1 rv.rv⟩
        · exact h1.elim
      · exact h1.elim
    | _ => exact h1.elim⟩
theorem put_ok {α0 : List Addr} {F0 Bs : Hp} {α : List Addr} {F H : Hp} {κ : Ka} {ρ : List Sl} {σ : L2.St} {Dn : Ends} {d od : D} {x y : V} (cl : Cls X.K (G.cls c)) (na : NoAttr X.K (G.cls c) f) (gb : Gr α0 F0 Bs α F H) (w : Wd G X.K α F H κ) (sl : Sls X.K α F H Bs ρ σ)
    (ry : Rv X.K α F H d y) (rx : Rv X.K α F H od x) (h : PSt G W X.K α0 F0 Bs α F Dn (putO c f d od ρ κ)) :
    ∃ a dx fs, x = .ref a ∧ H a = some (.ins (G.cls c) dx fs) ∧ fs.length < 1000 ∧ Dn.nx σ (upd H a (.ins (G.cls c) dx (putF f y fs))) := by
  unfold putO at h
  cases od with
  | obj n =>
    simp only at h
    split at h
    · rename_i c' fs hk
      split at h
      · rename_i hc
        obtain ⟨rfl, hl, hb⟩ := hc
        cases rx with
        | obj hα =>
          obtain ⟨dx, vs, e1, rf⟩ := w.cell hα hk
          obtain ⟨k1, k2, k3⟩ := cell_put (c' := .ins c' (putD f d fs)) (o := .ins (G.cls c') dx (putF f y vs)) gb w sl hα hk ⟨dx, _, upd_same, rf.put (ry.rp hb)⟩
          exact ⟨_, dx, vs, rfl, e1, by rw [← rf.length]; exact hl, PSt.nx k1 k2 k3 h⟩
      · exact h.elim
    · exact h.elim
  | _ => exact h.elim
theorem s_fld (ho : PD G W X o mo) (hv : PD G W X e mv) (cl : Cls X.K (G.cls c)) (na : NoAttr X.K (G.cls c) f) (hs : swapsWith e (some (.Attribute o f tpos)) pos.line X.env = pure false := by rfl) : PSd G W X (.Assign [.Attribute o f tpos] e pos) (sFldS c f mo mv) :=
  ⟨ps_imp (ps_fld ho.run hv.run hs) fun Dn σ H ⟨α0, F0, Bs, α, F, ρ, κ, gb, w, sl, h⟩ => by
    refine tD_mono (fun y H1 ⟨α1, F1, κ1, d, g1, gb1, w1, sl1, r1, h1⟩ => ?_) (tD_bindS gb w sl h)
    refine tD_mono (fun x H2 ⟨α2, F2, κ2, q, g2, gb2, w2, sl2, r2, h2⟩ => ?_) (tD_bindS gb1 w1 sl1 h1)
    obtain ⟨a, dx, fs, e1, e2, e3, e4⟩ := put_ok cl na gb2 w2 sl2 (r1.gr g2) r2 h2
    exact ⟨a, _, dx, fs, e1, e2, cl, na, e3, e4⟩⟩
def OpI (op : D → D → Option D) (rd : V → V → Hp → VK → Prop) : Prop := ∀ (x y z : D) (v u : V) (K : PySem.W.Frag) (α : List Addr) (F H : Hp) (Q : VK), Rv K α F H x v → Rv K α F H y u → op x y = some z → (∀ t, Rp K α F z t → isBor z = false → Q t H) → rd v u H Q
theorem opi_add : OpI oAddI rAdd := fun x y z v u K α F H Q rx ry h q => by
  unfold oAddI at h
  split at h
  · cases h
    cases rx; cases ry
    exact ⟨_, _, rfl, rfl, q _ (.int _) rfl⟩
  · cases h
theorem opi_sub : OpI oSubI rSub := fun x y z v u K α F H Q rx ry h q => by
  unfold oSubI at h
  split at h
  · cases h
    cases rx; cases ry
    exact ⟨_, _, rfl, rfl, q _ (.int _) rfl⟩
  · cases h
theorem attr_ok {α : List Addr} {F H : Hp} {κ : Ka} {d z : D} {x : V} (w : Wd G X.K α F H κ) (r : Rv X.K α F H d x) (h : oAttr c f κ d = some z) : ∃ n a dx vs v, d = .obj n ∧ x = .ref a ∧ α[n]? = some a ∧ H a = some (.ins (G.cls c) dx vs) ∧ vs.lookup f = some v ∧ Rp X.K α F z v := by
  unfold oAttr at h
  cases d with
  | obj n =>
    simp only at h
    split at h
    · rename_i c' fs hk
      split at h
      · rename_i hc
        subst hc
        cases r with
        | obj hα =>
          obtain ⟨dx, vs, e1, rf⟩ := w.cell hα hk
          obtain ⟨v, lv, rv⟩ := rf.look h
          exact ⟨n, _, dx, vs, v, rfl, rfl, hα, e1, lv, rv⟩
      · cases h
    · cases h
  | _ => cases h
theorem s_flda {aop : Operator} {op : D → D → Option D} {rd : V → V → Hp → VK → Prop} (hop : InOp X aop rd) (hi : OpI op rd) (ho : PD G W X o mo) (hv : PD G W X e mv) (cl : Cls X.K (G.cls c)) (na : NoAttr X.K (G.cls c) f) : PSd G W X (.AugAssign (.Attribute o f tpos) aop e pos) (sFldA c f op mo mv) :=
  ⟨ps_imp (ps_fldaug ho.run hv.run hop) fun Dn σ H ⟨α0, F0, Bs, α, F, ρ, κ, gb, w, sl, h⟩ => by
    refine tD_mono (fun x H1 ⟨α1, F1, κ1, d, g1, gb1, w1, sl1, r1, h1⟩ => ?_) (tD_bindS gb w sl h)
    cases ha : oAttr c f κ1 d with
    | none => rw [ha] at h1; exact h1.elim
    | some z =>
      rw [ha] at h1
      simp only at h1
      obtain ⟨n, a, dx, vs, v, rfl, rfl, hα, e1, lv, rz⟩ := attr_ok w1 r1 ha
      refine ⟨a, _, dx, vs, v, rfl, e1, cl, na, lv, ?_⟩
      refine tD_mono (fun y H2 ⟨α2, F2, κ2, q, g2, gb2, w2, sl2, r2, h2⟩ => ?_) (tD_bindS gb1 w1 sl1 h1)
      cases hz : op z q with
      | none => rw [hz] at h2; exact h2.elim
      | some t =>
        rw [hz] at h2
        simp only at h2
        refine hi z q t v y X.K α2 F2 H2 _ (rz.rv.gr g2) r2 hz fun u ru nb => ?_
        obtain ⟨a', dx', fs', e2, e3, e4, e5⟩ := put_ok cl na gb2 w2 sl2 ru.rv (r1.gr g2) h2
        cases e2
        exact ⟨dx', fs', e3, e4, e5⟩⟩
theorem PO.none_elim {α : List Addr} {F H : Hp} {Q : VK} (h : PO G W X.K α F H Q none) : False := h
theorem ins_ok {α : List Addr} {F H : Hp} {κ : Ka} {d : D} {x : V} {mn : Str} (w : Wd G X.K α F H κ) (r : Rv X.K α F H d x) (h : isIns c mn κ d = true) : ∃ a dx vs, x = .ref a ∧ H a = some (.ins (G.cls c) dx vs) ∧ vs.lookup mn = none := by
  unfold isIns at h
  cases d with
  | obj n =>
    simp only at h
    split at h
    · rename_i c' fs hk
      simp only [Bool.and_eq_true, decide_eq_true_eq, Option.isNone_iff_eq_none] at h
      obtain ⟨rfl, hl⟩ := h
      cases r with
      | obj hα =>
        obtain ⟨dx, vs, e1, rf⟩ := w.cell hα hk
        exact ⟨_, dx, vs, rfl, e1, rf.lookN hl⟩
    · cases h
  | _ => cases h
theorem pd_meth {pl : Sem Bool} {CX : CXT} {k ar : Nat} {fa : Addr} {fd : FuncData} {ps : List Str} {mn : Str} {fm : List D → Ka → Re D} (ho : PD G W X o mo) (cl : Cls X.K (G.cls c)) (hm : Meth X.K (G.cls c) mn fa) (FO : FnOk X.prog X.w X.K X.mg X.base CX k fa fd ps (spD G X.K ar fm)) (hr : Room k X.A) (hb : Binds X.K fd ps []) (hx : Passes CX X W) (ha : PDL G W X (e :: es) n)
    (hst : starEach (e :: es) X.env = (false, eval e X.env) :: starEach es X.env := by rfl) (hpl : (backTo pos (starEach es X.env)).any (·.1) = false := by rfl)
    (ht : eval (.Call (.Attribute o mn apos) (e :: es) [] pos) X.env = (do
      let ov ← eval o X.env
      standAt apos.atName
      let (f, first) ← holding [ov] (getMethod ov mn pl)
      callWith pos f first (backTo pos (starEach (e :: es) X.env)) (backToKw pos (keywordEach [] X.env))) := by rfl) :
    PD G W X (.Call (.Attribute o mn apos) (e :: es) [] pos) (eMeth c mn ar fm mo n) :=
  ⟨pe_imp (pe_meth (pl := pl) ho.run cl hm FO hr hb .nil hx ha.run hst hpl ht) fun σ H Q ⟨α, F, ρ, κ, Bs, w, sl, h⟩ => by
    refine tD_mono (fun x H1 ⟨α1, F1, κ1, d, g1, w1, sl1, r1, h1⟩ => ?_) (tD_bind w sl h)
    split at h1
    · rename_i hi
      obtain ⟨a, dx, vs, rfl, e1, lv⟩ := ins_ok w1 r1 hi
      refine ⟨a, dx, vs, rfl, e1, lv, ?_⟩
      refine tL_mono (fun xs H2 ⟨α2, F2, κ2, ds, g2, w2, sl2, r2, h2⟩ => ?_) (tL_bind w1 sl1 h1)
      split at h2
      · rename_i hl
        refine ⟨by simp only [List.append_nil, List.length_cons]; rw [← r2.length]; exact hl, α2, F2, κ2, d :: ds, w2, .cons (r1.gr g2) (by rw [List.append_nil]; exact r2), h2⟩
      · exact h2.elim
    · exact h1.elim⟩
theorem pd_meth0 {pl : Sem Bool} {CX : CXT} {k : Nat} {fa : Addr} {fd : FuncData} {ps : List Str} {mn : Str} {fm : List D → Ka → Re D} (ho : PD G W X o mo) (cl : Cls X.K (G.cls c)) (hm : Meth X.K (G.cls c) mn fa) (FO : FnOk X.prog X.w X.K X.mg X.base CX k fa fd ps (spD G X.K 1 fm)) (hr : Room k X.A) (hb : Binds X.K fd ps []) (hx : Passes CX X W)
    (ht : eval (.Call (.Attribute o mn apos) [] [] pos) X.env = (do
      let ov ← eval o X.env
      standAt apos.atName
      let (f, first) ← holding [ov] (getMethod ov mn pl)
      callWith pos f first (backTo pos (starEach [] X.env)) (backToKw pos (keywordEach [] X.env))) := by rfl) :
    PD G W X (.Call (.Attribute o mn apos) [] [] pos) (eMeth c mn 1 fm mo aNil) :=
  ⟨pe_imp (pe_meth0 (pl := pl) ho.run cl hm FO hr hb .nil hx ht) fun σ H Q ⟨α, F, ρ, κ, Bs, w, sl, h⟩ => by
    refine tD_mono (fun x H1 ⟨α1, F1, κ1, d, g1, w1, sl1, r1, h1⟩ => ?_) (tD_bind w sl h)
    split at h1
    · rename_i hi
      obtain ⟨a, dx, vs, rfl, e1, lv⟩ := ins_ok w1 r1 hi
      refine ⟨a, dx, vs, rfl, e1, lv, ?_⟩
      exact ⟨rfl, α1, F1, κ1, [d], w1, .cons r1 .nil, h1⟩
    · exact h1.elim⟩
theorem make_run {α : List Addr} {F H : Hp} {κ : Ka} {ds : List D} {vs : List V} {ar : Nat} {fm : List D → Ka → Re D} {Q : VK} (w : Wd G X.K α F H κ) (r : RvL X.K α F H ds vs) (hl : ds.length + 1 = ar) (h : PO G W X.K α F H Q (mkRes κ.length (fm (.obj κ.length :: ds) (κ ++ [.ins c []])))) {x dx : Addr} (nx : H x = none) (ndx : H dx = none) (ne : dx ≠ x) :
    spD G X.K ar fm (.ref x :: (vs ++ [])) (upd (upd H dx (.own x)) x (.ins (G.cls c) dx [])) (fun v H2 => v = .non ∧ Q (.ref x) H2) W := by
  have s2 : Same H (upd (upd H dx (.own x)) x (.ins (G.cls c) dx [])) := fun b o e => by
    rw [upd_ne (ne_of_none e nx), upd_ne (ne_of_none e ndx)]; exact e
  obtain ⟨g2, w2⟩ := cell_new (c := .ins c []) w nx s2 ⟨dx, [], upd_same, .nil⟩
  refine ⟨by simp only [List.append_nil, List.length_cons]; rw [← r.length]; exact hl, α ++ [x], F, κ ++ [.ins c []], .obj κ.length :: ds, w2, ?_, ?_⟩
  · rw [List.append_nil]
    exact .cons (Rp.rv (.obj (by rw [← w.len]; simp))) (r.gr g2)
  · unfold mkRes at h
    rcases hf : fm (.obj κ.length :: ds) (κ ++ [.ins c []]) with _ | ⟨o, κ'⟩
    · rw [hf] at h; exact h.elim
    · rw [hf] at h
      rw [hf]
      cases o with
      | er c => exact fun α' F' H' g w' => h α' F' H' (g2.trans g) w'
      | ok d =>
        cases d with
        | non =>
          intro α' F' H' g w' v rv
          cases rv
          refine ⟨rfl, h α' F' H' (g2.trans g) w' _ (Rp.rv (.obj ?_))⟩
          obtain ⟨β, rfl, _⟩ := g.al
          rw [← w.len]; simp
        | _ => exact h.elim
theorem pd_make {CX : CXT} {k ar : Nat} {fa : Addr} {fd : FuncData} {ps : List Str} {x : Str} {fm : List D → Ka → Re D} (M : Mk X.K (G.cls c) fa) (FO : FnOk X.prog X.w X.K X.mg X.base CX k fa fd ps (spD G X.K ar fm)) (hr : Room (k + 1) X.A) (hg : Gl X x) (hm : X.mg x = some (.ref (G.cls c))) (hb : Binds X.K fd ps []) (hx : Passes CX X W) (ha : PDL G W X (e :: es) n)
    (hdb : (x == ("__debug__" : Str)) = false := by decide) (he : starEach (e :: es) X.env = (false, eval e X.env) :: starEach es X.env := by rfl) (hpl : (backTo pos (starEach es X.env)).any (·.1) = false := by rfl) :
    PD G W X (.Call (.Name x p) (e :: es) [] pos) (eMake c ar fm n) :=
  ⟨pe_imp (pe_make M FO hr hg hm hb .nil hx ha.run hdb he hpl) fun σ H Q ⟨α, F, ρ, κ, Bs, w, sl, h⟩ =>
    tL_mono (fun xs H1 ⟨α1, F1, κ1, ds, g1, w1, sl1, r1, h1⟩ => by
      split at h1
      · rename_i hl
        exact fun x dx nx ndx ne => make_run w1 r1 hl h1 nx ndx ne
      · exact h1.elim) (tL_bind w sl h)⟩
end
/-! ### methods and makers that mean -/
structure FM (P : Program) (w : World) (K : PySem.W.Frag) (mg : Str → Option Value) (base : Heap) (G : Gx) (k : Nat) (c : Nat) (m : Str) (ar : Nat) (fm : List D → Ka → Re D) : Prop where
  ex : ∃ f fd ps, FnOk P w K mg base CX0 k f fd ps (spD G K ar fm) ∧ Meth K (G.cls c) m f ∧ Binds K fd ps []
structure FK (P : Program) (w : World) (K : PySem.W.Frag) (mg : Str → Option Value) (base : Heap) (G : Gx) (k : Nat) (c : Nat) (x : Str) (ar : Nat) (fm : List D → Ka → Re D) : Prop where
  ex : ∃ f fd ps, FnOk P w K mg base CX0 k f fd ps (spD G K ar fm) ∧ Mk K (G.cls c) f ∧ mg x = some (.ref (G.cls c)) ∧ Binds K fd ps []
section
variable {P : Program} {w : World} {K : PySem.W.Frag} {mg : Str → Option Value} {base : Heap} {G : Gx} {j k ar c : Nat} {x m : Str} {fm : List D → Ka → Re D}
theorem fm_of {qual : Str} {st : Stmt} {f : Addr} {fd : FuncData} {N ps : List Str} {s : Es} (F : Fun K m qual st f fd) (S : FnScope N ps (defScope st)) (b : Binds K fd ps []) (hm : Meth K (G.cls c) m f)
    (hb : ∀ (cdv : Value) (A : Around) (outer : List Env) (s0 : Shared) (H : Hp) (E : XK), Room k (A.deeper (envOfC qual (defScope st) s0.heap.objs.size f cdv)) → PSsd G E0 (cxOf CX0 P w K mg base N qual (defScope st) f cdv A outer s0 H E).nox (defBody st) s) :
    FM P w K mg base G (k + 1) c m ps.length (fun ds κ => noEr (mean N.length s ds κ)) := ⟨f, fd, ps, fn_ok F S hb, hm, b⟩
theorem fk_of {qual mi : Str} {st : Stmt} {f : Addr} {fd : FuncData} {N ps : List Str} {s : Es} (F : Fun K mi qual st f fd) (S : FnScope N ps (defScope st)) (b : Binds K fd ps []) (hm : Mk K (G.cls c) f) (hx : mg x = some (.ref (G.cls c)))
    (hb : ∀ (cdv : Value) (A : Around) (outer : List Env) (s0 : Shared) (H : Hp) (E : XK), Room k (A.deeper (envOfC qual (defScope st) s0.heap.objs.size f cdv)) → PSsd G E0 (cxOf CX0 P w K mg base N qual (defScope st) f cdv A outer s0 H E).nox (defBody st) s) :
    FK P w K mg base G (k + 1) c x ps.length (fun ds κ => noEr (mean N.length s ds κ)) := ⟨f, fd, ps, fn_ok F S hb, hm, hx, b⟩
end
section
variable {G : Gx} {W : XK} {X : Cx} {o e a b : Expr} {es : List Expr} {m mo mv ma : Ev D} {n : Ev (List D)} {pos p apos tpos : Pos} {c j k ar : Nat} {f mn x : Str} {fm : List D → Ka → Re D}
theorem d_meth {pl : Sem Bool} (F : FM X.prog X.w X.K X.mg X.base G j c mn ar fm) (hr : Room k X.A) (cl : Cls X.K (G.cls c)) (ho : PD G W X o mo) (ha : PDL G W X (e :: es) n) (hjk : j ≤ k := by decide)
    (hst : starEach (e :: es) X.env = (false, eval e X.env) :: starEach es X.env := by rfl) (hpl : (backTo pos (starEach es X.env)).any (·.1) = false := by rfl)
    (ht : eval (.Call (.Attribute o mn apos) (e :: es) [] pos) X.env = (do
      let ov ← eval o X.env
      standAt apos.atName
      let (f, first) ← holding [ov] (getMethod ov mn pl)
      callWith pos f first (backTo pos (starEach (e :: es) X.env)) (backToKw pos (keywordEach [] X.env))) := by rfl) :
    PD G W X (.Call (.Attribute o mn apos) (e :: es) [] pos) (eMeth c mn ar fm mo n) := by
  obtain ⟨f, fd, ps, h1, h2, h3⟩ := F.ex
  exact pd_meth (pl := pl) ho cl h2 h1 (hr.mono hjk) h3 (fun _ _ _ _ _ _ _ h => h.elim) ha hst hpl ht
theorem d_meth0 {pl : Sem Bool} (F : FM X.prog X.w X.K X.mg X.base G j c mn 1 fm) (hr : Room k X.A) (cl : Cls X.K (G.cls c)) (ho : PD G W X o mo) (hjk : j ≤ k := by decide)
    (ht : eval (.Call (.Attribute o mn apos) [] [] pos) X.env = (do
      let ov ← eval o X.env
      standAt apos.atName
      let (f, first) ← holding [ov] (getMethod ov mn pl)
      callWith pos f first (backTo pos (starEach [] X.env)) (backToKw pos (keywordEach [] X.env))) := by rfl) :
    PD G W X (.Call (.Attribute o mn apos) [] [] pos) (eMeth c mn 1 fm mo aNil) := by
  obtain ⟨f, fd, ps, h1, h2, h3⟩ := F.ex
  exact pd_meth0 (pl := pl) ho cl h2 h1 (hr.mono hjk) h3 (fun _ _ _ _ _ _ _ h => h.elim) ht
theorem d_make (F : FK X.prog X.w X.K X.mg X.base G j c x ar fm) (hr : Room k X.A) (ha : PDL G W X (e :: es) n) (hjk : j + 1 ≤ k := by decide) (hg : Gl X x := by rfl)
    (hdb : (x == ("__debug__" : Str)) = false := by decide) (he : starEach (e :: es) X.env = (false, eval e X.env) :: starEach es X.env := by rfl) (hpl : (backTo pos (starEach es X.env)).any (·.1) = false := by rfl) :
    PD G W X (.Call (.Name x p) (e :: es) [] pos) (eMake c ar fm n) := by
  obtain ⟨f, fd, ps, h1, h2, h3, h4⟩ := F.ex
  exact pd_make h2 h1 (hr.mono hjk) hg h3 h4 (fun _ _ _ _ _ _ _ h => h.elim) ha hdb he hpl
end
end
end DL
set_option Elab.async false
set_option linter.all false
set_option maxRecDepth 100000
set_option maxHeartbeats 4000000
/-! DLi: enumerate over tuples too, zip; more of lists. -/
namespace DL
noncomputable section
open PySem PySem.Spec PyProof.Rows L2
/-! ### enumerate(tuple) -/
theorem meets_enumerate_newT (l : Addr) (items : Array Value) (n : Nat) (dct : Option Addr) (sl : Array (Option Value)) :
    Meets (Builtin.«enumerate.__new__» ⟨[.type "enumerate", .ref l], []⟩) (fun _ R s => s.heap.get? l = some { cls := .type "tuple", dict := dct, data := .seq items n, slots := sl } ∧
      R (.ok (.ret (.ref (s.heap.push { cls := .type "tuple_iterator", data := .fields #[.ref l, .int 0 0] }).objs.size)))
        { s with heap := (s.heap.push { cls := .type "tuple_iterator", data := .fields #[.ref l, .int 0 0] }).push { cls := .type "enumerate", data := .fields #[.none, .bool false, .ref s.heap.objs.size, rawInt 0, .none, .none] } }) :=
  .of_wp fun prog w A R s h => by
    obtain ⟨hp, g, d, tk, os⟩ := s; obtain ⟨hl, h⟩ := h
    have hsub := sub_enumerate
    have hT : Heap.IsTuple (Shared.heap ⟨hp, g, d, tk, os⟩) l items := ⟨_, hl, rfl, n, rfl⟩
    wp_walk using AutoSeq1.wpAny_loadPart' hl
    refine wpAny_stack_any fun st => wpAny_pure ?_
    split
    · rename_i c _ _ _ _ _
      cases (c == Value.type "enumerate")
      · wp_walk using AutoSeq1.wpAny_loadPart' hl, wpAny_pyIter_tuple hT
        exact ⟨_, rfl, h⟩
      · wp_walk using AutoSeq1.wpAny_loadPart' hl, wpAny_pyIter_tuple hT
        exact ⟨_, rfl, h⟩
    · wp_walk using AutoSeq1.wpAny_loadPart' hl, wpAny_pyIter_tuple hT
      exact ⟨_, rfl, h⟩
theorem call_enumerate_tup {prog : Program} {w : World} {A : Around} {E : Value → Shared → Prop} {s : Shared} {l : Addr} {items : Array Value} {Q : Value → Shared → Prop} (hL : s.heap.IsTuple l items)
    (h : ∀ h', IsEnum h' (s.heap.objs.size + 1) s.heap.objs.size 0 .none → h'.IsTupleIter s.heap.objs.size l 0 → h'.objs.size = s.heap.objs.size + 2 →
      (∀ b o, s.heap.get? b = some o → h'.get? b = some o) → Q (.ref (s.heap.objs.size + 1)) { s with heap := h' }) :
    wpAny (model prog w) A (call (.type "enumerate") [.ref l]) Q E s := by
  obtain ⟨⟨c, dct, dt, sl⟩, hl, hc, n, hd⟩ := hL
  replace hc : c = .type "tuple" := hc
  replace hd : dt = .seq items n := hd
  subst hc hd
  refine callType_new F.called_enumerate (by decide) (F.typeCall_enumerate_1 _) (F.newCall_enumerate_1 _) (fun obj => F.args_object_init_2 obj _) F.entry_enumerate_new
    (meets_enumerate_newT l items n dct sl) ⟨hl, ?_⟩
  have hz : (s.heap.push { cls := .type "tuple_iterator", data := .fields #[.ref l, .int 0 0] }).objs.size = s.heap.objs.size + 1 := Heap.size_push ..
  show _ ∧ _
  rw [hz]
  have he : IsEnum ((s.heap.push { cls := .type "tuple_iterator", data := .fields #[.ref l, .int 0 0] }).push
      { cls := .type "enumerate", data := .fields #[.none, .bool false, .ref s.heap.objs.size, rawInt 0, .none, .none] }) (s.heap.objs.size + 1) s.heap.objs.size 0 .none := by
    have := Heap.get?_push_size (s.heap.push { cls := .type "tuple_iterator", data := .fields #[.ref l, .int 0 0] })
      (o := { cls := .type "enumerate", data := .fields #[.none, .bool false, .ref s.heap.objs.size, rawInt 0, .none, .none] }) rfl
    rw [hz] at this; exact this
  refine ⟨⟨_, he, rfl⟩, h _ he ⟨_, Heap.get?_push_of_some _ (Heap.get?_push_size _ rfl), rfl, rfl⟩ (by rw [Heap.size_push, hz]) fun b o x => Heap.get?_push_of_some _ (Heap.get?_push_of_some _ x)⟩
def IteT (K : PySem.W.Frag) (a : Addr) : It :=
  ⟨fun i H => ∃ (xs : List V) (x : V), SqT K H a xs ∧ xs[i]? = some x, fun i H v H' => ∃ T x, v = .ref T ∧ H T = none ∧ H' = upd H T (.tup [.int (i : Nat), x]) ∧ ∀ xs, SqT K H a xs → xs[i]? = some x, fun i H => ∃ xs : List V, SqT K H a xs ∧ xs.length ≤ i⟩
theorem turn_enumT {P : Program} {w : World} {K : PySem.W.Frag} {elts : List Expr} {kk : Nat} {tpos : Pos} (a e it : Addr) (hat : a ≠ it) :
    Turn P w K (.Tuple elts kk tpos) (IteT K a) [e, it] e (fun i h => (∃ old, IsEnum h e it ((i : Nat) : Int) old) ∧ h.IsTupleIter it a i ∧ e ≠ it ∧ e ≠ a) where
  mem := by simp
  obj := fun i h st b hb => by
    obtain ⟨⟨old, he⟩, ⟨o, ho, hc, hd⟩, _⟩ := st
    have e' : b = e ∨ b = it := by simpa using hb
    rcases e' with z | z
    · rw [z]; exact ⟨_, he, fun v q => nomatch q⟩
    · rw [z]; exact ⟨o, ho, fun v q => by rw [hd] at q; cases q⟩
  keep := fun i h h' st k => let ⟨⟨old, he⟩, hi, hne⟩ := st; ⟨⟨old, k e (by simp) _ he⟩, hi.at fun o q => k it (by simp) o q, hne⟩
  item := by
    intro X hP hw hK hc i pins s σ H E I hf st hg
    subst hP hw hK
    obtain ⟨⟨old, he⟩, hit, hne, hea⟩ := st
    obtain ⟨xs, x, hq, hx⟩ := hg
    obtain ⟨its, rv, p, hz⟩ := I.tuple hq
    obtain ⟨u, hu, ru⟩ := rv.get hx
    have hel : e < s.heap.objs.size := Heap.lt_size he
    have hil : it < s.heap.objs.size := by obtain ⟨_, q, _⟩ := hit; exact Heap.lt_size q
    have hu' : its.toArray[i]? = some u := by simpa using hu
    have hlt : i < its.toArray.size := (Array.getElem?_eq_some_iff.mp hu').1
    have pT : s.heap.IsTuple a its.toArray := p
    have Dr := Draws.tuple (prog := X.prog) (w := X.w) (A := X.A.in1) (show X.A.in1.handled = none from I.ok.hd hc) it a hat its.toArray
    refine wpAny_pyNext_enum_itemD Dr he ⟨hit, pT⟩ hlt hne (by simp [hne, hea]) fun x' h' tk hx' ho hit' hT hsz hk => ?_
    rw [hu'] at hx'; cases hx'
    refine ⟨_, rfl, wpAny_letOwnedTupleGo_enum (s := { s with heap := h', toks := tk + 1 }) ho fun h'' he' sb => ?_⟩
    have hT2 : h''.get? s.heap.objs.size = some { cls := .type "tuple", data := .seq #[.int i tk, u] } := (sb.2 _ (Nat.ne_of_gt hel)).trans hT
    have new : ObjOk X.prog X.w (upd H s.heap.objs.size (.tup [.int (i : Nat), x])) h'' s.heap.objs.size (.tup [.int (i : Nat), x]) :=
      ⟨by show 2 ≤ sizeLine; decide, [.int i tk, u], .cons ⟨_, rfl⟩ (.cons ru .nil), ⟨_, hT2, rfl, _, rfl⟩⟩
    have I1 : Inv X pins σ (upd H s.heap.objs.size (.tup [.int (i : Nat), x])) { s with heap := h'', toks := tk + 1 } :=
      I.turnedNew (ch := [e, it]) (fun b ob hb q => (sb.2 b (fun z => hb (by simp [z]))).trans (hk b ob (fun z => hb (by simp [z])) (fun z => hb (by simp [z])) q)) hf (Nat.le_refl _) new
    refine ⟨.ref s.heap.objs.size, _, I1, rfl, ⟨_, x, rfl, I.hok.fresh (Nat.le_refl _), rfl, fun ys hy => by rw [I.tuple_inj hy hq]; exact hx⟩, ⟨⟨u, ?_⟩, hit'.1.at fun o q => (sb.2 it (Ne.symm hne)).trans q, hne, hea⟩, fun b hb => ?_⟩
    · have e1 : ((i + 1 : Nat) : Int) = (i : Int) + 1 := by omega
      rw [e1]; exact he'
    · have hb' : b < s.heap.objs.size := by
        have e' : b = e ∨ b = it := by simpa using hb
        rcases e' with z | z
        · rw [z]; exact hel
        · rw [z]; exact hil
      rw [upd_ne (Nat.ne_of_lt hb')]
      exact (hf b hb).1
  done := by
    intro X hP hw hK hc i pins s σ H E I hf st hg
    subst hP hw hK
    obtain ⟨⟨old, he⟩, hit, hne, hea⟩ := st
    obtain ⟨xs, hq, hx⟩ := hg
    obtain ⟨its, rv, p, hz⟩ := I.tuple hq
    obtain ⟨f0, f1, f2, f3, f4, f5⟩ := hf it (by simp)
    have hl := rv.length
    have pT : s.heap.IsTuple a its.toArray := p
    have hT : s.TypeIs (.ref e) "enumerate" := ⟨_, he, rfl⟩
    unfold pyNext
    refine wpAny_bind (wpAny_attempt (wpAny_callSpecial?_slot (name := Str.ofString "__next__") hT F.slot_enumerate_next
      (wpAny_call_entry F.slot_enumerate_next hT F.entry_enumerate_next ?_ (F.args_enumerate_next_1 _))))
    show wpAny _ _ (field (.ref e) 2 >>= _) _ _ _
    refine wpAny_bind (wpAny_field he rfl (x := .ref it) rfl ?_)
    refine wpAny_bind (wpAny_nextOf_tuple_end (show X.A.in1.handled = none from I.ok.hd hc) hit pT (by simp; omega) fun h' x he' hx' => ?_)
    obtain ⟨o, ho, hc'⟩ := hx'
    refine wpAny_bind (wpAny_isInstance (T := "StopIteration") (b := true) ⟨o, ho, hc'⟩ isSubtype_stop ?_)
    exact wpAny_pure ⟨rfl, I.turned (t' := s.toks) (fun b o hb q => he' b o hb q) f0 f1 f3 f4 f5⟩
  self := fun A i s Q E st h => let ⟨⟨_, he⟩, _⟩ := st; wpAny_pyIter_enum he h
def iEnumA (K : PySem.W.Frag) (ta : TA) : TI := fun σ H R => ta σ H fun vs H1 => ∃ a xs, vs = [.ref a] ∧ ((SqL K H1 a xs ∧ R (Ite K a) H1) ∨ (SqT K H1 a xs ∧ R (IteT K a) H1))
theorem pi_enumA {X : Cx} {e : Expr} {ta : TA} {p pos tpos : Pos} {elts : List Expr} {kk : Nat} (hg : Gl X "enumerate") (hm : X.mg "enumerate" = none) (ha : PA X [e] ta) (hs : starEach [e] X.env = [(false, eval e X.env)] := by rfl) :
    PI X (.Tuple elts kk tpos) (.Call (.Name "enumerate" p) [e] [] pos) (iEnumA X.K ta) := by
  refine ⟨fun pins s σ H R I h => ?_⟩
  refine Call_ (ld_blt I hg hm boot_enumerate (PyProof.Rows.callWith_type1 (thn (ha.run pos pins s σ H _ I h) fun us s1 ⟨vs, H1, I1, r1, q1⟩ => ?_) hs rfl))
  obtain ⟨a, xs, ex, q1⟩ := q1
  subst ex
  cases r1 with
  | cons r rr =>
    cases rr
    cases r
    have fresh2 : ∀ b, b ∈ [s1.heap.objs.size + 1, s1.heap.objs.size] → FpOk X pins H1 b := fun b hb => by
      have e' : b = s1.heap.objs.size + 1 ∨ b = s1.heap.objs.size := by simpa using hb
      have hle : s1.heap.objs.size ≤ b := by
        rcases e' with z | z
        · rw [z]; exact Nat.le_add_right _ _
        · rw [z]; exact Nat.le_refl _
      exact I1.fpOk hle (I1.hok.fresh hle)
    rcases q1 with ⟨hq, q⟩ | ⟨hq, q⟩
    · obtain ⟨its, rv, p', hz⟩ := I1.list hq
      refine call_enumerate_list p'.isList fun h' he hit hsz hk => wpAny_pyIter_enum he ?_
      have I2 : Inv X pins σ H1 { s1 with heap := h' } := I1.kept (t' := s1.toks) hk
      exact ⟨s1.heap.objs.size + 1, [s1.heap.objs.size + 1, s1.heap.objs.size], _, _, H1, rfl, I2, turn_enum a (s1.heap.objs.size + 1) s1.heap.objs.size, ⟨⟨.none, he⟩, hit, Nat.succ_ne_self _⟩, fresh2, q⟩
    · obtain ⟨its, rv, p', hz⟩ := I1.tuple hq
      have pT : s1.heap.IsTuple a its.toArray := p'
      have ha' : a < s1.heap.objs.size := by obtain ⟨o, ho, _⟩ := id pT; exact Heap.lt_size ho
      refine call_enumerate_tup pT fun h' he hit hsz hk => wpAny_pyIter_enum he ?_
      have I2 : Inv X pins σ H1 { s1 with heap := h' } := I1.kept (t' := s1.toks) hk
      exact ⟨s1.heap.objs.size + 1, [s1.heap.objs.size + 1, s1.heap.objs.size], _, _, H1, rfl, I2, turn_enumT a (s1.heap.objs.size + 1) s1.heap.objs.size (Nat.ne_of_lt ha'), ⟨⟨.none, he⟩, hit, Nat.succ_ne_self _, Nat.ne_of_gt (Nat.lt_succ_of_lt ha')⟩, fresh2, q⟩
/-! ### the ties: enumerate, zip -/
def enumL (ds : List D) : List D := ds.mapIdx fun i d => .tup [.int (i : Nat), d]
def zipL (a b : List D) : List D := List.zipWith (fun x y => .tup [x, y]) a b
/-- what enumerate and zip walk: lists, tuples -/
def walkE (l : Bool) (d : D) : Option (List D) := match d with
  | .tup ds => some ds
  | .lst ds => some ds
  | .bor ds => if l = true then some ds else none
  | _ => none
def iEnum1 (l : Bool) (m : Ev D) : Ev (List D) := fun ρ κ => (m ρ κ).bind fun d κ1 => rOfL ((walkE l d).map enumL) κ1
/-- two lists or two tuples -/
def zipD (l : Bool) (x y : D) : Option (List D) := match x, y with
  | .tup a, .tup b => some (zipL a b)
  | .lst a, .lst b => some (zipL a b)
  | .lst a, .bor b => if l = true then some (zipL a b) else none
  | .bor a, .lst b => if l = true then some (zipL a b) else none
  | .bor a, .bor b => if l = true then some (zipL a b) else none
  | _, _ => none
def iZip2 (l : Bool) (ma mb : Ev D) : Ev (List D) := fun ρ κ => (ma ρ κ).bind fun x κ1 => (mb ρ κ1).bind fun y κ2 => rOfL (zipD l x y) κ2
theorem enumL_get {ds : List D} {i : Nat} {d : D} (h : (enumL ds)[i]? = some d) : ∃ x, ds[i]? = some x ∧ d = .tup [.int (i : Nat), x] := by
  unfold enumL at h
  rw [List.getElem?_mapIdx] at h
  obtain ⟨x, hx, rfl⟩ := Option.map_eq_some_iff.mp h
  exact ⟨x, hx, rfl⟩
theorem zipL_get {a b : List D} {i : Nat} {d : D} (h : (zipL a b)[i]? = some d) : ∃ x y, a[i]? = some x ∧ b[i]? = some y ∧ d = .tup [x, y] := by
  unfold zipL at h
  rw [List.getElem?_zipWith] at h
  cases ha : a[i]? with
  | none => rw [ha] at h; cases h
  | some x =>
    cases hb : b[i]? with
    | none => rw [ha, hb] at h; cases h
    | some y => rw [ha, hb] at h; cases h; exact ⟨x, y, rfl, rfl, rfl⟩
section
variable {G : Gx} {W : XK} {K : PySem.W.Frag} {α α' : List Addr} {F F' H H' : Hp} {κ : Ka} {l : Bool} {ds es : List D} {xs ys : List V} {a b : Addr}
theorem SqT.of_sub (s : Same F H) (h : SqT K F a xs) : SqT K H a xs := same_tup s h
theorem pair_new {α1 : List Addr} {F1 H1 : Hp} {κ1 : Ka} {T : Addr} {d e : D} {x y : V} (w : Wd G K α1 F1 H1 κ1) (hT : H1 T = none) (r1 : Rp K α1 F1 d x) (r2 : Rp K α1 F1 e y) :
    ∃ F2, Gr α1 F1 H1 α1 F2 (upd H1 T (.tup [x, y])) ∧ Wd G K α1 F2 (upd H1 T (.tup [x, y])) κ1 ∧ Rp K α1 F2 (.tup [d, e]) (.ref T) := by
  obtain ⟨g, w'⟩ := Gr.new (o := .tup [x, y]) w hT
  exact ⟨_, g, w', .tup (SqT.of upd_same) (.cons (r1.gr g) (.cons (r2.gr g) .nil))⟩
theorem itOk_enumL (h : F a = some (.lst xs)) (r : RpL K α F ds xs) : ItOk G K l α F H (Ite K a) (enumL ds) where
  go := fun α1 F1 H1 κ1 lt w i d hd => by
    obtain ⟨e, he, rfl⟩ := enumL_get hd
    have ha : SqL K H1 a xs := SqL.of_sub w.sub (lt.exn.fr _ _ h)
    obtain ⟨v, hv, rv⟩ := (r.exn lt.exn).get he
    refine ⟨⟨xs, v, ha, hv⟩, fun x H2 hy => ?_⟩
    obtain ⟨T, x', rfl, hT, rfl, fy⟩ := hy
    have e' := fy xs ha
    rw [hv] at e'; cases e'
    exact pair_new w hT (.int _) rv
  stop := fun α1 F1 H1 κ1 lt w => ⟨xs, SqL.of_sub w.sub (lt.exn.fr _ _ h), by rw [← r.length]; simp [enumL]⟩
theorem itOk_enumB (h : H a = some (.lst xs)) (n : a ∉ α) (r : RpL K α F ds xs) : ItOk G K true α F H (Ite K a) (enumL ds) where
  go := fun α1 F1 H1 κ1 lt w i d hd => by
    have lt : Gr α F H α1 F1 H1 := lt
    obtain ⟨e, he, rfl⟩ := enumL_get hd
    have ha : SqL K H1 a xs := SqL.of (lt.ke _ _ h n)
    obtain ⟨v, hv, rv⟩ := (r.exn lt.exn).get he
    refine ⟨⟨xs, v, ha, hv⟩, fun x H2 hy => ?_⟩
    obtain ⟨T, x', rfl, hT, rfl, fy⟩ := hy
    have e' := fy xs ha
    rw [hv] at e'; cases e'
    exact pair_new w hT (.int _) rv
  stop := fun α1 F1 H1 κ1 lt w => ⟨xs, SqL.of (Gr.ke (show Gr α F H α1 F1 H1 from lt) _ _ h n), by rw [← r.length]; simp [enumL]⟩
theorem itOk_enumT (h : SqT K F a xs) (r : RpL K α F ds xs) : ItOk G K l α F H (IteT K a) (enumL ds) where
  go := fun α1 F1 H1 κ1 lt w i d hd => by
    obtain ⟨e, he, rfl⟩ := enumL_get hd
    have ha : SqT K H1 a xs := same_tup w.sub (same_tup lt.exn.fr h)
    obtain ⟨v, hv, rv⟩ := (r.exn lt.exn).get he
    refine ⟨⟨xs, v, ha, hv⟩, fun x H2 hy => ?_⟩
    obtain ⟨T, x', rfl, hT, rfl, fy⟩ := hy
    have e' := fy xs ha
    rw [hv] at e'; cases e'
    exact pair_new w hT (.int _) rv
  stop := fun α1 F1 H1 κ1 lt w => ⟨xs, same_tup w.sub (same_tup lt.exn.fr h), by rw [← r.length]; simp [enumL]⟩
/-- a list of which each later heap knows -/
def Kn (K : PySem.W.Frag) (l : Bool) (α : List Addr) (F H : Hp) (a : Addr) (xs : List V) : Prop := ∀ α1 F1 H1 κ1 (G : Gx), Later l α F H α1 F1 H1 → Wd G K α1 F1 H1 κ1 → SqL K H1 a xs
theorem kn_lst (h : F a = some (.lst xs)) : Kn K l α F H a xs := fun α1 F1 H1 κ1 G lt w => SqL.of_sub w.sub (lt.exn.fr _ _ h)
theorem kn_bor (h : H a = some (.lst xs)) (n : a ∉ α) : Kn K true α F H a xs := fun α1 F1 H1 κ1 G lt w => SqL.of (Gr.ke (show Gr α F H α1 F1 H1 from lt) _ _ h n)
theorem itOk_zipL (ka : Kn K l α F H a xs) (kb : Kn K l α F H b ys) (r : RpL K α F ds xs) (q : RpL K α F es ys) : ItOk G K l α F H (Itz K a b) (zipL ds es) where
  go := fun α1 F1 H1 κ1 lt w i d hd => by
    obtain ⟨d1, d2, h1, h2, rfl⟩ := zipL_get hd
    have ha := ka _ _ _ _ _ lt w
    have hb := kb _ _ _ _ _ lt w
    obtain ⟨v, hv, rv⟩ := (r.exn lt.exn).get h1
    obtain ⟨u, hu, ru⟩ := (q.exn lt.exn).get h2
    refine ⟨⟨xs, ys, v, u, ha, hb, hv, hu⟩, fun x H2 hy => ?_⟩
    obtain ⟨T, x', y', rfl, hT, rfl, f1, f2⟩ := hy
    have e1 := f1 xs ha
    have e2 := f2 ys hb
    rw [hv] at e1; cases e1
    rw [hu] at e2; cases e2
    exact pair_new w hT rv ru
  stop := fun α1 F1 H1 κ1 lt w => ⟨xs, ys, ka _ _ _ _ _ lt w, kb _ _ _ _ _ lt w, by rw [← r.length, ← q.length]; simp [zipL]; omega⟩
theorem itOk_zipT (ka : SqT K F a xs) (kb : SqT K F b ys) (r : RpL K α F ds xs) (q : RpL K α F es ys) : ItOk G K l α F H (RZ.ItzT K a b) (zipL ds es) where
  go := fun α1 F1 H1 κ1 lt w i d hd => by
    obtain ⟨d1, d2, h1, h2, rfl⟩ := zipL_get hd
    have ha : SqT K H1 a xs := same_tup w.sub (same_tup lt.exn.fr ka)
    have hb : SqT K H1 b ys := same_tup w.sub (same_tup lt.exn.fr kb)
    obtain ⟨v, hv, rv⟩ := (r.exn lt.exn).get h1
    obtain ⟨u, hu, ru⟩ := (q.exn lt.exn).get h2
    refine ⟨⟨xs, ys, v, u, ha, hb, hv, hu⟩, fun x H2 hy => ?_⟩
    obtain ⟨T, x', y', rfl, hT, rfl, f1, f2⟩ := hy
    have e1 := f1 xs ha
    have e2 := f2 ys hb
    rw [hv] at e1; cases e1
    rw [hu] at e2; cases e2
    exact pair_new w hT rv ru
  stop := fun α1 F1 H1 κ1 lt w => ⟨xs, ys, same_tup w.sub (same_tup lt.exn.fr ka), same_tup w.sub (same_tup lt.exn.fr kb), by rw [← r.length, ← q.length]; simp [zipL]; omega⟩
end
section
variable {G : Gx} {W : XK} {X : Cx} {e e2 : Expr} {m m2 : Ev D} {p pos tpos : Pos} {elts : List Expr} {kk : Nat} {l : Bool}
theorem w_enum (hm : X.mg "enumerate" = none) (ha : PD G W X e m) (hg : Gl X "enumerate" := by rfl) (hs : starEach [e] X.env = [(false, eval e X.env)] := by rfl) :
    PDI G W X l (.Tuple elts kk tpos) (.Call (.Name "enumerate" p) [e] [] pos) (iEnum1 l m) :=
  ⟨pi_imp (pi_enumA hg hm (pl_cons ha pl_nil hs).run hs) fun σ H R ⟨α, F, ρ, κ, Bs, w, sl, h⟩ => by
    have h' : POI G W X.K l α F H R ((aCons m aNil ρ κ).bind fun ds κ1 => match ds with | [d] => rOfL ((walkE l d).map enumL) κ1 | _ => none) := by
      unfold iEnum1 at h
      unfold aCons aNil
      rcases hm' : m ρ κ with _ | ⟨o, κ'⟩
      · rw [hm'] at h; exact h.elim
      · rw [hm'] at h
        cases o <;> exact h
    refine tL_mono (fun xs H1 ⟨α1, F1, κ1, ds, g1, w1, sl1, r1, h1⟩ => ?_) (tL_bindI w sl h')
    cases ds with
    | nil => exact h1.elim
    | cons d t =>
      cases t with
      | cons _ _ => exact h1.elim
      | nil =>
        cases r1 with
        | cons r rr =>
          cases rr
          simp only at h1
          cases d with
          | tup ds =>
            cases r with
            | tup hs q => exact ⟨_, _, rfl, .inr ⟨same_tup w1.sub hs, POI.now w1 h1 (itOk_enumT hs q)⟩⟩
          | lst ds =>
            cases r with
            | lst hs q => exact ⟨_, _, rfl, .inl ⟨SqL.of_sub w1.sub hs, POI.now w1 h1 (itOk_enumL hs q)⟩⟩
          | bor ds =>
            obtain ⟨p, xs, rfl, h2, h3, h4, q⟩ := r
            cases l with
            | false => exact h1.elim
            | true => exact ⟨_, _, rfl, .inl ⟨SqL.of h2, POI.now w1 h1 (itOk_enumB h2 h3 q)⟩⟩
          | _ => exact h1.elim⟩
theorem w_zip (hm : X.mg "zip" = none) (ha : PD G W X e m) (hb : PD G W X e2 m2) (hg : Gl X "zip" := by rfl) (hs : starEach [e, e2] X.env = (false, eval e X.env) :: starEach [e2] X.env := by rfl) (hs2 : starEach [e2] X.env = (false, eval e2 X.env) :: starEach [] X.env := by rfl) (hpl : (backTo pos (starEach [e2] X.env)).any (·.1) = false := by rfl) :
    PDI G W X l (.Tuple elts kk tpos) (.Call (.Name "zip" p) [e, e2] [] pos) (iZip2 l m m2) :=
  ⟨pi_imp (RZ.pi_zipA hg hm (pl_cons ha (pl_cons hb pl_nil hs2) hs).run hs hpl) fun σ H R ⟨α, F, ρ, κ, Bs, w, sl, h⟩ => by
    have h' : POI G W X.K l α F H R ((aCons m (aCons m2 aNil) ρ κ).bind fun ds κ1 => match ds with | [d, f] => rOfL (zipD l d f) κ1 | _ => none) := by
      unfold iZip2 at h
      unfold aCons aNil
      rcases hm' : m ρ κ with _ | ⟨o, κ'⟩
      · rw [hm'] at h; exact h.elim
      · rw [hm'] at h
        cases o with
        | er c => exact h
        | ok d =>
          simp only [Re.bind] at h ⊢
          rcases hm2 : m2 ρ κ' with _ | ⟨o, κ''⟩
          · rw [hm2] at h; exact h.elim
          · rw [hm2] at h
            cases o <;> exact h
    refine tL_mono (fun xs H1 ⟨α1, F1, κ1, ds, g1, w1, sl1, r1, h1⟩ => ?_) (tL_bindI w sl h')
    cases ds with
    | nil => exact h1.elim
    | cons d t =>
      cases t with
      | nil => exact h1.elim
      | cons f t =>
        cases t with
        | cons _ _ => exact h1.elim
        | nil =>
          cases r1 with
          | cons r rr =>
            cases rr with
            | cons q rr =>
              cases rr
              simp only at h1
              cases d with
              | tup ds =>
                cases f with
                | tup es =>
                  cases r with
                  | tup hs r =>
                    cases q with
                    | tup hs2 q => exact ⟨_, _, _, _, rfl, .inr ⟨same_tup w1.sub hs, same_tup w1.sub hs2, POI.now w1 h1 (itOk_zipT hs hs2 r q)⟩⟩
                | _ => exact h1.elim
              | lst ds =>
                cases f with
                | lst es =>
                  cases r with
                  | lst hs r =>
                    cases q with
                    | lst hs2 q => exact ⟨_, _, _, _, rfl, .inl ⟨SqL.of_sub w1.sub hs, SqL.of_sub w1.sub hs2, POI.now w1 h1 (itOk_zipL (kn_lst hs) (kn_lst hs2) r q)⟩⟩
                | bor es =>
                  cases l with
                  | false => exact h1.elim
                  | true =>
                    cases r with
                    | lst hs r =>
                      obtain ⟨p, xs, rfl, h2, h3, h4, q⟩ := q
                      exact ⟨_, _, _, _, rfl, .inl ⟨SqL.of_sub w1.sub hs, SqL.of h2, POI.now w1 h1 (itOk_zipL (kn_lst hs) (kn_bor h2 h3) r q)⟩⟩
                | _ => exact h1.elim
              | bor ds =>
                cases f with
                | lst es =>
                  cases l with
                  | false => exact h1.elim
                  | true =>
                    obtain ⟨p, xs, rfl, h2, h3, h4, r⟩ := r
                    cases q with
                    | lst hs2 q => exact ⟨_, _, _, _, rfl, .inl ⟨SqL.of h2, SqL.of_sub w1.sub hs2, POI.now w1 h1 (itOk_zipL (kn_bor h2 h3) (kn_lst hs2) r q)⟩⟩
                | bor es =>
                  cases l with
                  | false => exact h1.elim
                  | true =>
                    obtain ⟨p, xs, rfl, h2, h3, h4, r⟩ := r
                    obtain ⟨p', xs', rfl, h2', h3', h4', q⟩ := q
                    exact ⟨_, _, _, _, rfl, .inl ⟨SqL.of h2, SqL.of h2', POI.now w1 h1 (itOk_zipL (kn_bor h2 h3) (kn_bor h2' h3') r q)⟩⟩
                | _ => exact h1.elim
              | _ => exact h1.elim⟩
end
end
end DL
set_option Elab.async false
set_option linter.all false
set_option maxRecDepth 100000
set_option maxHeartbeats 4000000
/-! DLj: more of lists: x + y and x * n as lists of their own, [::-1], index, tuple * n. -/
namespace DL
noncomputable section
open PySem PySem.Spec PyProof.Rows L2 HT
def fCat (ma mb : Ev D) : Ev (List D) := fun ρ κ => (ma ρ κ).bind fun x κ1 => (mb ρ κ1).bind fun y κ2 => match listOf x, listOf y with
  | some a, some b => if a.length + b.length ≤ 16777216 then some (.ok (a ++ b), κ2) else none
  | _, _ => none
def okRep (m : Nat) (k : Int) : Prop := -9223372036854775808 ≤ k ∧ k < 9223372036854775808 ∧ m * k.toNat ≤ 16777216
instance (m : Nat) (k : Int) : Decidable (okRep m k) := Classical.propDecidable _
def fRep (ma mb : Ev D) : Ev (List D) := fun ρ κ => (ma ρ κ).bind fun x κ1 => (mb ρ κ1).bind fun y κ2 => match listOf x, y with
  | some a, .int k => if okRep a.length k then some (.ok (List.replicate k.toNat a).flatten, κ2) else none
  | _, _ => none
section
variable {K : PySem.W.Frag} {α : List Addr} {F : Hp}
theorem RpL.rep {ds : List D} {vs : List V} (r : RpL K α F ds vs) : ∀ n : Nat, RpL K α F (List.replicate n ds).flatten (List.replicate n vs).flatten
  | 0 => .nil
  | n + 1 => by rw [List.replicate_succ, List.replicate_succ, List.flatten_cons, List.flatten_cons]; exact r.append (RpL.rep r n)
theorem RpL.reverse {ds : List D} {vs : List V} (r : RpL K α F ds vs) : RpL K α F ds.reverse vs.reverse := by
  induction ds generalizing vs with
  | nil => cases r; exact .nil
  | cons d ds ih => cases r with | cons h t => rw [List.reverse_cons, List.reverse_cons]; exact (ih t).append (.cons h .nil)
end
section
variable {G : Gx} {W : XK} {X : Cx} {a b e : Expr} {es : List Expr} {m ma mb : Ev D} {n : Ev (List D)} {pos p : Pos}
theorem pf_cat (ha : PD G W X a ma) (hb : PD G W X b mb) : PF G W X (.BinOp a .Add b pos) (fCat ma mb) :=
  ⟨pe_imp (pe_op op_cat ha.run hb.run) fun σ H Q ⟨α, F, ρ, κ, Bs, w, sl, h⟩ =>
    tD_mono (fun x H1 ⟨α1, F1, κ1, d, g1, w1, sl1, r1, h1⟩ => tD_mono (fun y H2 ⟨α2, F2, κ2, f, g2, w2, sl2, r2, h2⟩ => by
      cases hx : listOf d with
      | none => rw [hx] at h2; exact h2.elim
      | some xs =>
        cases hy : listOf f with
        | none => rw [hx, hy] at h2; exact h2.elim
        | some ys =>
          rw [hx, hy] at h2
          simp only at h2
          split at h2
          · rename_i hl
            exact cat_lists w2 (r1.gr g2) r2 hx hy hl fun zs p r hp => POF.lstNew w2 h2 r hp
          · exact h2.elim) (tD_bindF w1 sl1 h1)) (tD_bindF w sl h)⟩
theorem pf_rep (ha : PD G W X a ma) (hb : PD G W X b mb) : PF G W X (.BinOp a .Mult b pos) (fRep ma mb) :=
  ⟨pe_imp (pe_op op_rep ha.run hb.run) fun σ H Q ⟨α, F, ρ, κ, Bs, w, sl, h⟩ =>
    tD_mono (fun x H1 ⟨α1, F1, κ1, d, g1, w1, sl1, r1, h1⟩ => tD_mono (fun y H2 ⟨α2, F2, κ2, f, g2, w2, sl2, r2, h2⟩ => by
      cases hx : listOf d with
      | none => rw [hx] at h2; exact h2.elim
      | some xs =>
        rw [hx] at h2
        cases f with
        | int k =>
          simp only at h2
          split at h2
          · rename_i hl
            obtain ⟨a, vs, rfl, e1, q⟩ := rv_list w2 (r1.gr g2) hx
            exact ⟨a, k, vs, rfl, rv_int r2, e1, hl.1, hl.2.1, by rw [← q.length, sizeLine_eq]; exact hl.2.2, fun p hp => POF.lstNew w2 h2 (q.rep _) hp⟩
          · exact h2.elim
        | _ => exact h2.elim) (tD_bindF w1 sl1 h1)) (tD_bindF w sl h)⟩
end
/-! ### [::-1] -/
section
variable {prog : Program} {w : World} {A : Around} {E : Value → Shared → Prop} {s : Shared}
theorem sliceApplied_rev {sl : Addr} {vl vu vs : Value} {n : Nat} {Q : Int × Int × Nat → Shared → Prop} (hs : s.heap.IsSliceOf sl vl vu vs) (pl : IsPart vl none) (pu : IsPart vu none) (ps : IsPart vs (some (-1)))
    (h : Q (((n : Nat) : Int) - 1, -1, n) s) : wpAny (model prog w) A (Builtin.Slice.sliceApplied (.ref sl) (pure (n : Int))) Q E s := by
  obtain ⟨os, hos, hcs, hds⟩ := id hs
  unfold Builtin.Slice.sliceApplied Builtin.Slice.sliceFields
  refine wpAny_bind (wpAny_bind (wpAny_field hos hds (x := vl) rfl (wpAny_bind (wpAny_field hos hds (x := vu) rfl (wpAny_bind (wpAny_field hos hds (x := vs) rfl (wpAny_pure ?_)))))))
  refine wpAny_bind (slicePart_ ps ?_)
  show wpAny _ _ (if ((-1 : Int) == 0) = true then _ else _) _ _ s
  rw [if_neg (by decide)]
  refine wpAny_bind (slicePart_ pl (wpAny_bind (slicePart_ pu (wpAny_bind (wpAny_pure ?_)))))
  show wpAny _ _ (match Builtin.Slice.sliceAdjust none none (-1) (n : Int) with | (lo, hi) => pure (lo, (-1 : Int), Builtin.Slice.slicePlaces lo hi (-1))) _ _ s
  have e1 : Builtin.Slice.sliceAdjust none none (-1) (n : Int) = ((n : Int) - 1, -1) := rfl
  rw [e1]
  show wpAny _ _ (pure ((n : Int) - 1, (-1 : Int), Builtin.Slice.slicePlaces ((n : Int) - 1) (-1) (-1))) _ _ s
  have e2 : Builtin.Slice.slicePlaces ((n : Int) - 1) (-1) (-1) = n := by
    unfold Builtin.Slice.slicePlaces
    rw [if_neg (by decide)]
    split
    · have : ((n : Int) - 1 - -1 - 1) / (- -1) = (n : Int) - 1 := by
        rw [show (- -1 : Int) = 1 from rfl, Int.ediv_one]; omega
      rw [this]; omega
    · omega
  rw [e2]
  exact wpAny_pure h
theorem pick_rev (xs : Array Value) : ((List.range xs.size).filterMap fun (m : Nat) => xs[(((xs.size : Nat) : Int) - 1 + (m : Int) * (-1)).toNat]?).toArray = xs.toList.reverse.toArray := by
  have e : (List.range xs.size).filterMap (fun (m : Nat) => xs[(((xs.size : Nat) : Int) - 1 + (m : Int) * (-1)).toNat]?) = ((List.range xs.size).map fun k => xs.size - 1 - k).filterMap (xs[·]?) := by
    rw [List.filterMap_map]
    congr 1
    funext m
    have : (((xs.size : Nat) : Int) - 1 + (m : Int) * (-1)).toNat = xs.size - 1 - m := by omega
    simp only [this, Function.comp]
  rw [e, PySem.W.krv_range, List.filterMap_reverse, PySem.W.krv_all]
theorem getItem_tuple_rev {t sl : Addr} {items : Array Value} {vl vu vs : Value} {Q : Value → Shared → Prop} (ht : IsTup s.heap t items) (hs : s.heap.IsSliceOf sl vl vu vs) (pl : IsPart vl none) (pu : IsPart vu none) (ps : IsPart vs (some (-1)))
    (h : Q (.ref s.heap.objs.size) { s with heap := s.heap.push { cls := .type "tuple", data := .seq items.toList.reverse.toArray } })
    (hsz : items.size ≤ sizeLine) : wpAny (model prog w) A (getItem (.ref t) (.ref sl)) Q E s := by
  have htake : sizeOk (.seq items.toList.reverse.toArray) := by
    show items.toList.reverse.toArray.size ≤ sizeLine
    simpa using hsz
  obtain ⟨os, hos, hcs, hds⟩ := id hs
  have hTs : s.TypeIs (.ref sl) "slice" := ⟨os, hos, hcs⟩
  unfold getItem
  try with_reducible refine wpAny_holding ?_
  first | refine wpAny_bind (wpAny_pure ?_) | skip
  refine wpAny_bind (wpAny_sequenceKey ht.typeIs (by decide) ?_)
  refine wpAny_bind (wpAny_callSpecial?_slot (name := Str.ofString "__getitem__") ht.typeIs PyProof.Rows.slot_tuple_getitem
    (wpAny_call_entry PyProof.Rows.slot_tuple_getitem ht.typeIs entry_tuple_getitem ?_ (args_tuple_getitem _ _)))
  show wpAny _ _ (Builtin.Tuple.tupleItemsOf (.ref t) >>= _) _ _ s
  refine wpAny_bind (tupleItemsOf_ ht ?_)
  refine wpAny_bind (wpAny_typeOf hTs ?_)
  rw [if_pos (by decide)]
  refine wpAny_bind (sliceApplied_rev hs pl pu ps ?_)
  have hno : ¬ ((((items.size : Nat) : Int) - 1 == 0 && (-1 : Int) == 1 && items.size == items.size) = true) := by
    rw [show ((-1 : Int) == 1) = false from rfl]
    simp
  show wpAny _ _ (if (((items.size : Nat) : Int) - 1 == 0 && (-1 : Int) == 1 && items.size == items.size) = true then _ else _) _ _ s
  rw [if_neg hno, pick_rev]
  first
    | exact wpAny_bind (m := Builtin.Tuple.tupleExact _) (wpAny_newObj_type (wpAny_pure ⟨_, rfl, wpAny_pure h⟩) htake)
    | exact wpAny_bind (m := Builtin.Tuple.tupleExact _) (wpAny_newObj_type (wpAny_bind (wpAny_pure (wpAny_pure ⟨_, rfl, wpAny_pure h⟩))) htake)
    | exact wpAny_bind (wpAny_bind (m := Builtin.Tuple.tupleExact _) (wpAny_newObj_type (wpAny_pure (wpAny_pure ⟨_, rfl, wpAny_pure h⟩)) htake))
    | exact wpAny_bind (wpAny_bind (m := Builtin.Tuple.tupleExact _) (wpAny_newObj_type (wpAny_pure ⟨_, rfl, wpAny_pure h⟩) htake))
end
def tRevA (K : PySem.W.Frag) (te : TE) : TE := fun σ H Q => te σ H fun x H1 => ∃ a xs, x = .ref a ∧ ((SqL K H1 a xs ∧ ∀ p, H1 p = none → Q (.ref p) (upd H1 p (.lst xs.reverse))) ∨ (SqT K H1 a xs ∧ ∀ p, H1 p = none → Q (.ref p) (upd H1 p (.tup xs.reverse))))
theorem pe_revA {X : Cx} {e : Expr} {te : TE} {k : Nat} {p1 p2 p3 pos : Pos} (he : PE X e te) : PE X (.Subscript e (.Slice none none (some (.UnaryOp .USub (.Constant (.int 1) k p1) p2)) p3) pos) (tRevA X.K te) := by
  refine ⟨fun pins s σ H Q I h => ?_⟩
  refine Subscript_ (thn (he.run pins s σ H _ I h) fun v s1 ⟨x, H1, I1, r1, q1⟩ => ?_)
  obtain ⟨a, xs, ex, q1⟩ := q1
  subst ex
  cases r1
  have hst : L2.PO X (some (.UnaryOp .USub (.Constant (.int 1) k p1) p2)) (tPart (tUn (rU fun i => .int (-i)) (tC (.int 1)))) := po_some (pe_un un_neg pe_int)
  refine wpAny_Slice (thn (po_none.run pins s1 σ H1 (fun o H2 => o = none ∧ H2 = H1) I1 ⟨rfl, rfl⟩) fun vl s2 ⟨l, H2, I2, pl, el, e2⟩ => ?_)
  subst el e2
  refine thn (po_none.run pins s2 σ H2 (fun o H3 => o = none ∧ H3 = H2) I2 ⟨rfl, rfl⟩) fun vu s3 ⟨u, H3, I3, pu, eu, e3⟩ => ?_
  subst eu e3
  refine thn (hst.run pins s3 σ H3 (fun o H4 => o = some (-1) ∧ H4 = H3) I3 ⟨1, rfl, -1, rfl, rfl, rfl⟩) fun vs s4 ⟨o, H4, I4, ps, eo, e4⟩ => ?_
  subst eo e4
  have I5 : Inv X pins σ H4 { s4 with heap := s4.heap.push { cls := .type "slice", data := .fields #[vl, vu, vs] } } := I4.kept (t' := s4.toks) fun b ob q => Heap.get?_push_of_some _ q
  show wpAny (model X.prog X.w) X.A (subscriptTail e (.Slice none none (some (.UnaryOp .USub (.Constant (.int 1) k p1) p2)) p3) (.ref a) (.ref s4.heap.objs.size)) (EP X pins σ Q) X.xe { s4 with heap := s4.heap.push { cls := .type "slice", data := .fields #[vl, vu, vs] } }
  rcases q1 with ⟨hx, q⟩ | ⟨hx, q⟩
  · obtain ⟨its, r, ht, hz⟩ := I5.list hx
    have hlen := r.length
    refine tail_any (ops := [.ref a, .ref s4.heap.objs.size]) ht.isList.typeIs (PySem.slot_list_getitem.lookup) ?_ (by with_unfolding_all rfl)
    refine wpAny_getItem_list_slice ht.isList (Heap.IsSliceOf.new _ vl vu vs) pl pu ps (by decide) ?_ (by rw [List.size_toArray]; omega)
    rw [PySem.W.krv_pick]
    refine ⟨.ref _, _, I5.laid (t' := s4.toks) (o := .lst xs.reverse) (fun b ob q => Heap.get?_push_of_some _ q) (Nat.le_refl _) ?_, rfl, q _ (I5.hok.fresh (Nat.le_refl _))⟩
    exact ⟨by rw [List.length_reverse]; exact hz, _, 0, r.reverse, Heap.get?_push_size _ rfl⟩
  · obtain ⟨its, r, ht, hz⟩ := I5.tuple hx
    have hlen := r.length
    have hT : IsTup (s4.heap.push { cls := .type "slice", data := .fields #[vl, vu, vs] }) a its.toArray := ht
    refine tail_any (ops := [.ref a, .ref s4.heap.objs.size]) hT.typeIs (PyProof.Rows.slot_tuple_getitem.lookup) ?_ (by with_unfolding_all rfl)
    refine getItem_tuple_rev (s := { s4 with heap := s4.heap.push { cls := .type "slice", data := .fields #[vl, vu, vs] } }) hT (Heap.IsSliceOf.new _ vl vu vs) pl pu ps ?_ (by rw [List.size_toArray]; omega)
    refine ⟨.ref _, _, I5.laid (t' := s4.toks) (o := .tup xs.reverse) (fun b ob q => Heap.get?_push_of_some _ q) (Nat.le_refl _) ?_, rfl, q _ (I5.hok.fresh (Nat.le_refl _))⟩
    exact ⟨by rw [List.length_reverse]; exact hz, _, r.reverse, IsTup.new _ _⟩
def oRev (d : D) : Option D := match d with
  | .tup ds => some (.tup ds.reverse)
  | .lst ds => some (.lst ds.reverse)
  | .bor ds => some (.lst ds.reverse)
  | _ => none
def eRev (m : Ev D) : Ev D := fun ρ κ => (m ρ κ).bind fun d κ1 => rOf (oRev d) κ1
section
variable {G : Gx} {W : XK} {X : Cx} {a b e : Expr} {es : List Expr} {m ma mb : Ev D} {n : Ev (List D)} {pos p : Pos}
theorem d_rev {k : Nat} {p1 p2 p3 : Pos} (ha : PD G W X e m) : PD G W X (.Subscript e (.Slice none none (some (.UnaryOp .USub (.Constant (.int 1) k p1) p2)) p3) pos) (eRev m) :=
  ⟨pe_imp (pe_revA ha.run) fun σ H Q ⟨α, F, ρ, κ, Bs, w, sl, h⟩ =>
    tD_mono (fun x H1 ⟨α1, F1, κ1, d, g1, w1, sl1, r1, h1⟩ => by
      cases d with
      | tup ds =>
        obtain ⟨a, xs, rfl, e1, q⟩ := rv_tup w1 r1
        exact ⟨a, xs, rfl, .inr ⟨e1, fun p hp => PO.tupNew w1 h1 q.reverse hp⟩⟩
      | lst ds =>
        obtain ⟨a, xs, rfl, e1, q⟩ := rv_list w1 r1 rfl
        exact ⟨a, xs, rfl, .inl ⟨SqL.of e1, fun p hp => PO.lstNew w1 h1 q.reverse hp⟩⟩
      | bor ds =>
        obtain ⟨a, xs, rfl, e1, q⟩ := rv_list w1 r1 rfl
        exact ⟨a, xs, rfl, .inl ⟨SqL.of e1, fun p hp => PO.lstNew w1 h1 q.reverse hp⟩⟩
      | _ => exact h1.elim) (tD_bind w sl h)⟩
/-! ### xs.index(n), whole numbers -/
def idxOf (n : Int) : List Int → Option Nat
  | [] => none
  | m :: ms => if m = n then some 0 else (idxOf n ms).map (· + 1)
theorem idxOf_some : ∀ {ns : List Int} {n : Int} {j : Nat}, idxOf n ns = some j → ns[j]? = some n ∧ ∀ (k : Nat) (x : Int), k < j → ns[k]? = some x → x ≠ n
  | m :: ms, n, j, h => by
    unfold idxOf at h
    by_cases e : m = n
    · rw [if_pos e] at h; cases h; exact ⟨by simp [e], fun k x hk => by omega⟩
    · rw [if_neg e] at h
      obtain ⟨i, hi, rfl⟩ := Option.map_eq_some_iff.mp h
      obtain ⟨h1, h2⟩ := idxOf_some hi
      refine ⟨by simpa using h1, fun k x hk hx => ?_⟩
      cases k with
      | zero => simp at hx; subst hx; exact e
      | succ k => exact h2 k x (by omega) (by simpa using hx)
def oIndex (ds : List D) (y : D) : Option D := match y with
  | .int n => (intsOf ds).bind fun ns => (idxOf n ns).map fun j => .int (j : Nat)
  | _ => none
def eIndex (ma mb : Ev D) : Ev D := fun ρ κ => (ma ρ κ).bind fun x κ1 => match listOf x with
  | some ds => (aCons mb aNil ρ κ1).bind fun ys κ2 => match ys with
    | [y] => rOf (oIndex ds y) κ2
    | _ => none
  | none => none
theorem d_index {apos cpos : Pos} (ha : PD G W X a ma) (hb : PD G W X b mb) (hbase : attributeBase a "index" X.env (eval a X.env) = eval a X.env := by rfl)
    (hfew : ((backTo cpos (starEach [b] X.env)).all (fun x => !x.1) && (backToKw cpos (keywordEach [] X.env)).all (fun x => x.1.isSome)
      && decide (([b] : List Expr).length + ([] : List Keyword).length + (if ([] : List Keyword).isEmpty then 0 else 1) < 30)) = true := by rfl)
    (hline : (apos.endLine == cpos.line) = true := by rfl) (hs : starEach [b] X.env = (false, eval b X.env) :: starEach [] X.env := by rfl) (hpl : (backTo cpos (starEach [] X.env)).any (·.1) = false := by rfl) :
    PD G W X (.Call (.Attribute a "index" apos) [b] [] cpos) (eIndex ma mb) :=
  ⟨pe_imp (pe_bm PySem.F.plainAttrs_list PySem.F.slot_list_index PySem.F.type_list_index mt_index ha.run (pl_cons hb pl_nil hs).run hbase hfew hline hs hpl) fun σ H Q ⟨α, F, ρ, κ, Bs, w, sl, h⟩ =>
    tD_mono (fun x H1 ⟨α1, F1, κ1, d, g1, w1, sl1, r1, h1⟩ => by
      cases hd : listOf d with
      | none => rw [hd] at h1; exact h1.elim
      | some ds =>
        rw [hd] at h1
        simp only at h1
        obtain ⟨a, xs, rfl, e1, q⟩ := rv_list w1 r1 hd
        refine ⟨.inl ⟨rfl, _, SqL.of e1⟩, ?_⟩
        refine tL_mono (fun zs H2 ⟨α2, F2, κ2, ys, g2, w2, sl2, r2, h2⟩ => ?_) (tL_bind w1 sl1 h1)
        cases ys with
        | nil => exact h2.elim
        | cons y t =>
          cases t with
          | cons _ _ => exact h2.elim
          | nil =>
            cases r2 with
            | cons ry rr =>
              cases rr
              simp only at h2
              cases y with
              | int n =>
                unfold oIndex at h2
                cases hi : intsOf ds with
                | none => simp only [hi] at h2; exact h2.elim
                | some ns =>
                  cases hj : idxOf n ns with
                  | none => simp only [hi, Option.bind_some, hj] at h2; exact h2.elim
                  | some j =>
                    simp only [hi, Option.bind_some, hj, Option.map_some] at h2
                    obtain ⟨k1, k2⟩ := idxOf_some hj
                    have e0 := intsOf_eq hi
                    subst e0
                    have r1' := r1.gr g2
                    obtain ⟨a', xs', ea, e1', q'⟩ := rv_list w2 r1' hd
                    cases ea
                    have ex := q'.ints
                    subst ex
                    refine ⟨a, _, .int n, j, .int n, rfl, by rw [rv_int ry], SqL.of e1', rfl, ?_, by rw [List.getElem?_map, k1]; rfl, ?_, fun m z' hm hz => ?_, h2.ok w2 (Rp.rv (.int _))⟩
                    · rw [List.all_map]; simp [Function.comp_def, flatV]
                    · simp [eqV]
                    · rw [List.getElem?_map] at hz
                      obtain ⟨i, hi', rfl⟩ := Option.map_eq_some_iff.mp hz
                      simp [eqV]
                      exact k2 m i hm hi'
              | _ => exact h2.elim) (tD_bind w sl h)⟩
end
end
end DL
set_option Elab.async false
set_option linter.all false
set_option maxRecDepth 100000
set_option maxHeartbeats 4000000
/-! DLk: tuple * int, any int. -/
namespace DL
noncomputable section
open PySem PySem.Spec PyProof.Rows L2 HT
theorem tuple_mulS (l : Addr) (items : Array Value) (n : Nat) (dd : Option Addr) (sl : Array (Option Value)) (x : Int) (u : Tok) (c0 : (decide (x < -(2 ^ 63)) || decide (x ≥ 2 ^ 63)) = false) (c1 : (items.isEmpty || x == 1) = true) :
    Meets (Builtin.«tuple.__mul__» ⟨[.ref l, .int x u], []⟩) (fun _ R s => s.heap.get? l = some { cls := .type "tuple", dict := dd, data := .seq items n, slots := sl } ∧
      R (.ok (.ret (Value.ref l))) s) :=
  .of_wp fun prog w A R s h => by
    obtain ⟨hp, g, d, tk, os⟩ := s
    obtain ⟨hl, h⟩ := h
    have f1 := AutoSeq1.idx_int
    wp_walk using wpAny_loadPart' hl
    repeat (first
      | (refine wpAny_ite_false (decide_eq_false (by rw [c0]; exact Bool.false_ne_true)) ?_; wp_walk using wpAny_loadPart' hl)
      | (refine wpAny_ite_true (decide_eq_true c1) ?_; wp_walk using wpAny_loadPart' hl))
    exact ⟨_, rfl, h⟩
theorem tuple_mulZ (l : Addr) (items : Array Value) (n : Nat) (dd : Option Addr) (sl : Array (Option Value)) (x : Int) (u : Tok) (c0 : (decide (x < -(2 ^ 63)) || decide (x ≥ 2 ^ 63)) = false) (c1 : (items.isEmpty || x == 1) = false) (c2 : (decide (x ≤ 0) || items.isEmpty) = true) :
    Meets (Builtin.«tuple.__mul__» ⟨[.ref l, .int x u], []⟩) (fun _ R s => s.heap.get? l = some { cls := .type "tuple", dict := dd, data := .seq items n, slots := sl } ∧
      R (.ok (.ret (Value.ref s.heap.objs.size))) { s with heap := s.heap.push { cls := Value.type "tuple", data := Data.seq #[] }, toks := s.toks }) :=
  .of_wp fun prog w A R s h => by
    obtain ⟨hp, g, d, tk, os⟩ := s
    obtain ⟨hl, h⟩ := h
    have f1 := AutoSeq1.idx_int
    wp_walk using wpAny_loadPart' hl
    repeat (first
      | (refine wpAny_ite_false (decide_eq_false (by rw [c0]; exact Bool.false_ne_true)) ?_; wp_walk using wpAny_loadPart' hl)
      | (refine wpAny_ite_false (decide_eq_false (by rw [c1]; exact Bool.false_ne_true)) ?_; wp_walk using wpAny_loadPart' hl)
      | (refine wpAny_ite_true (decide_eq_true c2) ?_; wp_walk using wpAny_loadPart' hl))
    exact ⟨_, rfl, h⟩
def rRepA (K : PySem.W.Frag) : R2 := fun x y H Q => ∃ l k xs, x = .ref l ∧ y = .int k ∧ SqT K H l xs ∧ -1000 ≤ k ∧ k ≤ 1000 ∧ xs.length ≤ 1000 ∧ ((xs = [] ∨ k = 1) → Q (.ref l) H) ∧ (¬ (xs = [] ∨ k = 1) → ∀ p, H p = none → Q (.ref p) (upd H p (.tup (List.replicate k.toNat xs).flatten)))
section
variable {X : Cx}
theorem op_repA : OpR X (binaryOp .Mult) (rRepA X.K) := by
  intro pins s σ H x y v u Q I rx ry h
  obtain ⟨l, k, xs, rfl, rfl, hT, h0, h1, hz, q1, q2⟩ := h
  by_cases hb : xs ≠ [] ∧ 2 ≤ k
  · exact op_repT pins s σ H _ _ v u Q I rx ry ⟨l, k, xs, rfl, rfl, hT, hb.1, hb.2, h1, hz, q2 (by rintro (e | e); exact hb.1 e; omega)⟩
  cases rx
  obtain ⟨t, rfl⟩ := ry
  obtain ⟨its, r, ⟨⟨cls, dd, data, sl⟩, ho, hc, n, hd⟩, hs⟩ := I.tuple hT
  simp only at hc hd
  subst hc hd
  have hle : its.length = xs.length := r.length.symm
  have hemp : its.toArray.isEmpty = decide (xs = []) := by
    cases xs with
    | nil => cases r; rfl
    | cons a b => cases r; rfl
  have c0 : (decide (k < -(2 ^ 63)) || decide (k ≥ 2 ^ 63)) = false := by
    rw [decide_eq_false (by omega), decide_eq_false (by omega)] <;> rfl
  by_cases he : xs = [] ∨ k = 1
  · have c1 : (its.toArray.isEmpty || k == 1) = true := by
      rw [hemp]
      rcases he with e | e <;> simp [e]
    refine wpAny_binaryOp_repeat_ref (T := "tuple") (U := "int") (by decide) ⟨_, ho, rfl⟩ (fun s' => typeIs_int s' k t) noFill_tuple_mul F.fills_int_mul F.slot_int_rmul repeat_tuple F.slot_int_index.lookup
      (call_meets F.slot_int_rmul (typeIs_int s k t) F.entry_int_rmul (F.args_int_rmul_2 _ _) (int_rmul_tuple k t l its.toArray n dd sl)
        ⟨ho, rfl, ⟨_, ho, rfl⟩, call_meets F.slot_tuple_mul ⟨_, ho, rfl⟩ F.entry_tuple_mul (F.args_tuple_mul_2 _ _) (tuple_mulS l its.toArray n dd sl k t c0 c1) ⟨ho, ?_⟩⟩)
    exact ⟨.ref l, H, I, rfl, q1 he⟩
  · have he1 : xs ≠ [] := fun e => he (.inl e)
    have he2 : k ≠ 1 := fun e => he (.inr e)
    have hk : k ≤ 0 := by
      refine Int.not_lt.mp fun q => hb ⟨he1, by omega⟩
    have c1 : (its.toArray.isEmpty || k == 1) = false := by rw [hemp]; simp [he1, he2]
    have c2 : (decide (k ≤ 0) || its.toArray.isEmpty) = true := by simp [hk]
    refine wpAny_binaryOp_repeat_ref (T := "tuple") (U := "int") (by decide) ⟨_, ho, rfl⟩ (fun s' => typeIs_int s' k t) noFill_tuple_mul F.fills_int_mul F.slot_int_rmul repeat_tuple F.slot_int_index.lookup
      (call_meets F.slot_int_rmul (typeIs_int s k t) F.entry_int_rmul (F.args_int_rmul_2 _ _) (int_rmul_tuple k t l its.toArray n dd sl)
        ⟨ho, rfl, ⟨_, ho, rfl⟩, call_meets F.slot_tuple_mul ⟨_, ho, rfl⟩ F.entry_tuple_mul (F.args_tuple_mul_2 _ _) (tuple_mulZ l its.toArray n dd sl k t c0 c1 c2) ⟨ho, ?_⟩⟩)
    have hk0 : k.toNat = 0 := by omega
    refine ⟨.ref s.heap.objs.size, _, I.laid (t' := s.toks) (o := .tup (List.replicate k.toNat xs).flatten) (fun b ob q => Heap.get?_push_of_some _ q) (Nat.le_refl _) ?_, rfl, q2 he _ (I.hok.fresh (Nat.le_refl _))⟩
    rw [hk0]
    exact ⟨Nat.zero_le _, [], .nil, IsTup.new _ _⟩
end
/-- tuple * int -/
def oMulT (x y : D) : Option D := match x, y with
  | .tup ds, .int k => if -1000 ≤ k ∧ k ≤ 1000 ∧ ds.length ≤ 1000 then some (.tup (List.replicate k.toNat ds).flatten) else none
  | _, _ => none
section
variable {G : Gx} {W : XK} {X : Cx} {a b : Expr} {ma mb : Ev D} {pos : Pos}
theorem d_mult (ha : PD G W X a ma) (hb : PD G W X b mb) : PD G W X (.BinOp a .Mult b pos) (eOp oMulT ma mb) := pd_op op_repA (fun G W α F H κ Q d e x y w rx ry h => by
  unfold oMulT at h
  cases d with
  | tup ds =>
    cases e with
    | int k =>
      simp only at h
      split at h
      · rename_i hl
        obtain ⟨a, xs, rfl, e1, q⟩ := rv_tup w rx
        have hl' := q.length
        refine ⟨a, k, xs, rfl, rv_int ry, e1, hl.1, hl.2.1, by rw [← hl']; exact hl.2.2, fun he => ?_, fun he p hp => ?_⟩
        · have e2 : (List.replicate k.toNat ds).flatten = ds := by
            rcases he with e | e
            · subst e
              have : ds = [] := List.eq_nil_of_length_eq_zero hl'
              subst this
              exact List.flatten_eq_nil_iff.mpr fun l hm => (List.mem_replicate.mp hm).2
            · subst e; simp
          rw [e2] at h
          exact PO.ok w h rx
        · exact PO.tupNew w h (q.rep _) hp
      · exact h.elim
    | _ => exact h.elim
  | _ => exact h.elim) ha hb
end
/-! ### list(range(n)), tuple(range(n)) -/
def okG (a b : Int) : Prop := -4611686018427387904 ≤ a ∧ a < 4611686018427387904 ∧ -4611686018427387904 ≤ b ∧ b < 4611686018427387904 ∧ (b - a).toNat ≤ 16777216
instance (a b : Int) : Decidable (okG a b) := Classical.propDecidable _
def fLRg1 (m : Ev D) : Ev (List D) := fun ρ κ => (m ρ κ).bind fun d κ1 => match d with
  | .int n => if okG 0 n then some (.ok (rangeD 0 n), κ1) else none
  | _ => none
def fLRg2 (ma mb : Ev D) : Ev (List D) := fun ρ κ => (ma ρ κ).bind fun d κ1 => (mb ρ κ1).bind fun e κ2 => match d, e with
  | .int i, .int j => if okG i j then some (.ok (rangeD i j), κ2) else none
  | _, _ => none
section
variable {G : Gx} {W : XK} {X : Cx} {a b : Expr} {ma mb : Ev D} {pos p p2 pos2 : Pos}
theorem rpl_range {K : PySem.W.Frag} {α : List Addr} {F : Hp} (lo hi : Int) : RpL K α F (rangeD lo hi) (rgV lo hi) := by
  unfold rangeD rgV
  generalize (hi - lo).toNat = n
  have : ∀ l : List Nat, RpL K α F (l.map fun (k : Nat) => D.int (lo + (k : Int))) (l.map fun (i : Nat) => V.int (lo + (i : Nat))) := fun l => by
    induction l with
    | nil => exact .nil
    | cons x l ih => exact .cons (.int _) ih
  exact this _
theorem w_lrg1 (hm : X.mg "list" = none) (hm2 : X.mg "range" = none) (ha : PD G W X a ma) (hc : X.calm = true := by rfl) (hg : Gl X "list" := by rfl) (hg2 : Gl X "range" := by rfl) (na : starEach [a] X.env = (false, eval a X.env) :: starEach [] X.env := by rfl)
    (na2 : starEach [.Call (.Name "range" p2) [a] [] pos2] X.env = (false, eval (.Call (.Name "range" p2) [a] [] pos2) X.env) :: starEach [] X.env := by rfl) :
    PF G W X (.Call (.Name "list" p) [.Call (.Name "range" p2) [a] [] pos2] [] pos) (fLRg1 ma) :=
  ⟨pe_imp (pe_listRg hc hg hm (prg_1 hg2 hm2 ha.run na) na2) fun σ H Q ⟨α, F, ρ, κ, Bs, w, sl, h⟩ =>
    tD_mono (fun x H1 ⟨α1, F1, κ1, d, g1, w1, sl1, r1, h1⟩ => by
      cases d with
      | int n =>
        simp only at h1
        split at h1
        · rename_i hn
          exact ⟨n, rv_int r1, hn, fun q hq => POF.lstNew w1 h1 (rpl_range _ _) hq⟩
        · exact h1.elim
      | _ => exact h1.elim) (tD_bindF w sl h)⟩
theorem w_lrg2 (hm : X.mg "list" = none) (hm2 : X.mg "range" = none) (ha : PD G W X a ma) (hb : PD G W X b mb) (hc : X.calm = true := by rfl) (hg : Gl X "list" := by rfl) (hg2 : Gl X "range" := by rfl) (na : starEach [a, b] X.env = (false, eval a X.env) :: starEach [b] X.env := by rfl)
    (nb : starEach [b] X.env = (false, eval b X.env) :: starEach [] X.env := by rfl) (hp : (backTo pos2 (starEach [b] X.env)).any (·.1) = false := by rfl)
    (na2 : starEach [.Call (.Name "range" p2) [a, b] [] pos2] X.env = (false, eval (.Call (.Name "range" p2) [a, b] [] pos2) X.env) :: starEach [] X.env := by rfl) :
    PF G W X (.Call (.Name "list" p) [.Call (.Name "range" p2) [a, b] [] pos2] [] pos) (fLRg2 ma mb) :=
  ⟨pe_imp (pe_listRg hc hg hm (prg_2 hg2 hm2 ha.run hb.run na nb hp) na2) fun σ H Q ⟨α, F, ρ, κ, Bs, w, sl, h⟩ =>
    tD_mono (fun x H1 ⟨α1, F1, κ1, d, g1, w1, sl1, r1, h1⟩ => tD_mono (fun y H2 ⟨α2, F2, κ2, e, g2, w2, sl2, r2, h2⟩ => by
      cases d with
      | int i =>
        cases e with
        | int j =>
          simp only at h2
          split at h2
          · rename_i hn
            exact ⟨i, j, rv_int r1, rv_int r2, hn, fun q hq => POF.lstNew w2 h2 (rpl_range _ _) hq⟩
          · exact h2.elim
        | _ => exact h2.elim
      | _ => exact h2.elim) (tD_bindF w1 sl1 h1)) (tD_bindF w sl h)⟩
end
end
end DL
set_option Elab.async false
set_option linter.all false
set_option maxRecDepth 100000
set_option maxHeartbeats 4000000
/-! DLg: simp rows for things of classes, walks, lists; a promise for every G. -/
namespace DL
noncomputable section
open PySem PySem.Spec PyProof.Rows L2
section
variable {ρ : List Sl} {κ : Ka} {m mo mv ma mb : Ev D} {n : Ev (List D)} {c ar : Nat} {f : Str} {fm : List D → Ka → Re D}
@[simp] theorem eAttr_def : eAttr c f m ρ κ = (m ρ κ).bind fun d κ1 => rOf (oAttr c f κ1 d) κ1 := rfl
@[simp] theorem eMeth_def : eMeth c f ar fm mo n ρ κ = (mo ρ κ).bind fun o κ1 => if isIns c f κ1 o = true then (n ρ κ1).bind fun ds κ2 => if ds.length + 1 = ar then fm (o :: ds) κ2 else none else none := rfl
@[simp] theorem eMake_def : eMake c ar fm n ρ κ = (n ρ κ).bind fun ds κ1 => if ds.length + 1 = ar then mkRes κ1.length (fm (.obj κ1.length :: ds) (κ1 ++ [.ins c []])) else none := rfl
@[simp] theorem mkRes_ok {k : Nat} : mkRes k (some (.ok .non, κ)) = some (.ok (.obj k), κ) := rfl
@[simp] theorem sFldS_def : sFldS c f mo mv ρ κ = (mv ρ κ).bindS fun d κ1 => (mo ρ κ1).bindS fun o κ2 => putO c f d o ρ κ2 := rfl
@[simp] theorem sFldA_def {op : D → D → Option D} : sFldA c f op mo mv ρ κ = (mo ρ κ).bindS fun o κ1 => match oAttr c f κ1 o with
  | some x => (mv ρ κ1).bindS fun d κ2 => match op x d with
    | some z => putO c f z o ρ κ2
    | none => none
  | none => none := rfl
@[simp] theorem iEnum1_def {l : Bool} : iEnum1 l m ρ κ = (m ρ κ).bind fun d κ1 => rOfL ((walkE l d).map enumL) κ1 := rfl
@[simp] theorem iZip2_def {l : Bool} : iZip2 l ma mb ρ κ = (ma ρ κ).bind fun x κ1 => (mb ρ κ1).bind fun y κ2 => rOfL (zipD l x y) κ2 := rfl
@[simp] theorem walkE_tup {l : Bool} {ds : List D} : walkE l (.tup ds) = some ds := rfl
@[simp] theorem walkE_lst {l : Bool} {ds : List D} : walkE l (.lst ds) = some ds := rfl
@[simp] theorem walkE_bor {ds : List D} : walkE true (.bor ds) = some ds := rfl
@[simp] theorem zipD_tup {l : Bool} {a b : List D} : zipD l (.tup a) (.tup b) = some (zipL a b) := rfl
@[simp] theorem zipD_lst {l : Bool} {a b : List D} : zipD l (.lst a) (.lst b) = some (zipL a b) := rfl
@[simp] theorem zipD_lb {a b : List D} : zipD true (.lst a) (.bor b) = some (zipL a b) := rfl
@[simp] theorem zipD_bl {a b : List D} : zipD true (.bor a) (.lst b) = some (zipL a b) := rfl
@[simp] theorem zipD_bb {a b : List D} : zipD true (.bor a) (.bor b) = some (zipL a b) := rfl
@[simp] theorem fCat_def : fCat ma mb ρ κ = (ma ρ κ).bind fun x κ1 => (mb ρ κ1).bind fun y κ2 => match listOf x, listOf y with
  | some a, some b => if a.length + b.length ≤ 16777216 then some (.ok (a ++ b), κ2) else none
  | _, _ => none := rfl
@[simp] theorem fRep_def : fRep ma mb ρ κ = (ma ρ κ).bind fun x κ1 => (mb ρ κ1).bind fun y κ2 => match listOf x, y with
  | some a, .int k => if okRep a.length k then some (.ok (List.replicate k.toNat a).flatten, κ2) else none
  | _, _ => none := rfl
@[simp] theorem listOf_lst {ds : List D} : listOf (.lst ds) = some ds := rfl
@[simp] theorem listOf_bor {ds : List D} : listOf (.bor ds) = some ds := rfl
@[simp] theorem eRev_def : eRev m ρ κ = (m ρ κ).bind fun d κ1 => rOf (oRev d) κ1 := rfl
@[simp] theorem oRev_tup {ds : List D} : oRev (.tup ds) = some (.tup ds.reverse) := rfl
@[simp] theorem oRev_lst {ds : List D} : oRev (.lst ds) = some (.lst ds.reverse) := rfl
@[simp] theorem oRev_bor {ds : List D} : oRev (.bor ds) = some (.lst ds.reverse) := rfl
@[simp] theorem eIndex_def : eIndex ma mb ρ κ = (ma ρ κ).bind fun x κ1 => match listOf x with
  | some ds => (aCons mb aNil ρ κ1).bind fun ys κ2 => match ys with
    | [y] => rOf (oIndex ds y) κ2
    | _ => none
  | none => none := rfl
@[simp] theorem fLRg1_def : fLRg1 m ρ κ = (m ρ κ).bind fun d κ1 => match d with
  | .int n => if okG 0 n then some (.ok (rangeD 0 n), κ1) else none
  | _ => none := rfl
end
theorem fnok_all {P : Program} {w : World} {K : PySem.W.Frag} {mg : Str → Option Value} {base : Heap} {CX : CXT} {k : Nat} {f : Addr} {fd : FuncData} {ps : List Str} {sp sp' : Sp} (F : FnOk P w K mg base CX k f fd ps sp) (h : ∀ vs H Q E, sp' vs H Q E → sp vs H Q E) : FnOk P w K mg base CX k f fd ps sp' :=
  ⟨fun vs H Q E q => F.len _ _ _ _ (h _ _ _ _ q), fun A outer s H args us vs Q E hr he hb hv q => F.run A outer s H args us vs Q E hr he hb hv (h _ _ _ _ q)⟩
/-- law's promise, whatever the classes' addresses -/
def spA (K : PySem.W.Frag) (f : List D → Ka → Re D) : Sp := fun vs H Q E => ∀ G, spD G K 1 f vs H Q E
end
end DL
set_option Elab.async false
set_option linter.all false
set_option maxRecDepth 100000
set_option maxHeartbeats 4000000
/-! DLo: a comprehension over a list of the store, which stays while it is walked. -/
namespace DL
noncomputable section
open PySem PySem.Spec PyProof.Rows L2
def stays (k : Nat) (ds : List D) (κ : Ka) : Prop := κ[k]? = some (.lst ds)
instance (k : Nat) (ds : List D) (κ : Ka) : Decidable (stays k ds κ) := Classical.propDecidable _
def cLoopO (k : Nat) (ds0 : List D) (g : Tg) (t : Ev Bool) (e : Ev D) (ρw : List Sl) : List D → List D → Ka → Re (List D)
  | [], acc, κ => if stays k ds0 κ then some (.ok acc, κ) else none
  | d :: ds, acc, κ => if stays k ds0 κ then match g d ρw with
    | none => none
    | some ρ2 => (t ρ2 κ).bindN fun b κ1 => if b = true then (e ρ2 κ1).bindN fun y κ2 => if isBor y = true ∨ 16777216 ≤ acc.length then none else cLoopO k ds0 g t e ρw ds (acc ++ [y]) κ2 else cLoopO k ds0 g t e ρw ds acc κ1
    else none
def goO (vs : List Nat) (g : Tg) (t : Ev Bool) (e : Ev D) (ρ : List Sl) (d : D) (κ : Ka) : Re (List D) := match d with
  | .obj k => match κ[k]? with
    | some (.lst ds) => cLoopO k ds g t e (wipeR ρ vs) ds [] κ
    | _ => none
  | _ => none
def eCompO (vs : List Nat) (m : Ev D) (g : Tg) (t : Ev Bool) (e : Ev D) : Ev (List D) := fun ρ κ => (m ρ κ).bind fun d κ1 => goO vs g t e ρ d κ1
section
variable {G : Gx} {W : XK} {X : Cx} {vs : List Nat} {m : Ev D} {g : Tg} {t : Ev Bool} {e : Ev D} {tg elt iter : Expr} {ifs : List Expr} {scope : Scope} {own : List (Str × Nat)} {pos : Pos}
theorem cell_now {K : PySem.W.Frag} {α : List Addr} {F H : Hp} {κ : Ka} {k : Nat} {a : Addr} {ds : List D} (w : Wd G K α F H κ) (ha : α[k]? = some a) (hs : stays k ds κ) : ∃ xs, H a = some (.lst xs) ∧ RpL K α F ds xs := w.cell ha hs
theorem rv_obj {K : PySem.W.Frag} {α : List Addr} {F H : Hp} {k : Nat} {x : V} (r : Rv K α F H (.obj k) x) : ∃ a, x = .ref a ∧ α[k]? = some a := by
  cases r with | obj h => exact ⟨_, rfl, h⟩
theorem comp_readsO {K : PySem.W.Frag} {gt : TG}
    (hg : ∀ (α : List Addr) (F H Bs : Hp) (κ : Ka) (ρ ρ' : List Sl) (σ : L2.St) (d : D) (v : V) (Q : L2.St → Hp → Prop), Wd G K α F H κ → Sls K α F H Bs ρ σ → Rp K α F d v → g d ρ = some ρ' → (∀ σ', Sls K α F H Bs ρ' σ' → L2.wipe σ' vs = L2.wipe σ vs → Q σ' H) → gt v σ H Q)
    (hw : ∀ σ : L2.St, L2.wipe (L2.wipe σ vs) vs = L2.wipe σ vs) {σ : L2.St} {H : Hp} {Q : VK} (h : tF G W K (eCompO vs m g t e) σ H Q) : tLc (iAnyR K (tD G W K m)) gt (tT G E0 K t) (tD G E0 K e) vs σ H Q := by
  obtain ⟨α, F, ρ, κ, Bs, w, sl, h⟩ := h
  refine tD_mono (fun x H1 ⟨α1, F1, κ1, d, g1, w1, sl1, r1, h1⟩ => ?_) (tD_bindF w sl h)
  unfold goO at h1
  cases d with
  | obj k =>
    simp only at h1
    split at h1
    · rename_i ds hk
      obtain ⟨a, rfl, ha⟩ := rv_obj r1
      · obtain ⟨xs0, hx0, _⟩ := w1.cell ha hk
        refine .inl ⟨a, xs0, rfl, SqL.of hx0, fun D hD => ?_⟩
        have fD : F1 D = none := w1.sub.free hD
        have nD : D ∉ α1 := fun m => w1.dom m hD
        refine ⟨fun i m H => m = ds.length - i ∧ i ≤ ds.length ∧ ∃ α2 F2 κ2 acc accV, Gr α1 F1 H1 α2 F2 H ∧ Wd G K α2 F2 H κ2 ∧ Sls K α2 F2 H Bs ρ σ ∧ H D = some (.lst accV) ∧ D ∉ α2 ∧ F2 D = none ∧ RpL K α2 F2 acc accV ∧
            POF G W K α1 F1 H1 Q (cLoopO k ds g t e (wipeR ρ vs) (ds.drop i) acc κ2), ⟨ds.length, by simp, Nat.zero_le _, ?_⟩, ?_⟩
        · obtain ⟨g2, w2⟩ := Gr.newH (o := .lst []) w1 hD
          exact ⟨α1, F1, κ1, [], [], g2, w2, sl1.gr g2, upd_same, nD, fD, .nil, h1⟩
        · rintro i m H2 ⟨rfl, hi, α2, F2, κ2, acc, accV, g2, w2, sl2, e2, n2, f2, r2, h2⟩
          have ha2 : α2[k]? = some a := by
            obtain ⟨β, rfl, _⟩ := g2.al
            rw [List.getElem?_append_left (List.getElem?_eq_some_iff.mp ha).1]; exact ha
          by_cases hlt : i < ds.length
          · have hd : ds[i]? = some ds[i] := List.getElem?_eq_getElem hlt
            have hdr : ds.drop i = ds[i] :: ds.drop (i + 1) := List.drop_eq_getElem_cons hlt
            rw [hdr] at h2
            simp only [cLoopO] at h2
            split at h2
            · rename_i hst
              obtain ⟨xs, hx, rx⟩ := cell_now w2 ha2 hst
              obtain ⟨v, hv, rv⟩ := rx.get hd
              rcases hgd : g ds[i] (wipeR ρ vs) with _ | ρ2
              · rw [hgd] at h2; exact h2.elim
              · rw [hgd] at h2
                refine .inr ⟨⟨xs, v, SqL.of hx, hv⟩, fun H' => ∃ m', m' < ds.length - i ∧ (m' = ds.length - (i + 1) ∧ i + 1 ≤ ds.length ∧ ∃ α2 F2 κ2 acc accV, Gr α1 F1 H1 α2 F2 H' ∧ Wd G K α2 F2 H' κ2 ∧ Sls K α2 F2 H' Bs ρ σ ∧ H' D = some (.lst accV) ∧ D ∉ α2 ∧ F2 D = none ∧ RpL K α2 F2 acc accV ∧
                  POF G W K α1 F1 H1 Q (cLoopO k ds g t e (wipeR ρ vs) (ds.drop (i + 1)) acc κ2)), fun H' h => h, fun x H3 hy => ?_⟩
                obtain ⟨rfl, fy⟩ := hy
                have ev := fy xs (SqL.of hx)
                rw [hv] at ev; cases ev
                refine hg α2 F2 _ Bs κ2 _ ρ2 _ _ v _ w2 (sl2.wipe vs) rv hgd fun σ3 sl3 hw3 => ⟨hw3.trans (hw σ), ?_⟩
                refine tT_mono (fun b H4 hb => ?_) (tT_bindN w2 sl3 h2)
                obtain ⟨α4, F4, κ4, g4, w4, sl4, h4⟩ := hb
                have e4 : H4 D = some (.lst accV) := g4.ke _ _ e2 n2
                have n4 : D ∉ α4 := g4.notin (by rw [e2]; simp) n2
                have f4 : F4 D = none := g4.fn _ f2 (by rw [e2]; simp)
                cases b with
                | false =>
                  rw [if_neg Bool.false_ne_true]
                  exact ⟨_, by omega, rfl, hlt, α4, F4, κ4, acc, accV, g2.trans g4, w4, sl2.gr g4, e4, n4, f4, r2.gr g4, h4⟩
                | true =>
                  rw [if_pos rfl]
                  refine tD_mono (fun y H5 hy5 => ?_) (tD_bindN w4 sl4 h4)
                  obtain ⟨α5, F5, κ5, d5, g5, w5, sl5, r5, h5⟩ := hy5
                  split at h5
                  · exact h5.elim
                  · rename_i hnb
                    have hnb1 : isBor d5 = false := by
                      cases q : isBor d5 with
                      | false => rfl
                      | true => exact absurd (.inl q) hnb
                    have hnb2 : acc.length < 16777216 := Nat.lt_of_not_le fun q => hnb (.inr q)
                    have e5 : H5 D = some (.lst accV) := g5.ke _ _ e4 n4
                    have n5 : D ∉ α5 := g5.notin (by rw [e4]; simp) n4
                    have f5 : F5 D = none := g5.fn _ f4 (by rw [e4]; simp)
                    have r5' := (r2.gr g4).gr g5
                    have g15 := (g2.trans g4).trans g5
                    refine ⟨accV, e5, by rw [sizeLine_eq, ← r5'.length]; exact hnb2, _, by omega, rfl, hlt, α5, F5, κ5, acc ++ [d5], accV ++ [y], g15.out hD, w5.out n5 f5, ?_, upd_same, n5, f5, r5'.append (.cons (r5.rp hnb1) .nil), h5⟩
                    exact sl1.gr (g15.out hD)
            · exact h2.elim
          · have ei : i = ds.length := by omega
            subst ei
            rw [List.drop_length] at h2
            simp only [cLoopO] at h2
            split at h2
            · rename_i hst
              obtain ⟨xs, hx, rx⟩ := cell_now w2 ha2 hst
              exact .inl ⟨⟨xs, SqL.of hx, by rw [rx.length]; exact Nat.le_refl _⟩, h2 α2 F2 H2 g2 w2 D accV e2 f2 n2 hD r2⟩
            · exact h2.elim
    · exact h1.elim
  | _ => exact h1.elim
theorem f_compO {gt : TG} {js : List Nat} (hc : X.calm = true) (hN : X.N.Nodup) (ha : PD G W X iter m) (ok : BlkOk X.N X.env.scope scope own)
    (hg : ∀ (s : Shared) (H : Hp) (C : Addr) (cl : List (Str × Addr)) (fp : List Addr), PGd (X.blk s H scope (compEnvC scope cl C X.env) fp) tg gt g js) (hj : ∀ j ∈ js, j ∈ own.map (·.2))
    (ht : ∀ (s : Shared) (H : Hp) (C : Addr) (cl : List (Str × Addr)) (fp : List Addr), PTsd G (X.blk s H scope (compEnvC scope cl C X.env) fp) ifs t)
    (he : ∀ (s : Shared) (H : Hp) (C : Addr) (cl : List (Str × Addr)) (fp : List Addr), PD G E0 (X.blk s H scope (compEnvC scope cl C X.env) fp) elt e) (hs : ∀ x, foldedSetIterable iter X.env x = pure x := by intro _; rfl) :
    PF G W X (.ListComp elt [⟨tg, iter, ifs, 0⟩] scope pos) (eCompO (own.map (·.2)) m g t e) :=
  ⟨⟨fun pins s σ H Q I h => (pe_lc (g := gt) (tt := tT G E0 X.K t) (te := tD G E0 X.K e) hc hN (pi_any ha.run) ok (fun s H C cl fp => (hg s H C cl fp).pg) (fun s H C cl fp => (ht s H C cl fp).run) (fun s H C cl fp => (he s H C cl fp).run) hs).run pins s σ H Q I
    (comp_readsO (fun α F H Bs κ ρ ρ' σ d v Q w sl r e hq => (hg s H 0 [] []).ok G α F H Bs κ ρ ρ' σ d v Q w sl r e fun σ' sl' hw => hq σ' sl' (hw _ hj)) (fun σ => wipe_wipe _ _ fun j hj => hj) h)⟩⟩
theorem w_compO {gt : TG} {js : List Nat} (own' : own = own := rfl) (hN : X.N.Nodup) (ha : PD G W X iter m) (ok : blkC X.N X.env.scope scope own = true)
    (hg : ∀ (s : Shared) (H : Hp) (C : Addr) (cl : List (Str × Addr)) (fp : List Addr), PGd (X.blk s H scope (compEnvC scope cl C X.env) fp) tg gt g js)
    (ht : ∀ (s : Shared) (H : Hp) (C : Addr) (cl : List (Str × Addr)) (fp : List Addr), PTsd G (X.blk s H scope (compEnvC scope cl C X.env) fp) ifs t)
    (he : ∀ (s : Shared) (H : Hp) (C : Addr) (cl : List (Str × Addr)) (fp : List Addr), PD G E0 (X.blk s H scope (compEnvC scope cl C X.env) fp) elt e) (hj : ∀ j ∈ js, j ∈ own.map (·.2) := by decide) (hc : X.calm = true := by rfl) (hs : ∀ x, foldedSetIterable iter X.env x = pure x := by intro _; rfl) :
    PF G W X (.ListComp elt [⟨tg, iter, ifs, 0⟩] scope pos) (eCompO (own.map (·.2)) m g t e) := f_compO hc hN ha (blkOk_by ok) hg hj ht he hs
/-- such a comprehension without a test, whose steps leave the store -/
theorem cLoopO_eq {k : Nat} {ds0 : List D} {ρw : List Sl} {κ : Ka} (hk : stays k ds0 κ) (f : D → D) : ∀ (ds acc : List D), acc.length + ds.length ≤ 16777216 →
    (∀ d ∈ ds, ∃ ρ2, g d ρw = some ρ2 ∧ isBor (f d) = false ∧ e ρ2 κ = some (.ok (f d), κ)) → cLoopO k ds0 g bYes e ρw ds acc κ = some (.ok (acc ++ ds.map f), κ)
  | [], acc, _, _ => by unfold cLoopO; rw [if_pos hk]; simp
  | d :: ds, acc, hl, h => by
    obtain ⟨ρ2, e1, e2, e3⟩ := h d (by simp)
    have hl' : acc.length + ds.length + 1 ≤ 16777216 := by simpa [Nat.add_assoc] using hl
    unfold cLoopO
    rw [if_pos hk, e1]
    simp only [bYes, Re.bindN, e3, if_true]
    rw [if_neg (by simp [e2]; omega)]
    rw [cLoopO_eq hk f ds (acc ++ [f d]) (by simp; omega) fun d hd => h d (by simp [hd])]
    simp
theorem eCompO_map {ρ : List Sl} {κ κ1 : Ka} {k : Nat} {ds : List D} (f : D → D) (hm : m ρ κ = some (.ok (.obj k), κ1)) (hk : κ1[k]? = some (.lst ds)) (hl : ds.length ≤ 16777216)
    (h : ∀ d ∈ ds, ∃ ρ2, g d (wipeR ρ vs) = some ρ2 ∧ isBor (f d) = false ∧ e ρ2 κ1 = some (.ok (f d), κ1)) : eCompO vs m g bYes e ρ κ = some (.ok (ds.map f), κ1) := by
  unfold eCompO
  rw [hm]
  simp only [Re.bind, goO, hk]
  rw [cLoopO_eq hk f ds [] (by simpa using hl) h]
  simp
end
end
end DL
set_option Elab.async false
set_option linter.all false
set_option maxRecDepth 100000
set_option maxHeartbeats 4000000
/-! DLx: raise, defs that may raise, try: .. except X as e: return <isinstance(e, ..)>. -/
namespace DL
noncomputable section
open PySem PySem.Spec PyProof.Rows L2
def sRaise (c : Nat) : Es := fun _ κ => some (.er c, κ)
/-- what is told of the error's class is returned -/
def sTryR (h : Nat → Option Bool) (m : Es) : Es := fun ρ κ => match m ρ κ with
  | some (.er c, κ1) => match h c with
    | some b => some (.rt (.bl b), κ1)
    | none => none
  | r => r
/-- what the text says of an error's class -/
structure ExF (K : PySem.W.Frag) (mg : Str → Option Value) (x : Str) (C : Addr) : Prop where
  g : mg x = some (.ref C)
  e : PySem.W.excIn K C [.type "ValueError", .type "Exception", .type "BaseException", .type "object"] "ValueError.__new__" = true
  k : PySem.W.keepIn K (.ref C) = true
  b : PySem.W.subIn K (.ref C) (.type "BaseException") = some true
  t : PySem.W.typeIn K (.ref C) = some (.type "type")
section
variable {G : Gx} {W : XK} {X : Cx} {e a b : Expr} {es : List Expr} {m mo : Ev D} {n : Ev (List D)} {pos p p2 p3 apos : Pos} {c j k ar i : Nat} {x mn : Str} {fm : List D → Ka → Re D}
theorem s_raise {ms : Str} {jj : Nat} (F : ExF X.K X.mg x (G.exc c)) (tk : Takes X (fun cls d _ H => W cls d H)) (hc : X.calm = true := by rfl) (hg : Gl X x := by rfl) (hdb : (x == ("__debug__" : Str)) = false := by decide) :
    PSd G W X (.Raise (some (.Call (.Name x p) [.Constant (.str ms) jj p2] [] p3)) none pos) (sRaise c) :=
  ⟨ps_imp (ps_raise (W := fun cls d _ H => W cls d H) hc tk (pmk_own PySem.F.excBase_ValueError F.e F.g F.k (raises_own F.b F.t) hg hdb)) fun D σ H ⟨α0, F0, Bs, α, Fh, ρ, κ, gb, w, sl, h⟩ => h α Fh H gb (Exn.refl _ _) w⟩
theorem passX (tk : Takes X (fun cls d _ H => W cls d H)) : Passes (L2.CX X.prog X.w) X W := passes_call tk (fun _ _ _ _ h => h)
end
/-! ### defs that may raise -/
structure FDX (P : Program) (w : World) (K : PySem.W.Frag) (mg : Str → Option Value) (base : Heap) (G : Gx) (k : Nat) (x : Str) (ar : Nat) (fm : List D → Ka → Re D) : Prop where
  ex : ∃ f fd ps, FnOk P w K mg base (L2.CX P w) k f fd ps (spD G K ar fm) ∧ mg x = some (.ref f) ∧ PySem.W.keepIn K (.ref f) = true ∧ Binds K fd ps []
structure FMX (P : Program) (w : World) (K : PySem.W.Frag) (mg : Str → Option Value) (base : Heap) (G : Gx) (k : Nat) (c : Nat) (m : Str) (ar : Nat) (fm : List D → Ka → Re D) : Prop where
  ex : ∃ f fd ps, FnOk P w K mg base (L2.CX P w) k f fd ps (spD G K ar fm) ∧ Meth K (G.cls c) m f ∧ Binds K fd ps []
section
variable {P : Program} {w : World} {K : PySem.W.Frag} {mg : Str → Option Value} {base : Heap} {G : Gx} {j k ar c : Nat} {x m : Str} {fm : List D → Ka → Re D}
theorem fn_okX {qual : Str} {st : Stmt} {f : Addr} {fd : FuncData} {N ps : List Str} {s : Es} (F : Fun K x qual st f fd) (S : FnScope N ps (defScope st))
    (hb : ∀ (cdv : Value) (A : Around) (outer : List Env) (s0 : Shared) (H : Hp) (E : XK), Room k (A.deeper (envOfC qual (defScope st) s0.heap.objs.size f cdv)) → PSsd G E (cxOf (L2.CX P w) P w K mg base N qual (defScope st) f cdv A outer s0 H E) (defBody st) s) :
    FnOk P w K mg base (L2.CX P w) (k + 1) f fd ps (spD G K ps.length (fun ds κ => mean N.length s ds κ)) := by
  refine F.okX S (fun vs H Q E h => h.1) (fun cdv A outer s0 H vs Q E hr h => ?_)
  obtain ⟨hl, α, Fh, κ, ds, w0, r, h⟩ := h
  refine ⟨_, (hb cdv A outer s0 H E hr).run, α, Fh, H, α, Fh, slots N.length ds, κ, Gr.refl _ _ _, w0, sls_start r, ?_⟩
  unfold mean at h
  rcases hm : s (slots N.length ds) κ with _ | ⟨o, κ'⟩
  · simp only [hm] at h; exact h
  · simp only [hm] at h
    cases o with
    | nx ρ => exact fun α' F' H' g x w' σ' sl' => h α' F' H' g w' _ .non
    | rt d => exact fun α' F' H' g x w' v r' => h α' F' H' g w' _ r'.rv
    | bk ρ => exact h.elim
    | ct ρ => exact h.elim
    | er c => exact fun α' F' H' g x w' => h α' F' H' g w'
theorem fn_fdX {qual : Str} {st : Stmt} {f : Addr} {fd : FuncData} {N ps : List Str} {s : Es} (F : Fun K x qual st f fd) (S : FnScope N ps (defScope st)) (b : Binds K fd ps []) (m : mg x = some (.ref f))
    (hb : ∀ (cdv : Value) (A : Around) (outer : List Env) (s0 : Shared) (H : Hp) (E : XK), Room k (A.deeper (envOfC qual (defScope st) s0.heap.objs.size f cdv)) → PSsd G E (cxOf (L2.CX P w) P w K mg base N qual (defScope st) f cdv A outer s0 H E) (defBody st) s) :
    FDX P w K mg base G (k + 1) x ps.length (fun ds κ => mean N.length s ds κ) := ⟨f, fd, ps, fn_okX F S hb, m, F.kp, b⟩
theorem fm_ofX {qual : Str} {st : Stmt} {f : Addr} {fd : FuncData} {N ps : List Str} {s : Es} (F : Fun K m qual st f fd) (S : FnScope N ps (defScope st)) (b : Binds K fd ps []) (hm : Meth K (G.cls c) m f)
    (hb : ∀ (cdv : Value) (A : Around) (outer : List Env) (s0 : Shared) (H : Hp) (E : XK), Room k (A.deeper (envOfC qual (defScope st) s0.heap.objs.size f cdv)) → PSsd G E (cxOf (L2.CX P w) P w K mg base N qual (defScope st) f cdv A outer s0 H E) (defBody st) s) :
    FMX P w K mg base G (k + 1) c m ps.length (fun ds κ => mean N.length s ds κ) := ⟨f, fd, ps, fn_okX F S hb, hm, b⟩
end
section
variable {G : Gx} {W : XK} {X : Cx} {o e a b : Expr} {es : List Expr} {m mo : Ev D} {n : Ev (List D)} {pos p p2 p3 apos : Pos} {c j k ar i : Nat} {x mn : Str} {fm : List D → Ka → Re D}
theorem d_callX (F : FDX X.prog X.w X.K X.mg X.base G j x ar fm) (hr : Room k X.A) (tk : Takes X (fun cls d _ H => W cls d H)) (ha : PDL G W X (e :: es) n) (hjk : j ≤ k := by decide) (hg : Gl X x := by rfl)
    (hdb : (x == ("__debug__" : Str)) = false := by decide) (he : starEach (e :: es) X.env = (false, eval e X.env) :: starEach es X.env := by rfl) (hpl : (backTo pos (starEach es X.env)).any (·.1) = false := by rfl) :
    PD G W X (.Call (.Name x p) (e :: es) [] pos) (eCall ar fm n) := by
  obtain ⟨f, fd, ps, h1, h2, h3, h4⟩ := F.ex
  exact pd_call h1 (hr.mono hjk) hg h2 h3 h4 (passX tk) ha hdb he hpl
theorem d_methX {pl : Sem Bool} (F : FMX X.prog X.w X.K X.mg X.base G j c mn ar fm) (hr : Room k X.A) (tk : Takes X (fun cls d _ H => W cls d H)) (cl : Cls X.K (G.cls c)) (ho : PD G W X o mo) (ha : PDL G W X (e :: es) n) (hjk : j ≤ k := by decide)
    (hst : starEach (e :: es) X.env = (false, eval e X.env) :: starEach es X.env := by rfl) (hpl : (backTo pos (starEach es X.env)).any (·.1) = false := by rfl)
    (ht : eval (.Call (.Attribute o mn apos) (e :: es) [] pos) X.env = (do
      let ov ← eval o X.env
      standAt apos.atName
      let (f, first) ← holding [ov] (getMethod ov mn pl)
      callWith pos f first (backTo pos (starEach (e :: es) X.env)) (backToKw pos (keywordEach [] X.env))) := by rfl) :
    PD G W X (.Call (.Attribute o mn apos) (e :: es) [] pos) (eMeth c mn ar fm mo n) := by
  obtain ⟨f, fd, ps, h1, h2, h3⟩ := F.ex
  exact pd_meth (pl := pl) ho cl h2 h1 (hr.mono hjk) h3 (passX tk) ha hst hpl ht
theorem d_methX0 {pl : Sem Bool} (F : FMX X.prog X.w X.K X.mg X.base G j c mn 1 fm) (hr : Room k X.A) (tk : Takes X (fun cls d _ H => W cls d H)) (cl : Cls X.K (G.cls c)) (ho : PD G W X o mo) (hjk : j ≤ k := by decide)
    (ht : eval (.Call (.Attribute o mn apos) [] [] pos) X.env = (do
      let ov ← eval o X.env
      standAt apos.atName
      let (f, first) ← holding [ov] (getMethod ov mn pl)
      callWith pos f first (backTo pos (starEach [] X.env)) (backToKw pos (keywordEach [] X.env))) := by rfl) :
    PD G W X (.Call (.Attribute o mn apos) [] [] pos) (eMeth c mn 1 fm mo aNil) := by
  obtain ⟨f, fd, ps, h1, h2, h3⟩ := F.ex
  exact pd_meth0 (pl := pl) ho cl h2 h1 (hr.mono hjk) h3 (passX tk) ht
end
/-! ### try -/
/-- what is told of the caught error e, in slot i -/
def tEr (i : Nat) (a : Addr) (b : Bool) : TE := fun σ H Q => σ[i]? = some (some (.ref a)) ∧ Q (.bl b) H
section
variable {X : Cx} {i : Nat} {a D : Addr} {oe : Obj} {pn : List (Addr × Obj)} {n x y : Str} {p p1 p2 p3 pos : Pos} {b b1 b2 : Bool} {e1 e2 : Expr}
theorem e_isx {A : Addr} (C : ExcC X.K D) (hz : Zc (.ref D) none oe) (hf : ∃ vs, oe.data = .fields vs) (hk : PySem.W.kitOne X.K (.ref D) (.ref A) = some b) (hm : X.mg "isinstance" = none) (gA : X.mg x = some (.ref A))
    (hi : X.N[i]? = some n := by rfl) (hv : Vis X.env.scope n := by first | exact Or.inl rfl | exact Or.inr (Or.inl rfl) | exact Or.inr (Or.inr rfl)) (hg : Gl X "isinstance" := by rfl) (hgx : Gl X x := by rfl) (hdb : (x == ("__debug__" : Str)) = false := by decide) (hdn : (n == ("__debug__" : Str)) = false := by decide) (hcd : (n == ("__classdict__" : Str)) = false := by decide)
    (hs : starEach [.Name n p1, .Name x p2] X.env = (false, eval (.Name n p1) X.env) :: starEach [.Name x p2] X.env := by rfl) (hs2 : starEach [.Name x p2] X.env = (false, eval (.Name x p2) X.env) :: starEach [] X.env := by rfl)
    (hpl : (backTo pos (starEach [.Name x p2] X.env)).any (·.1) = false := by rfl) :
    PE (X.suite a ((a, oe) :: pn)) (.Call (.Name "isinstance" p) [.Name n p1, .Name x p2] [] pos) (tEr i a b) :=
  pe_imp (pe_callB (X := X.suite a ((a, oe) :: pn)) (call_isE C hz hf) hg hm PyProof.Rows.boot_isinstance (pa_cons (pe_var (i := i) hi hv hdn hcd) (pa_cons (pe_glob (v := .ref A) (u := .ref A) hgx gA rfl hdb) pa_nil hs2) hs) (hpl := hpl) (he := hs)) fun σ H Q ⟨h1, h2⟩ =>
    ⟨_, h1, .ref A, .ref A, b, rfl, fun u r => by cases r; rfl, hk, h2⟩
theorem e_isAnd (h1 : PE (X.suite a ((a, oe) :: pn)) e1 (tEr i a b1)) (h2 : PE (X.suite a ((a, oe) :: pn)) e2 (tEr i a b2)) (hb : (b1 && !b2) = b) : PE (X.suite a ((a, oe) :: pn)) (.BoolOp .And [e1, .UnaryOp .Not e2 p2] pos) (tEr i a b) :=
  pe_imp (pe_and h1 (pe_one (pe_not h2))) fun σ H Q ⟨q1, q2⟩ => by
    refine ⟨q1, b1, rfl, ?_⟩
    cases b1 with
    | false =>
      rw [if_neg (by simp)]
      have : b = false := by rw [← hb]; rfl
      rw [← this]; exact q2
    | true =>
      rw [if_pos rfl]
      refine ⟨q1, b2, rfl, ?_⟩
      have : b = !b2 := by rw [← hb]; simp
      rw [← this]; exact q2
end
section
variable {G : Gx} {X : Cx} {body : List Stmt} {m : Es} {ex : Expr} {x n : Str} {np pos pos' rpos : Pos} {i : Nat} {D : Addr}
theorem s_try (h : Nat → Option Bool) (hm : X.mg x = some (.ref D)) (hx : ∀ c b, h c = some b → PySem.W.exmOne X.K (.ref (G.exc c)) (.ref D) = some true) (hN : X.N.Nodup)
    (hb : ∀ (W : XK) (pn : List (Addr × Obj)) (xe : Value → Shared → Prop), Takes (X.tr pn xe) (fun cls d _ H => W cls d H) → PassesOwn (model X.prog X.w) X.A X.env xe → PSsd G W (X.tr pn xe) body m)
    (he : ∀ c b, h c = some b → ∀ (a : Addr) (oe : Obj) (pn : List (Addr × Obj)), Zc (.ref (G.exc c)) none oe → (∃ vs, oe.data = .fields vs) → PE (X.suite a ((a, oe) :: pn)) ex (tEr i a b))
    (hi : X.N[i]? = some n := by rfl) (hln : X.env.kindOf n = some .local := by rfl) (hs : X.stack = X.env :: X.outer := by rfl) (hf : X.env.frame = some X.env.locals := by rfl) (hg : Gl X x := by rfl) (hdb : (x == ("__debug__" : Str)) = false := by decide) :
    PSd G E0 X (.Try body [.ExceptHandler (some (.Name x np)) (some n) [.Return (some ex) rpos] pos'] [] [] pos) (sTryR h m) := by
  have hil : i < X.N.length := (List.getElem?_eq_some_iff.mp hi).1
  let ts : Addr → Value → Option Addr → TS := fun a cls d => fun Dn σ H => ∃ c b, cls = .ref (G.exc c) ∧ d = none ∧ h c = some b ∧ σ[i]? = some (some (.ref a)) ∧ Dn.rt (.bl b) H
  refine ⟨ps_imp (ps_try_as (i := i) (tb := fun W => tS G (fun cls d H => ∀ σ : L2.St, σ.length = X.N.length → W cls d σ H) X.K m) (ts := ts) (Wout := fun _ _ _ _ => False) hs hf hN hi hln ⟨hg, hdb, .inl hm⟩ takes0 (fun W pn xe tk po => ?_) (fun a oe cls d pn hz hf' => ?_)) ?_⟩
  · refine (hb (fun cls d H => ∀ σ : L2.St, σ.length = X.N.length → W cls d σ H) pn xe (fun u s' ⟨a, B, sI, pins, σ, H, cls, d, e, I, nb, up, sky, na, os, ag, w⟩ => tk u s' ⟨a, B, sI, pins, σ, H, cls, d, e, I, nb, up, sky, na, os, ag, w σ I.len⟩) po).run
  · refine ⟨fun pins s σ H Dn I ⟨c, b, e1, e2, e3, e4, e5⟩ => ?_⟩
    subst e1 e2
    exact (pss_one (ps_ret (he c b e3 a oe pn hz hf'))).run pins s σ H Dn I ⟨e4, e5⟩
  · rintro Dn σ H ⟨α0, F0, Bs, α, F, ρ, κ, gb, w, sl, h0⟩
    refine ⟨α0, F0, Bs, α, F, ρ, κ, gb, w, sl, ?_⟩
    unfold sTryR at h0
    rcases hmm : m ρ κ with _ | ⟨o, κ'⟩
    · rw [hmm] at h0; exact h0
    · rw [hmm] at h0
      cases o with
      | nx ρ' => exact h0
      | rt d => exact h0
      | bk ρ' => exact h0
      | ct ρ' => exact h0
      | er c =>
        simp only at h0
        cases hc : h c with
        | none => rw [hc] at h0; exact h0.elim
        | some b =>
          rw [hc] at h0
          simp only at h0
          intro α' F' H' g xx w' σ' hσ
          refine ⟨true, hx c b hc, fun _ a ha => ⟨c, b, rfl, rfl, hc, ?_, h0 α' F' H' g xx w' _ (.bl b)⟩, fun q => by cases q⟩
          rw [List.getElem?_set_self (by omega)]
end
/-- errors' numbers, and what is told of them -/
def tl (tab : List (Nat × Bool)) : Nat → Option Bool := fun c => tab.lookup c
def AllT (P : Nat → Bool → Prop) : List (Nat × Bool) → Prop
  | [] => True
  | (c, b) :: t => P c b ∧ AllT P t
theorem AllT.of {P : Nat → Bool → Prop} : ∀ {tab : List (Nat × Bool)}, AllT P tab → ∀ c b, tl tab c = some b → P c b
  | [], _, c, b, h => by cases h
  | (c0, b0) :: t, ⟨h0, h1⟩, c, b, h => by
    unfold tl at h
    rw [List.lookup_cons] at h
    split at h
    · rename_i e
      have e := beq_iff_eq.mp e
      subst e
      cases h; exact h0
    · exact AllT.of h1 c b h
section
variable {K : PySem.W.Frag} {C A : Addr} {b : Bool}
theorem kit_self : PySem.W.kitOne K (.ref C) (.ref C) = some true := by unfold PySem.W.kitOne; rw [if_pos (beq_self_eq_true _)]
theorem kit_ref (hne : C ≠ A) (hd : PySem.W.hasDictIn K A = true) (ht : PySem.W.typeIn K (.ref A) = some (.type "type")) (h : PySem.W.subIn K (.ref C) (.ref A) = some b) : PySem.W.kitOne K (.ref C) (.ref A) = some b := by
  obtain ⟨cd, hc, _⟩ := PySem.W.any_some hd
  unfold PySem.W.kitOne
  rw [if_neg (fun q => hne (Value.ref.inj (beq_iff_eq.mp q)))]
  show (if ((PySem.W.clsIn K A).isSome && PySem.W.typeIn K (.ref A) == some (.type "type")) = true then PySem.W.subIn K (.ref C) (.ref A) else none) = some b
  rw [if_pos (by rw [hc, ht]; rfl)]
  exact h
/-- .. whatever the addresses are -/
theorem kit_any (hd : PySem.W.hasDictIn K A = true) (ht : PySem.W.typeIn K (.ref A) = some (.type "type")) (h : PySem.W.subIn K (.ref C) (.ref A) = some b) (hs : PySem.W.subIn K (.ref C) (.ref C) = some true) : PySem.W.kitOne K (.ref C) (.ref A) = some b := by
  by_cases e : C = A
  · subst e
    rw [hs] at h; cases h
    exact kit_self
  · exact kit_ref e hd ht h
end
section
variable {ρ : List Sl} {κ : Ka} {m : Es} {h : Nat → Option Bool} {c : Nat}
@[simp] theorem sRaise_def : sRaise c ρ κ = some (.er c, κ) := rfl
end
end
end DL
set_option Elab.async false
set_option linter.all false
set_option maxRecDepth 100000
set_option maxHeartbeats 4000000
/-! DLy: sorted of whole numbers (lists, tuples), sorted(set(..)), len(set(..)). -/
namespace DL
noncomputable section
open PySem PySem.Spec PyProof.Rows L2
/-! ### plain: sorted -/
def srt (ns : List Int) : List Int := ns.mergeSort fun a b => decide (a ≤ b)
theorem srt_perm (ns : List Int) : (srt ns).Perm ns := List.mergeSort_perm _ _
theorem srt_pair (ns : List Int) : (srt ns).Pairwise (· ≤ ·) := by
  have := List.pairwise_mergeSort (le := fun a b : Int => decide (a ≤ b)) (fun a b c h1 h2 => by simp at h1 h2 ⊢; omega) (fun a b => by simp; omega) ns
  exact this.imp fun h => by simpa using h
theorem srt_uniq {a b : List Int} (p : a.Perm b) (h1 : a.Pairwise (· ≤ ·)) (h2 : b.Pairwise (· ≤ ·)) : a = b :=
  List.Perm.eq_of_pairwise (fun x y _ _ h1 h2 => Int.le_antisymm h1 h2) h1 h2 p
theorem srt_eq {ns ns' : List Int} (p : ns'.Perm ns) (h : ns'.Pairwise (· ≤ ·)) : ns' = srt ns := srt_uniq (p.trans (srt_perm ns).symm) h (srt_pair ns)
/-- the members, each once, ascending -/
def dst (ns : List Int) : List Int := srt ns.eraseDups
theorem dst_mem {ns : List Int} {k : Int} : k ∈ dst ns ↔ k ∈ ns := by unfold dst; rw [(srt_perm _).mem_iff, List.mem_eraseDups]
theorem eraseDups_nodup : ∀ (n : Nat) (ns : List Int), ns.length ≤ n → ns.eraseDups.Nodup
  | _, [], _ => by simp
  | n + 1, a :: ns, h => by
    rw [List.eraseDups_cons, List.nodup_cons]
    refine ⟨?_, eraseDups_nodup n _ (Nat.le_trans (List.length_filter_le _ _) (by simpa using h))⟩
    rw [List.mem_eraseDups]
    simp
theorem dst_nodup (ns : List Int) : (dst ns).Nodup := (srt_perm _).nodup_iff.mpr (eraseDups_nodup _ ns (Nat.le_refl _))
theorem dst_pair (ns : List Int) : (dst ns).Pairwise (· ≤ ·) := srt_pair _
theorem nodup_perm {a b : List Int} (ha : a.Nodup) (hb : b.Nodup) (h : ∀ k, k ∈ a ↔ k ∈ b) : a.Perm b := (List.perm_ext_iff_of_nodup ha hb).mpr h
theorem dst_eq {ns ns' : List Int} (h : ns'.Pairwise (· < ·)) (hm : ∀ k, k ∈ ns' ↔ k ∈ ns) : ns' = dst ns :=
  srt_uniq (nodup_perm (h.imp fun q => Int.ne_of_lt q) (dst_nodup ns) fun k => by rw [hm, dst_mem]) (h.imp fun q => Int.le_of_lt q) (dst_pair ns)
/-! ### sorted(tuple) -/
section
variable {prog : Program} {w : World} {A : Around} {E : Value → Shared → Prop} {s : Shared}
theorem collect_tup {l : Addr} {vs : List Value} {Q : List Value → Shared → Prop} (hl : s.heap.IsTuple l vs.toArray)
    (h : Q vs { s with heap := (s.heap.push (seqObj "list" #[] 0)).update s.heap.objs.size (Obj.mapSeq (· ++ vs.toArray)) }) (hsz : vs.length ≤ sizeLine) :
    wpAny (model prog w) A (collect (.ref l)) Q E s := by
  obtain ⟨o, ho, hc, n, hd⟩ := id hl
  unfold collect
  refine wpAny_bind (wpAny_runValue (codeAny_builtin entry_proto_collect' ?_))
  show wpAny _ _ (do again (.builtin "list.__iadd__" ⟨[← newList [], .ref l], []⟩)) _ _ s
  refine wpAny_bind (wpAny_newList (wpAny_pure ⟨Code.quiet_builtin _ (by decide +kernel), codeAny_builtin entry_list_iadd' ?_⟩))
  show wpAny _ _ (Builtin.List.listExtendWith (.ref s.heap.objs.size) (.ref l) (.ref s.heap.objs.size)) _ _ { s with heap := s.heap.push (seqObj "list" #[] 0) }
  unfold Builtin.List.listExtendWith
  have ho' : (s.heap.push (seqObj "list" #[] 0)).get? l = some o := Heap.get?_push_of_some _ ho
  refine wpAny_bind (wpAny_typeOf (T := "tuple") ⟨o, ho', hc⟩ ?_)
  have ht : (Value.type "tuple" == Value.type "tuple") = true := by rfl
  rw [if_pos (by rw [ht]; simp)]
  refine wpAny_bind (listItems_at ho' hd ?_)
  refine wpAny_bind (listItems_at (xs := #[]) (n := 0) (Heap.get?_push_size _ rfl) rfl ?_)
  rw [if_neg (by simp)]
  refine wpAny_bind (listUpdate_at (xs := #[]) (n := 0) (Heap.get?_push_size _ rfl) rfl ?_ (Nat.zero_le _) (by show (#[] ++ vs.toArray).size ≤ sizeLine + 1; simp only [Array.size_append, List.size_toArray, List.length_nil]; omega))
  refine wpAny_pure ?_
  show wpAny (model prog w) A (do
      let o ← load s.heap.objs.size
      match o.data with
      | .seq xs _ => pure xs.toList
      | _ => unsupported "internal:collect") Q E { s with heap := (s.heap.push (seqObj "list" #[] 0)).update s.heap.objs.size (Obj.mapSeq (· ++ vs.toArray)) }
  refine wpAny_bind (wpAny_load (get?_update_seq (Heap.get?_push_size _ rfl) _) ?_)
  show wpAny _ _ (pure ((#[] : Array Value) ++ vs.toArray).toList) Q E _
  rw [show ((#[] : Array Value) ++ vs.toArray).toList = vs by simp]
  exact wpAny_pure h
theorem sorted_ordT {l : Addr} {vs : List Value} {ltv : Value → Value → Bool} {Q : Value → Shared → Prop} (O : SrtO.Swo ltv) (hl : s.heap.IsTuple l vs.toArray) (hz : vs.length ≤ sizeLine)
    (hS : 2 ≤ vs.length → ∀ (h₁ : Heap) (a : Addr), h₁.get? a = some (seqObj "list" vs.toArray 0) → (∀ b o, s.heap.get? b = some o → b ≠ a ∧ h₁.get? b = some o) → SrtO.SortableO prog w A.in1.in1 { s with heap := h₁ } a vs ltv)
    (h : ∀ out : List Value, SrtO.Srtd ltv out → SrtO.Stb ltv out vs → Q (.ref (s.heap.objs.size + 1)) { s with heap := sortedAll s.heap vs out.toArray }) :
    wpAny (model prog w) A (call (.builtin "sorted") [.ref l]) Q E s := by
  refine Calls.call_function_entry kind_sorted plain_sorted entry_sorted (args_sorted1 _) ?_
  unfold Builtin.«sorted»
  refine wpAny_bind (m := checkCount "sorted" 1 1 _) (wpAny_pure ?_)
  refine wpAny_bind (collect_tup hl ?_ hz)
  refine wpAny_bind (wpAny_newList ?_ hz)
  have hsz : ((s.heap.push (seqObj "list" #[] 0)).update s.heap.objs.size (Obj.mapSeq (· ++ vs.toArray))).objs.size = s.heap.objs.size + 1 := by
    rw [Heap.size_update, size_push']
  have hoL : (((s.heap.push (seqObj "list" #[] 0)).update s.heap.objs.size (Obj.mapSeq (· ++ vs.toArray))).push (seqObj "list" vs.toArray 0)).get? (s.heap.objs.size + 1) = some (seqObj "list" vs.toArray 0) := by
    rw [← hsz]; exact Heap.get?_push_size _ rfl
  have keep : ∀ b o, s.heap.get? b = some o → b ≠ s.heap.objs.size + 1 ∧ (((s.heap.push (seqObj "list" #[] 0)).update s.heap.objs.size (Obj.mapSeq (· ++ vs.toArray))).push (seqObj "list" vs.toArray 0)).get? b = some o := fun b o q => by
    have hlt : b < s.heap.objs.size := Heap.lt_size q
    refine ⟨Nat.ne_of_lt (Nat.lt_succ_of_lt hlt), Heap.get?_push_of_some _ ?_⟩
    rw [Heap.get?_update_ne _ _ _ _ (Nat.ne_of_lt hlt)]
    exact Heap.get?_push_of_some _ q
  show wpAny _ _ _ _ _ { s with heap := ((s.heap.push (seqObj "list" #[] 0)).update s.heap.objs.size (Obj.mapSeq (· ++ vs.toArray))).push (seqObj "list" vs.toArray 0) }
  rw [hsz]
  refine wpAny_bind (wpAny_holding (wpAny_call_entry slot_list_sort ⟨_, hoL, rfl⟩ entry_list_sort (SrtO.list_sort_ord O hoL hz (fun h2 => hS h2 _ _ hoL keep) fun out hs hb => ⟨_, rfl, ?_⟩) (args_list_sort _)))
  exact wpAny_pure ⟨_, rfl, h out hs hb⟩
end
section
variable {X : Cx}
def rSortT (K : PySem.W.Frag) : List V → Hp → VK → Prop := fun vs H Q => ∃ (a : Addr) (ns : List Int), vs = [V.ref a] ∧ SqT K H a (ns.map V.int) ∧ ∀ (ns' : List Int) (p : Addr), ns'.Perm ns → ns'.Pairwise (· ≤ ·) → H p = none → Q (.ref p) (upd H p (.lst (ns'.map V.int)))
theorem cr_sortT : CallR X (.builtin "sorted") (rSortT X.K) := by
  intro pins s σ H vs us Q I r h
  obtain ⟨a, ns, rfl, hs, q⟩ := h
  obtain ⟨its, rv, hl, hz⟩ := I.tuple hs
  rw [Vals.ref1 r]
  have hi := rv.ints
  have hl' : s.heap.IsTuple a its.toArray := hl
  refine sorted_ordT SrtO.swo_int hl' (by rw [← rv.length]; exact hz) (fun h2 h₁ a' _ _ => SrtO.ints_sortable hi h2) fun out h1 h2 => ?_
  obtain ⟨k1, k2, k3⟩ := SrtO.ints_out hi h1 h2
  obtain ⟨ep, he'⟩ := PyProof.Rows.sortedAll_at s.heap its out.toArray
  have hlen : ((out.map SrtO.iv).map V.int).length ≤ sizeLine := by
    rw [List.length_map, k2.length_eq]
    rw [List.length_map] at hz
    exact hz
  exact ⟨.ref _, upd H (s.heap.objs.size + 1) (.lst ((out.map SrtO.iv).map V.int)), I.laid (t' := s.toks) (fun _ _ => PyProof.Rows.sortedAll_old) (Nat.le_succ _) ⟨hlen, out, ep, vals_of_ints k1, he'⟩, rfl, q _ _ k2 k3 (I.hok.fresh (Nat.le_succ _))⟩
theorem cr_or {v : Value} {r r' : List V → Hp → VK → Prop} (h : CallR X v r) (h' : CallR X v r') : CallR X v (fun vs H Q => r vs H Q ∨ r' vs H Q) := fun pins s σ H vs us Q I rv q => by
  rcases q with q | q
  · exact h pins s σ H vs us Q I rv q
  · exact h' pins s σ H vs us Q I rv q
/-! ### set(tuple) -/
def rSetT (K : PySem.W.Frag) (w : World) : List V → Hp → VK → Prop := fun vs H Q => ∃ (a : Addr) (ns : List Int), vs = [V.ref a] ∧ SqT K H a (ns.map V.int) ∧ ns.length ≤ 60 ∧ ∀ (p : Addr), H p = none → Q (.ref p) (upd H p (SetO w p (fun j => decide (j ∈ ns)) (dst ns).length))
theorem cr_setT (hc : X.calm = true) : CallR X (.type "set") (rSetT X.K X.w) := by
  intro pins s σ H vs us Q I r h
  obtain ⟨p0, ns, rfl, hq, hl, q⟩ := h
  rw [Vals.ref1 r]
  obtain ⟨its, rv, pt, hz⟩ := I.tuple hq
  have hi : IntsAre its.toArray.toList ns := ints_of_vals rv
  have hd := I.ok.hd hc
  refine call_set_tupI ns hd (show s.heap.IsTuple p0 its.toArray from pt) hi (by unfold scanBound; omega) fun h' tk c R1 hcn k => ?_
  have hce : c = (dst ns).length := by
    obtain ⟨o, es, ep, t, ho, hex, hdt, g, nd, hm2, hb, hf, hn, hr, hl2⟩ := R1
    have p := nodup_perm nd (dst_nodup ns) fun k => by rw [← hm2, decide_eq_true_eq, dst_mem]
    have := p.length_eq
    rw [List.length_map, Array.length_toList] at this
    rw [← hn]; exact this
  subst hce
  exact ⟨.ref _, upd H s.heap.objs.size (SetO X.w s.heap.objs.size (fun j => decide (j ∈ ns)) (dst ns).length), I.laid (t' := tk) k (Nat.le_refl _) (setO_new R1), rfl, q _ (I.hok.fresh (Nat.le_refl _))⟩
end
section
variable {X : Cx}
def rLenSet (w : World) : List V → Hp → VK → Prop := fun vs H Q => ∃ (a : Addr) (S : Int → Bool) (n : Nat), vs = [V.ref a] ∧ H a = some (SetO w a S n) ∧ n ≤ 60 ∧ Q (.int (n : Nat)) H
theorem cr_lenSet : CallR X (.builtin "len") (rLenSet X.w) := by
  intro pins s σ H vs us Q I r h
  obtain ⟨a, S, n, rfl, ha, hn, q⟩ := h
  have R := setO_get I ha
  rw [Vals.ref1 r]
  obtain ⟨o, es, ep, t, ho, hex, hdt, g, nd, hm2, hb, hf, hn2, hr, hl2⟩ := R
  refine call_len_set ho hex hdt hf (by rw [hn2]; omega) ⟨.int n, H, I.tok _, ⟨_, by rw [hn2]⟩, q⟩
end
/-! ### the ties -/
def seqOf : D → Option (List D)
  | .tup ds => some ds
  | .lst ds => some ds
  | .bor ds => some ds
  | _ => none
def fSort (m : Ev D) : Ev (List D) := fun ρ κ => (m ρ κ).bind fun d κ1 => match (seqOf d).bind intsOf with
  | some ns => some (.ok ((srt ns).map D.int), κ1)
  | none => none
def setOf' : D → Option (List Int)
  | .tup ds => (intsOf ds).bind fun ns => if ns.length ≤ 60 then some ns else none
  | _ => none
def fSortSet (m : Ev D) : Ev (List D) := fun ρ κ => (m ρ κ).bind fun d κ1 => match setOf' d with
  | some ns => some (.ok ((dst ns).map D.int), κ1)
  | none => none
def eLenSet (m : Ev D) : Ev D := fun ρ κ => (m ρ κ).bind fun d κ1 => match setOf' d with
  | some ns => ret (.int (dst ns).length) κ1
  | none => none
theorem boot_sortedN : bootBuiltins "sorted" = some (.builtin "sorted") := by decide +kernel
section
variable {G : Gx} {W : XK} {X : Cx} {e : Expr} {m : Ev D} {p p2 p3 pos : Pos}
theorem w_sorted (hm : X.mg "sorted" = none) (ha : PD G W X e m) (hg : Gl X "sorted" := by rfl) (hs : starEach [e] X.env = (false, eval e X.env) :: starEach [] X.env := by rfl) (hpl : (backTo pos (starEach [] X.env)).any (·.1) = false := by rfl) : PF G W X (.Call (.Name "sorted" p) [e] [] pos) (fSort m) :=
  ⟨pe_imp (pe_callB (cr_or cr_sortedI cr_sortT) hg hm boot_sortedN (pa_cons ha.run pa_nil hs) (he := hs) (hpl := hpl)) fun σ H Q ⟨α, F, ρ, κ, Bs, w, sl, h⟩ =>
    tD_mono (fun x H1 ⟨α1, F1, κ1, d, g1, w1, sl1, r1, h1⟩ => by
      cases hd : (seqOf d).bind intsOf with
      | none => rw [hd] at h1; exact h1.elim
      | some ns =>
        rw [hd] at h1
        simp only at h1
        obtain ⟨ds, h2, h3⟩ := Option.bind_eq_some_iff.mp hd
        have e0 := intsOf_eq h3
        subst e0
        cases d with
        | tup ds' =>
          cases h2
          obtain ⟨a, xs, rfl, h4, q⟩ := rv_tup w1 r1
          have ex := q.ints
          subst ex
          exact .inr ⟨a, ns, rfl, h4, fun ns' p k1 k2 k3 => by rw [srt_eq k1 k2]; exact POF.lstNew w1 h1 (RpL.of_ints _) k3⟩
        | lst ds' =>
          cases h2
          obtain ⟨a, xs, rfl, h4, q⟩ := rv_list w1 r1 rfl
          have ex := q.ints
          subst ex
          exact .inl ⟨a, ns, rfl, SqL.of h4, fun ns' p k1 k2 k3 => by rw [srt_eq k1 k2]; exact POF.lstNew w1 h1 (RpL.of_ints _) k3⟩
        | bor ds' =>
          cases h2
          obtain ⟨a, xs, rfl, h4, q⟩ := rv_list w1 r1 rfl
          have ex := q.ints
          subst ex
          exact .inl ⟨a, ns, rfl, SqL.of h4, fun ns' p k1 k2 k3 => by rw [srt_eq k1 k2]; exact POF.lstNew w1 h1 (RpL.of_ints _) k3⟩
        | _ => cases h2) (tD_bindF w sl h)⟩
theorem set_ok {α : List Addr} {F H : Hp} {κ : Ka} {d : D} {x : V} {ns : List Int} (w : Wd G X.K α F H κ) (r : Rv X.K α F H d x) (h : setOf' d = some ns) : ∃ a, x = .ref a ∧ SqT X.K H a (ns.map V.int) ∧ ns.length ≤ 60 := by
  cases d with
  | tup ds =>
    unfold setOf' at h
    obtain ⟨ms, h1, h2⟩ := Option.bind_eq_some_iff.mp h
    split at h2
    · cases h2
      have e0 := intsOf_eq h1
      subst e0
      obtain ⟨a, xs, rfl, h4, q⟩ := rv_tup w r
      have ex := q.ints
      subst ex
      exact ⟨a, rfl, h4, by assumption⟩
    · cases h2
  | _ => cases h
theorem dst_len (ns : List Int) : (dst ns).length ≤ ns.length := by
  unfold dst
  rw [(srt_perm _).length_eq]
  have : ∀ (n : Nat) (l : List Int), l.length ≤ n → l.eraseDups.length ≤ l.length := by
    intro n
    induction n with
    | zero => intro l h; cases l with | nil => simp | cons a l => simp at h
    | succ n ih =>
      intro l h
      cases l with
      | nil => simp
      | cons a l =>
        rw [List.eraseDups_cons]
        have h1 := List.length_filter_le (fun b => !b == a) l
        have h2 := ih (l.filter fun b => !b == a) (by simp at h; omega)
        simp only [List.length_cons]
        omega
  exact this _ _ (Nat.le_refl _)
theorem w_sortSet (hm : X.mg "sorted" = none) (hm2 : X.mg "set" = none) (ha : PD G W X e m) (hc : X.calm = true := by rfl) (hg : Gl X "sorted" := by rfl) (hg2 : Gl X "set" := by rfl)
    (hs : starEach [e] X.env = (false, eval e X.env) :: starEach [] X.env := by rfl) (hpl : (backTo p3 (starEach [] X.env)).any (·.1) = false := by rfl)
    (hs2 : starEach [.Call (.Name "set" p2) [e] [] p3] X.env = (false, eval (.Call (.Name "set" p2) [e] [] p3) X.env) :: starEach [] X.env := by rfl) (hpl2 : (backTo pos (starEach [] X.env)).any (·.1) = false := by rfl) :
    PF G W X (.Call (.Name "sorted" p) [.Call (.Name "set" p2) [e] [] p3] [] pos) (fSortSet m) :=
  ⟨pe_imp (pe_callB (cr_sortedSet hc) hg hm boot_sortedN (pa_cons (pe_callTy (cr_setT hc) hg2 hm2 PyProof.Rows.boot_set (pa_cons ha.run pa_nil hs) (he := hs) (hpl := hpl)) pa_nil hs2) (he := hs2) (hpl := hpl2)) fun σ H Q ⟨α, F, ρ, κ, Bs, w, sl, h⟩ =>
    tD_mono (fun x H1 ⟨α1, F1, κ1, d, g1, w1, sl1, r1, h1⟩ => by
      cases hd : setOf' d with
      | none => rw [hd] at h1; exact h1.elim
      | some ns =>
        rw [hd] at h1
        simp only at h1
        obtain ⟨a, rfl, h4, hl⟩ := set_ok w1 r1 hd
        refine ⟨a, ns, rfl, h4, hl, fun q hq => ⟨q, _, _, rfl, upd_same, by have := dst_len ns; omega, fun ns' p' k1 k2 k3 k4 => ?_⟩⟩
        obtain ⟨g2, w2⟩ := Gr.newH (o := SetO X.w q (fun j => decide (j ∈ ns)) (dst ns).length) w1 hq
        rw [dst_eq k1 (ns := ns) fun k => by rw [k2, decide_eq_true_eq]]
        exact POF.lstNew w2 (POF.gr g2 h1) (RpL.of_ints _) k4) (tD_bindF w sl h)⟩
theorem w_lenSet (hm : X.mg "len" = none) (hm2 : X.mg "set" = none) (ha : PD G W X e m) (hc : X.calm = true := by rfl) (hg : Gl X "len" := by rfl) (hg2 : Gl X "set" := by rfl)
    (hs : starEach [e] X.env = (false, eval e X.env) :: starEach [] X.env := by rfl) (hpl : (backTo p3 (starEach [] X.env)).any (·.1) = false := by rfl)
    (hs2 : starEach [.Call (.Name "set" p2) [e] [] p3] X.env = (false, eval (.Call (.Name "set" p2) [e] [] p3) X.env) :: starEach [] X.env := by rfl) (hpl2 : (backTo pos (starEach [] X.env)).any (·.1) = false := by rfl) :
    PD G W X (.Call (.Name "len" p) [.Call (.Name "set" p2) [e] [] p3] [] pos) (eLenSet m) :=
  ⟨pe_imp (pe_callB cr_lenSet hg hm boot_len (pa_cons (pe_callTy (cr_setT hc) hg2 hm2 PyProof.Rows.boot_set (pa_cons ha.run pa_nil hs) (he := hs) (hpl := hpl)) pa_nil hs2) (he := hs2) (hpl := hpl2)) fun σ H Q ⟨α, F, ρ, κ, Bs, w, sl, h⟩ =>
    tD_mono (fun x H1 ⟨α1, F1, κ1, d, g1, w1, sl1, r1, h1⟩ => by
      cases hd : setOf' d with
      | none => rw [hd] at h1; exact h1.elim
      | some ns =>
        rw [hd] at h1
        simp only at h1
        obtain ⟨a, rfl, h4, hl⟩ := set_ok w1 r1 hd
        refine ⟨a, ns, rfl, h4, hl, fun q hq => ⟨q, _, _, rfl, upd_same, by have := dst_len ns; omega, ?_⟩⟩
        obtain ⟨g2, w2⟩ := Gr.newH (o := SetO X.w q (fun j => decide (j ∈ ns)) (dst ns).length) w1 hq
        exact PO.now w2 (PO.gr g2 h1) (.int _)) (tD_bind w sl h)⟩
end
section
variable {ρ : List Sl} {κ : Ka} {m : Ev D}
@[simp] theorem fSort_def : fSort m ρ κ = (m ρ κ).bind fun d κ1 => match (seqOf d).bind intsOf with
  | some ns => some (.ok ((srt ns).map D.int), κ1)
  | none => none := rfl
@[simp] theorem fSortSet_def : fSortSet m ρ κ = (m ρ κ).bind fun d κ1 => match setOf' d with
  | some ns => some (.ok ((dst ns).map D.int), κ1)
  | none => none := rfl
@[simp] theorem eLenSet_def : eLenSet m ρ κ = (m ρ κ).bind fun d κ1 => match setOf' d with
  | some ns => ret (.int (dst ns).length) κ1
  | none => none := rfl
end
end
end DL
set_option Elab.async false
set_option linter.all false
set_option maxRecDepth 100000
/-! SH: the meanings of defs that stand alike in several laws. c: the place of the class Spreading. -/
namespace SH
noncomputable section
open PySem L2 DL
/-- keeps_rule: slots 0 times, 1 rule -/
def m_keeps_rule : Es := (sRet (eCmp cLe (eOp oSub (eIdx (eVar 0) (eIdx (eVar 1) (eC (.int 1)))) (eIdx (eVar 0) (eIdx (eVar 1) (eC (.int 0))))) (eIdx (eVar 1) (eC (.int 2)))))
def f_keeps_rule (ds : List DL.D) (κ : Ka) : Re DL.D := noEr (mean 2 (m_keeps_rule) ds κ)
/-- keeps: slots 0 web, 1 times, 2 rule -/
def m_keeps : Es := (sSeq (sIf (bOr (bCmp cNe (eBi bLen (aCons (eVar 1) aNil)) (eIdx (eVar 0) (eC (.int 0)))) (bCmp cNe (eIdx (eVar 1) (eC (.int 0))) (eC (.int 0)))) (sRet (eC (.bl false))) sNext)
      (sRet (eCmp cEq (eBi bLen (aCons (eFr (eComp [2] (iAny true (eIdx (eVar 0) (eC (.int 1)))) (gNm 2) (bNot (bOf (eCall 2 SH.f_keeps_rule (aCons (eVar 1) (aCons (eVar 2) aNil))))) (eC (.int 1)))) aNil)) (eC (.int 0)))))
def f_keeps (ds : List DL.D) (κ : Ka) : Re DL.D := noEr (mean 3 (m_keeps) ds κ)
/-- shifted: slots 0 times, 1 t -/
def m_shifted : Es := (sRet (eBi bTuple (aCons (eFr (eCompO [1] (eVar 0) (gNm 1) bYes (eOp oSub (eVar 1) (eIdx (eVar 0) (eC (.int 0)))))) aNil)))
def f_shifted (ds : List DL.D) (κ : Ka) : Re DL.D := noEr (mean 2 (m_shifted) ds κ)
/-- is_walk: slots 0 web, 1 walk, 2 k, 3 one, 4 two -/
def m_is_walk : Es := (sSeq (sIf (bCmp cGt (eBi bLen (aCons (eFr (eComp [2] (iAny true (eVar 1)) (gNm 2) (bNot (bChain cLe cLt (eC (.int 0)) (eVar 2) (eBi bLen (aCons (eIdx (eVar 0) (eC (.int 1))) aNil)))) (eC (.int 1)))) aNil)) (eC (.int 0))) (sRet (eC (.bl false))) sNext)
      (sRet (eCmp cEq (eBi bLen (aCons (eFr (eComp [3, 4] (iZip2 true (eVar 1) (eCut (eVar 1) (sSome (eC (.int 1))) sNone)) (gTu 2 (gsCons (gNm 3) (gsCons (gNm 4) gsNil))) (bCmp cNe (eIdx (eIdx (eIdx (eVar 0) (eC (.int 1))) (eVar 3)) (eC (.int 1))) (eIdx (eIdx (eIdx (eVar 0) (eC (.int 1))) (eVar 4)) (eC (.int 0)))) (eC (.int 1)))) aNil)) (eC (.int 0)))))
def f_is_walk (ds : List DL.D) (κ : Ka) : Re DL.D := noEr (mean 5 (m_is_walk) ds κ)
/-- length: slots 0 web, 1 walk, 2 k -/
def m_length : Es := (sRet (eBi bSum (aCons (eFr (eComp [2] (iAny true (eVar 1)) (gNm 2) bYes (eIdx (eIdx (eIdx (eVar 0) (eC (.int 1))) (eVar 2)) (eC (.int 2))))) aNil)))
def f_length (ds : List DL.D) (κ : Ka) : Re DL.D := noEr (mean 3 (m_length) ds κ)
/-- ends_of: slots 0 web, 1 walk -/
def m_ends_of : Es := (sRet (eTup (aCons (eIdx (eIdx (eIdx (eVar 0) (eC (.int 1))) (eIdx (eVar 1) (eC (.int 0)))) (eC (.int 0))) (aCons (eIdx (eIdx (eIdx (eVar 0) (eC (.int 1))) (eIdx (eVar 1) (eNeg (eC (.int 1))))) (eC (.int 1))) aNil))))
def f_ends_of (ds : List DL.D) (κ : Ka) : Re DL.D := noEr (mean 2 (m_ends_of) ds κ)
/-- is_bad_ring: slots 0 web, 1 walk, 2 first, 3 last -/
def m_is_bad_ring : Es := (sSeq (sIf (bOr (bCmp cEq (eVar 1) (eTup aNil)) (bNot (bOf (eCall 2 SH.f_is_walk (aCons (eVar 0) (aCons (eVar 1) aNil)))))) (sRet (eC (.bl false))) sNext)
      (sSeq (sAsg (gTu 2 (gsCons (gNm 2) (gsCons (gNm 3) gsNil))) (eCall 2 SH.f_ends_of (aCons (eVar 0) (aCons (eVar 1) aNil))))
      (sRet (eAnd (eCmp cEq (eVar 2) (eVar 3)) (eCmp cLt (eCall 2 SH.f_length (aCons (eVar 0) (aCons (eVar 1) aNil))) (eC (.int 0)))))))
def f_is_bad_ring (ds : List DL.D) (κ : Ka) : Re DL.D := noEr (mean 4 (m_is_bad_ring) ds κ)
/-- Spreading.__init__: slots 0 self, 1 web, 2 firsts, 3 k -/
def m_Spreading___init__ (c : Nat) : Es := (sSeq (sFldS c "web" (eVar 0) (eVar 1))
      (sSeq (sFldS c "far" (eVar 0) (eSt (eComp [3] (iRange1 (aCons (eIdx (eVar 1) (eC (.int 0))) aNil)) (gNm 3) bYes (eIf (bCmp cIn (eVar 3) (eVar 2)) (eC (.int 0)) (eC .non)))))
      (sFldS c "last" (eVar 0) (eSt (fRep (eFr (fLst (aCons (eC .non) aNil))) (eIdx (eVar 1) (eC (.int 0))))))))
def f_Spreading___init__ (c : Nat) (ds : List DL.D) (κ : Ka) : Re DL.D := noEr (mean 4 (m_Spreading___init__ c) ds κ)
/-- Spreading.step: slots 0 self, 1 found, 2 k, 3 i, 4 j, 5 most, 6 there -/
def m_Spreading_step (c : Nat) : Es := (sSeq (sAsg (gNm 1) (eC .non))
      (sSeq (sForE (iEnum1 false (eIdx (eAttr c "web" (eVar 0)) (eC (.int 1)))) (gTu 2 (gsCons (gNm 2) (gsCons (gTu 3 (gsCons (gNm 3) (gsCons (gNm 4) (gsCons (gNm 5) gsNil)))) gsNil))) (sIf (bCmp cIsNot (eIdx (eAttr c "far" (eVar 0)) (eVar 3)) (eC .non)) (sSeq (sAsg (gNm 6) (eOp oAdd (eIdx (eAttr c "far" (eVar 0)) (eVar 3)) (eVar 5)))
      (sIf (bOr (bCmp cIs (eIdx (eAttr c "far" (eVar 0)) (eVar 4)) (eC .non)) (bCmp cLt (eVar 6) (eIdx (eAttr c "far" (eVar 0)) (eVar 4)))) (sSeq (sSetO (eAttr c "far" (eVar 0)) (eVar 4) (eVar 6))
      (sSeq (sSetO (eAttr c "last" (eVar 0)) (eVar 4) (eVar 2))
      (sAsg (gNm 1) (eVar 4)))) sNext)) sNext))
      (sRet (eVar 1))))
def f_Spreading_step (c : Nat) (ds : List DL.D) (κ : Ka) : Re DL.D := noEr (mean 7 (m_Spreading_step c) ds κ)
/-- Spreading.spread: slots 0 self, 1 turn, 2 found -/
def m_Spreading_spread (c : Nat) : Es := (sSeq (sForE (iRange1 (aCons (eIdx (eAttr c "web" (eVar 0)) (eC (.int 0))) aNil)) (gNm 1) (sSeq (sAsg (gNm 2) (eMeth c "step" 1 (SH.f_Spreading_step c) (eVar 0) aNil))
      (sIf (bCmp cIs (eVar 2) (eC .non)) (sRet (eC .non)) sNext)))
      (sRet (eVar 2)))
def f_Spreading_spread (c : Nat) (ds : List DL.D) (κ : Ka) : Re DL.D := noEr (mean 3 (m_Spreading_spread c) ds κ)
/-- Spreading.ring_from: slots 0 self, 1 moment, 2 turn, 3 walk, 4 here -/
def m_Spreading_ring_from (c : Nat) : Es := (sSeq (sForE (iRange1 (aCons (eIdx (eAttr c "web" (eVar 0)) (eC (.int 0))) aNil)) (gNm 2) (sAsg (gNm 1) (eIdx (eIdx (eIdx (eAttr c "web" (eVar 0)) (eC (.int 1))) (eIdx (eAttr c "last" (eVar 0)) (eVar 1))) (eC (.int 0)))))
      (sSeq (sOwn 3 (fLst aNil))
      (sSeq (sAsg (gNm 4) (eVar 1))
      (sSeq (sWhl (bOr (bCmp cEq (eVar 3) (eFr (fLst aNil))) (bCmp cNe (eVar 4) (eVar 1))) (sSeq (sApp 3 (eIdx (eAttr c "last" (eVar 0)) (eVar 4)))
      (sAsg (gNm 4) (eIdx (eIdx (eIdx (eAttr c "web" (eVar 0)) (eC (.int 1))) (eIdx (eAttr c "last" (eVar 0)) (eVar 4))) (eC (.int 0))))) fuel)
      (sRet (eBi bTuple (aCons (eRev (eVar 3)) aNil)))))))
def f_Spreading_ring_from (c : Nat) (ds : List DL.D) (κ : Ka) : Re DL.D := noEr (mean 5 (m_Spreading_ring_from c) ds κ)
/-- holds_answer: slots 0 web, 1 spreading, 2 found -/
def m_holds_answer (c : Nat) : Es := (sSeq (sAsg (gNm 1) (eMake c 3 (SH.f_Spreading___init__ c) (aCons (eVar 0) (aCons (eFr (fLRg1 (eIdx (eVar 0) (eC (.int 0))))) aNil))))
      (sSeq (sAsg (gNm 2) (eMeth c "spread" 1 (SH.f_Spreading_spread c) (eVar 1) aNil))
      (sSeq (sIf (bCmp cIsNot (eVar 2) (eC .non)) (sRet (eTup (aCons (eC (.str "ring")) (aCons (eMeth c "ring_from" 2 (SH.f_Spreading_ring_from c) (eVar 1) (aCons (eVar 2) aNil)) aNil)))) sNext)
      (sRet (eTup (aCons (eC (.str "holds")) (aCons (eCall 1 SH.f_shifted (aCons (eAttr c "far" (eVar 1)) aNil)) aNil)))))))
def f_holds_answer (c : Nat) (ds : List DL.D) (κ : Ka) : Re DL.D := noEr (mean 3 (m_holds_answer c) ds κ)
/-- link_of: slots 0 web, 1 moment, 2 found, 3 b, 4 link -/
def m_link_of : Es := (sSeq (sAsg (gNm 2) (eFr (eComp [3, 4] (iEnum1 true (eIdx (eVar 0) (eC (.int 2)))) (gTu 2 (gsCons (gNm 3) (gsCons (gNm 4) gsNil))) (bCmp cEq (eIdx (eVar 4) (eC (.int 1))) (eVar 1)) (eVar 3))))
      (sRet (eIf (bCmp cEq (eVar 2) (eFr (fLst aNil))) (eC .non) (eIdx (eVar 2) (eC (.int 0))))))
def f_link_of (ds : List DL.D) (κ : Ka) : Re DL.D := noEr (mean 5 (m_link_of) ds κ)
/-- gap_row: slots 0 web, 1 i, 2 spreading -/
def m_gap_row (c : Nat) : Es := (sSeq (sAsg (gNm 2) (eMake c 3 (SH.f_Spreading___init__ c) (aCons (eVar 0) (aCons (eFr (fLst (aCons (eVar 1) aNil))) aNil))))
      (sSeq (sExp (eMeth c "spread" 1 (SH.f_Spreading_spread c) (eVar 2) aNil))
      (sRet (eBi bTuple (aCons (eAttr c "far" (eVar 2)) aNil)))))
def f_gap_row (c : Nat) (ds : List DL.D) (κ : Ka) : Re DL.D := noEr (mean 3 (m_gap_row c) ds κ)
/-- window: slots 0 web, 1 j, 2 back -/
def m_window (c : Nat) : Es := (sSeq (sAsg (gNm 2) (eIdx (eCall 2 (SH.f_gap_row c) (aCons (eVar 0) (aCons (eVar 1) aNil))) (eC (.int 0))))
      (sRet (eTup (aCons (eIf (bCmp cIs (eVar 2) (eC .non)) (eC .non) (eNeg (eVar 2))) (aCons (eIdx (eCall 2 (SH.f_gap_row c) (aCons (eVar 0) (aCons (eC (.int 0)) aNil))) (eVar 1)) aNil)))))
def f_window (c : Nat) (ds : List DL.D) (κ : Ka) : Re DL.D := noEr (mean 3 (m_window c) ds κ)
/-- least_minutes: slots 0 kind, 1 ticks -/
def m_least_minutes : Es := (sRet (eOp oFdiv (eOp oMul (eVar 1) (eIdx (eVar 0) (eC (.int 0)))) (eIdx (eVar 0) (eC (.int 1)))))
def f_least_minutes (ds : List DL.D) (κ : Ka) : Re DL.D := noEr (mean 2 (m_least_minutes) ds κ)
/-- most_minutes: slots 0 kind, 1 ticks -/
def m_most_minutes : Es := (sRet (eNeg (eOp oFdiv (eOp oMul (eNeg (eVar 1)) (eIdx (eVar 0) (eC (.int 2)))) (eIdx (eVar 0) (eC (.int 3))))))
def f_most_minutes (ds : List DL.D) (κ : Ka) : Re DL.D := noEr (mean 2 (m_most_minutes) ds κ)
/-- are_stamps: slots 0 web, 1 stamps, 2 last, 3 begin, 4 end, 5 _, 6 t -/
def m_are_stamps : Es := (sSeq (sIf (bOr (bCmp cLt (eVar 2) (eC (.int 0))) (bOr (bCmp cNe (eBi bLen (aCons (eVar 1) aNil)) (eIdx (eVar 0) (eC (.int 0)))) (bCmp cNe (eIdx (eVar 1) (eC (.int 0))) (eC (.int 0))))) (sRet (eC (.bl false))) sNext)
      (sSeq (sIf (bCmp cGt (eBi bLen (aCons (eFr (eComp [6] (iAny true (eVar 1)) (gNm 6) (bAnd (bCmp cIsNot (eVar 6) (eC .non)) (bNot (bChain cLe cLe (eC (.int 0)) (eVar 6) (eVar 2)))) (eC (.int 1)))) aNil)) (eC (.int 0))) (sRet (eC (.bl false))) sNext)
      (sSeq (sForE (iAny false (eIdx (eVar 0) (eC (.int 2)))) (gTu 4 (gsCons (gNm 3) (gsCons (gNm 4) (gsCons (gNm 5) (gsCons (gNm 5) gsNil))))) (sIf (bAnd (bCmp cIsNot (eIdx (eVar 1) (eVar 4)) (eC .non)) (bOr (bCmp cLt (eIdx (eVar 1) (eVar 4)) (eC (.int 1))) (bCmp cIs (eIdx (eVar 1) (eVar 3)) (eC .non)))) (sRet (eC (.bl false))) sNext))
      (sRet (eC (.bl true))))))
def f_are_stamps (ds : List DL.D) (κ : Ka) : Re DL.D := noEr (mean 7 (m_are_stamps) ds κ)
/-- true_moment: slots 0 web, 1 stamps, 2 last, 3 k, 4 b -/
def m_true_moment : Es := (sSeq (sAsg (gNm 4) (eCall 2 SH.f_link_of (aCons (eVar 0) (aCons (eVar 3) aNil))))
      (sRet (eIf (bCmp cIs (eVar 4) (eC .non)) (eIdx (eVar 1) (eVar 3)) (eOp oAdd (eOp oAdd (eVar 2) (eC (.int 1))) (eVar 4)))))
def f_true_moment (ds : List DL.D) (κ : Ka) : Re DL.D := noEr (mean 5 (m_true_moment) ds κ)
/-- clock_rules: slots 0 kind, 1 last, 2 found, 3 a, 4 b -/
def m_clock_rules : Es := (sSeq (sAsg (gNm 2) (eFr (fLst aNil)))
      (sSeq (sForE (iRange1 (aCons (eOp oAdd (eVar 1) (eC (.int 1))) aNil)) (gNm 3) (sForE (iRange2 (aCons (eOp oAdd (eVar 3) (eC (.int 1))) (aCons (eOp oAdd (eVar 1) (eC (.int 1))) aNil))) (gNm 4) (sAsg (gNm 2) (eOp oAdd (eVar 2) (eFr (fLst (aCons (eTup (aCons (eVar 3) (aCons (eVar 4) (aCons (eCall 2 SH.f_most_minutes (aCons (eVar 0) (aCons (eOp oSub (eVar 4) (eVar 3)) aNil))) aNil)))) (aCons (eTup (aCons (eVar 4) (aCons (eVar 3) (aCons (eNeg (eCall 2 SH.f_least_minutes (aCons (eVar 0) (aCons (eOp oSub (eVar 4) (eVar 3)) aNil)))) aNil)))) aNil))))))))
      (sRet (eVar 2))))
def f_clock_rules (ds : List DL.D) (κ : Ka) : Re DL.D := noEr (mean 5 (m_clock_rules) ds κ)
/-- link_rules: slots 0 web, 1 stamps, 2 last, 3 b, 4 begin, 5 end, 6 least, 7 most, 8 here, 9 there, 10 found -/
def m_link_rules : Es := (sSeq (sAsg (gTu 4 (gsCons (gNm 4) (gsCons (gNm 5) (gsCons (gNm 6) (gsCons (gNm 7) gsNil))))) (eIdx (eIdx (eVar 0) (eC (.int 2))) (eVar 3)))
      (sSeq (sPar 8 9 (aCons (eCall 4 SH.f_true_moment (aCons (eVar 0) (aCons (eVar 1) (aCons (eVar 2) (aCons (eVar 4) aNil))))) (aCons (eOp oAdd (eOp oAdd (eVar 2) (eC (.int 1))) (eVar 3)) aNil)))
      (sSeq (sAsg (gNm 10) (eFr (fLst (aCons (eTup (aCons (eVar 8) (aCons (eVar 9) (aCons (eVar 7) aNil)))) (aCons (eTup (aCons (eVar 9) (aCons (eVar 8) (aCons (eNeg (eVar 6)) aNil)))) aNil)))))
      (sSeq (sIf (bCmp cIs (eIdx (eVar 1) (eVar 5)) (eC .non)) (sRet (eOp oAdd (eVar 10) (eFr (fLst (aCons (eTup (aCons (eVar 9) (aCons (eVar 2) (aCons (eNeg (eC (.int 1))) aNil)))) aNil))))) sNext)
      (sRet (eOp oAdd (eVar 10) (eFr (fLst (aCons (eTup (aCons (eIdx (eVar 1) (eVar 5)) (aCons (eVar 9) (aCons (eC (.int 0)) aNil)))) (aCons (eTup (aCons (eVar 9) (aCons (eOp oSub (eIdx (eVar 1) (eVar 5)) (eC (.int 1))) (aCons (eNeg (eC (.int 1))) aNil)))) aNil))))))))))
def f_link_rules (ds : List DL.D) (κ : Ka) : Re DL.D := noEr (mean 11 (m_link_rules) ds κ)
/-- stamp_web: slots 0 web, 1 kind, 2 stamps, 3 last, 4 rules, 5 b, 6 link -/
def m_stamp_web : Es := (sSeq (sAsg (gNm 4) (eCall 2 SH.f_clock_rules (aCons (eVar 1) (aCons (eVar 3) aNil))))
      (sSeq (sForE (iEnum1 false (eIdx (eVar 0) (eC (.int 2)))) (gTu 2 (gsCons (gNm 5) (gsCons (gNm 6) gsNil))) (sIf (bCmp cIsNot (eIdx (eVar 2) (eIdx (eVar 6) (eC (.int 0)))) (eC .non)) (sAsg (gNm 4) (eOp oAdd (eVar 4) (eCall 4 SH.f_link_rules (aCons (eVar 0) (aCons (eVar 2) (aCons (eVar 3) (aCons (eVar 5) aNil))))))) sNext))
      (sRet (eTup (aCons (eOp oAdd (eOp oAdd (eVar 3) (eC (.int 1))) (eBi bLen (aCons (eIdx (eVar 0) (eC (.int 2))) aNil))) (aCons (eBi bTuple (aCons (eVar 4) aNil)) aNil))))))
def f_stamp_web (ds : List DL.D) (κ : Ka) : Re DL.D := noEr (mean 7 (m_stamp_web) ds κ)
/-- explain_answer: slots 0 web, 1 kind, 2 stamps, 3 last, 4 answer, 5 ends, 6 told, 7 link, 8 t -/
def m_explain_answer (c : Nat) : Es := (sSeq (sAsg (gNm 4) (eCall 1 (SH.f_holds_answer c) (aCons (eCall 4 SH.f_stamp_web (aCons (eVar 0) (aCons (eVar 1) (aCons (eVar 2) (aCons (eVar 3) aNil))))) aNil)))
      (sSeq (sIf (bCmp cEq (eIdx (eVar 4) (eC (.int 0))) (eC (.str "ring"))) (sRet (eTup (aCons (eC (.str "strange")) (aCons (eIdx (eVar 4) (eC (.int 1))) aNil)))) sNext)
      (sSeq (sAsg (gNm 5) (eCut (eIdx (eVar 4) (eC (.int 1))) (sSome (eOp oAdd (eVar 3) (eC (.int 1)))) sNone))
      (sSeq (sAsg (gNm 6) (eFr (eComp [7, 8] (iZip2 true (eIdx (eVar 0) (eC (.int 2))) (eVar 5)) (gTu 2 (gsCons (gNm 7) (gsCons (gNm 8) gsNil))) bYes (eIf (bCmp cIs (eIdx (eVar 2) (eIdx (eVar 7) (eC (.int 0)))) (eC .non)) (eC .non) (eVar 8)))))
      (sRet (eTup (aCons (eC (.str "explained")) (aCons (eCut (eIdx (eVar 4) (eC (.int 1))) sNone (sSome (eOp oAdd (eVar 3) (eC (.int 1))))) (aCons (eBi bTuple (aCons (eVar 6) aNil)) aNil)))))))))
def f_explain_answer (c : Nat) (ds : List DL.D) (κ : Ka) : Re DL.D := noEr (mean 9 (m_explain_answer c) ds κ)
/-- shows_explained: slots 0 web, 1 kind, 2 stamps, 3 last, 4 answer, 5 there, 6 link, 7 t -/
def m_shows_explained : Es := (sSeq (sAsg (gNm 5) (eCall 4 SH.f_stamp_web (aCons (eVar 0) (aCons (eVar 1) (aCons (eVar 2) (aCons (eVar 3) aNil))))))
      (sSeq (sIf (bCmp cEq (eIdx (eVar 4) (eC (.int 0))) (eC (.str "strange"))) (sRet (eCall 2 SH.f_is_bad_ring (aCons (eVar 5) (aCons (eIdx (eVar 4) (eC (.int 1))) aNil)))) sNext)
      (sSeq (sIf (bOr (bCmp cNe (eIdx (eVar 4) (eC (.int 0))) (eC (.str "explained"))) (bOr (bCmp cNe (eBi bLen (aCons (eIdx (eVar 4) (eC (.int 1))) aNil)) (eOp oAdd (eVar 3) (eC (.int 1)))) (bCmp cNe (eBi bLen (aCons (eIdx (eVar 4) (eC (.int 2))) aNil)) (eBi bLen (aCons (eIdx (eVar 0) (eC (.int 2))) aNil))))) (sRet (eC (.bl false))) sNext)
      (sSeq (sIf (bCmp cGt (eBi bLen (aCons (eFr (eComp [6, 7] (iZip2 true (eIdx (eVar 0) (eC (.int 2))) (eIdx (eVar 4) (eC (.int 2)))) (gTu 2 (gsCons (gNm 6) (gsCons (gNm 7) gsNil))) (bCmp cNe (eCmp cIs (eVar 7) (eC .non)) (eCmp cIs (eIdx (eVar 2) (eIdx (eVar 6) (eC (.int 0)))) (eC .non))) (eC (.int 1)))) aNil)) (eC (.int 0))) (sRet (eC (.bl false))) sNext)
      (sRet (eCall 2 SH.f_keeps (aCons (eVar 5) (aCons (eOp oAdd (eIdx (eVar 4) (eC (.int 1))) (eBi bTuple (aCons (eFr (eComp [7] (iAny true (eIdx (eVar 4) (eC (.int 2)))) (gNm 7) bYes (eIf (bCmp cIs (eVar 7) (eC .non)) (eC (.int 0)) (eVar 7)))) aNil))) aNil))))))))
def f_shows_explained (ds : List DL.D) (κ : Ka) : Re DL.D := noEr (mean 8 (m_shows_explained) ds κ)
/-- _law_seen_web: slots 0 deal, 1 many, 2 links, 3 taken, 4 turn, 5 end, 6 begin, 7 least, 8 rules, 9 i, 10 j -/
def m__law_seen_web : Es := (sSeq (sOwn 2 (fLst aNil))
      (sSeq (sOwn 3 (fLst aNil))
      (sSeq (sForE (iRange1 (aCons (eCall 2 DL.f__law_take (aCons (eVar 0) (aCons (eC (.int 4)) aNil))) aNil)) (gNm 4) (sSeq (sAsg (gNm 5) (eOp oAdd (eC (.int 1)) (eCall 2 DL.f__law_take (aCons (eVar 0) (aCons (eOp oSub (eVar 1) (eC (.int 1))) aNil)))))
      (sSeq (sAsg (gNm 6) (eCall 2 DL.f__law_take (aCons (eVar 0) (aCons (eVar 5) aNil))))
      (sIf (bCmp cNotIn (eVar 5) (eVar 3)) (sSeq (sApp 3 (eVar 5))
      (sSeq (sAsg (gNm 7) (eOp oAdd (eC (.int 1)) (eCall 2 DL.f__law_take (aCons (eVar 0) (aCons (eC (.int 4)) aNil)))))
      (sApp 2 (eTup (aCons (eVar 6) (aCons (eVar 5) (aCons (eVar 7) (aCons (eOp oAdd (eVar 7) (eCall 2 DL.f__law_take (aCons (eVar 0) (aCons (eC (.int 4)) aNil)))) aNil)))))))) sNext))))
      (sSeq (sOwn 8 (fLst aNil))
      (sSeq (sForE (iRange1 (aCons (eCall 2 DL.f__law_take (aCons (eVar 0) (aCons (eC (.int 6)) aNil))) aNil)) (gNm 4) (sSeq (sAsg (gNm 9) (eCall 2 DL.f__law_take (aCons (eVar 0) (aCons (eVar 1) aNil))))
      (sSeq (sAsg (gNm 10) (eOp oMod (eOp oAdd (eOp oAdd (eVar 9) (eC (.int 1))) (eCall 2 DL.f__law_take (aCons (eVar 0) (aCons (eOp oSub (eVar 1) (eC (.int 1))) aNil)))) (eVar 1)))
      (sApp 8 (eTup (aCons (eVar 9) (aCons (eVar 10) (aCons (eOp oSub (eCall 2 DL.f__law_take (aCons (eVar 0) (aCons (eC (.int 20)) aNil))) (eIdx (eFr (fLst (aCons (eC (.int 2)) (aCons (eC (.int 7)) aNil)))) (eCall 2 DL.f__law_take (aCons (eVar 0) (aCons (eC (.int 2)) aNil))))) aNil))))))))
      (sRet (eTup (aCons (eVar 1) (aCons (eBi bTuple (aCons (eVar 8) aNil)) (aCons (eBi bTuple (aCons (eVar 2) aNil)) aNil))))))))))
def f__law_seen_web (ds : List DL.D) (κ : Ka) : Re DL.D := noEr (mean 11 (m__law_seen_web) ds κ)
/-- _law_kind: slots 0 deal, 1 way, 2 q, 3 s -/
def m__law_kind : Es := (sSeq (sAsg (gNm 1) (eCall 2 DL.f__law_take (aCons (eVar 0) (aCons (eC (.int 6)) aNil))))
      (sSeq (sIf (bCmp cEq (eVar 1) (eC (.int 0))) (sRet (eTup (aCons (eC (.int 1)) (aCons (eC (.int 1)) (aCons (eC (.int 1)) (aCons (eC (.int 1)) aNil)))))) sNext)
      (sSeq (sIf (bCmp cEq (eVar 1) (eC (.int 1))) (sRet (eTup (aCons (eOp oSub (eC (.int 100)) (eCall 2 DL.f__law_take (aCons (eVar 0) (aCons (eC (.int 60)) aNil)))) (aCons (eC (.int 100)) (aCons (eOp oAdd (eC (.int 100)) (eCall 2 DL.f__law_take (aCons (eVar 0) (aCons (eC (.int 90)) aNil)))) (aCons (eC (.int 100)) aNil)))))) sNext)
      (sSeq (sIf (bCmp cEq (eVar 1) (eC (.int 2))) (sRet (eTup (aCons (eC (.int 1)) (aCons (eOp oAdd (eC (.int 1)) (eCall 2 DL.f__law_take (aCons (eVar 0) (aCons (eC (.int 3)) aNil)))) (aCons (eOp oAdd (eC (.int 1)) (eCall 2 DL.f__law_take (aCons (eVar 0) (aCons (eC (.int 3)) aNil)))) (aCons (eC (.int 1)) aNil)))))) sNext)
      (sSeq (sAsg (gNm 2) (eOp oAdd (eC (.int 1)) (eCall 2 DL.f__law_take (aCons (eVar 0) (aCons (eC (.int 12)) aNil)))))
      (sSeq (sAsg (gNm 3) (eOp oAdd (eC (.int 1)) (eCall 2 DL.f__law_take (aCons (eVar 0) (aCons (eC (.int 12)) aNil)))))
      (sRet (eTup (aCons (eOp oAdd (eC (.int 1)) (eCall 2 DL.f__law_take (aCons (eVar 0) (aCons (eVar 2) aNil)))) (aCons (eVar 2) (aCons (eOp oAdd (eVar 3) (eCall 2 DL.f__law_take (aCons (eVar 0) (aCons (eC (.int 9)) aNil)))) (aCons (eVar 3) aNil))))))))))))
def f__law_kind (ds : List DL.D) (κ : Ka) : Re DL.D := noEr (mean 4 (m__law_kind) ds κ)
/-- _law_low: slots 0 kind, 1 ticks -/
def m__law_low : Es := (sRet (eOp oFdiv (eOp oMul (eVar 1) (eIdx (eVar 0) (eC (.int 0)))) (eIdx (eVar 0) (eC (.int 1)))))
def f__law_low (ds : List DL.D) (κ : Ka) : Re DL.D := noEr (mean 2 (m__law_low) ds κ)
/-- _law_high: slots 0 kind, 1 ticks -/
def m__law_high : Es := (sRet (eOp oFdiv (eOp oSub (eOp oAdd (eOp oMul (eVar 1) (eIdx (eVar 0) (eC (.int 2)))) (eIdx (eVar 0) (eC (.int 3)))) (eC (.int 1))) (eIdx (eVar 0) (eC (.int 3)))))
def f__law_high (ds : List DL.D) (κ : Ka) : Re DL.D := noEr (mean 2 (m__law_high) ds κ)
/-- _law_clock: slots 0 deal, 1 kind, 2 last, 3 found, 4 way, 5 c, 6 low, 7 high, 8 a -/
def m__law_clock : Es := (sSeq (sOwn 3 (fLst (aCons (eC (.int 0)) aNil)))
      (sSeq (sAsg (gNm 4) (eCall 2 DL.f__law_take (aCons (eVar 0) (aCons (eC (.int 3)) aNil))))
      (sSeq (sForE (iRange2 (aCons (eC (.int 1)) (aCons (eOp oAdd (eVar 2) (eC (.int 1))) aNil))) (gNm 5) (sSeq (sAsg (gNm 6) (eBi bMax (aCons (eFr (eComp [8] (iRange1 (aCons (eVar 5) aNil)) (gNm 8) bYes (eOp oAdd (eIdx (eVar 3) (eVar 8)) (eCall 2 SH.f__law_low (aCons (eVar 1) (aCons (eOp oSub (eVar 5) (eVar 8)) aNil)))))) aNil)))
      (sSeq (sAsg (gNm 7) (eBi bMin (aCons (eFr (eComp [8] (iRange1 (aCons (eVar 5) aNil)) (gNm 8) bYes (eOp oAdd (eIdx (eVar 3) (eVar 8)) (eCall 2 SH.f__law_high (aCons (eVar 1) (aCons (eOp oSub (eVar 5) (eVar 8)) aNil)))))) aNil)))
      (sApp 3 (eIdx (eFr (fLst (aCons (eVar 6) (aCons (eVar 7) (aCons (eOp oAdd (eVar 6) (eCall 2 DL.f__law_take (aCons (eVar 0) (aCons (eOp oAdd (eBi bMin (aCons (eOp oSub (eVar 7) (eVar 6)) (aCons (eC (.int 900)) aNil))) (eC (.int 1))) aNil)))) aNil))))) (eIf (bCmp cEq (eVar 4) (eC (.int 0))) (eCall 2 DL.f__law_take (aCons (eVar 0) (aCons (eC (.int 3)) aNil))) (eVar 4)))))))
      (sRet (eBi bTuple (aCons (eVar 3) aNil))))))
def f__law_clock (ds : List DL.D) (κ : Ka) : Re DL.D := noEr (mean 9 (m__law_clock) ds κ)
/-- _law_floyd: slots 0 many, 1 rules, 2 far, 3 i, 4 j, 5 most, 6 k -/
def m__law_floyd : Es := (sSeq (sAsg (gNm 2) (eFr (eComp [3] (iRange1 (aCons (eVar 0) aNil)) (gNm 3) bYes (eSt (eComp [4] (iRange1 (aCons (eVar 0) aNil)) (gNm 4) bYes (eIf (bCmp cEq (eVar 3) (eVar 4)) (eC (.int 0)) (eC .non)))))))
      (sSeq (sForE (iAny false (eVar 1)) (gTu 3 (gsCons (gNm 3) (gsCons (gNm 4) (gsCons (gNm 5) gsNil)))) (sIf (bAnd (bCmp cNe (eVar 3) (eVar 4)) (bOr (bCmp cIs (eIdx (eIdx (eVar 2) (eVar 3)) (eVar 4)) (eC .non)) (bCmp cLt (eVar 5) (eIdx (eIdx (eVar 2) (eVar 3)) (eVar 4))))) (sSetO (eIdx (eVar 2) (eVar 3)) (eVar 4) (eVar 5)) sNext))
      (sSeq (sForE (iRange1 (aCons (eVar 0) aNil)) (gNm 6) (sForE (iRange1 (aCons (eVar 0) aNil)) (gNm 3) (sForE (iRange1 (aCons (eVar 0) aNil)) (gNm 4) (sIf (bAnd (bCmp cIsNot (eIdx (eIdx (eVar 2) (eVar 3)) (eVar 6)) (eC .non)) (bAnd (bCmp cIsNot (eIdx (eIdx (eVar 2) (eVar 6)) (eVar 4)) (eC .non)) (bOr (bCmp cIs (eIdx (eIdx (eVar 2) (eVar 3)) (eVar 4)) (eC .non)) (bCmp cLt (eOp oAdd (eIdx (eIdx (eVar 2) (eVar 3)) (eVar 6)) (eIdx (eIdx (eVar 2) (eVar 6)) (eVar 4))) (eIdx (eIdx (eVar 2) (eVar 3)) (eVar 4)))))) (sSetO (eIdx (eVar 2) (eVar 3)) (eVar 4) (eOp oAdd (eIdx (eIdx (eVar 2) (eVar 3)) (eVar 6)) (eIdx (eIdx (eVar 2) (eVar 6)) (eVar 4)))) sNext))))
      (sRet (eVar 2)))))
def f__law_floyd (ds : List DL.D) (κ : Ka) : Re DL.D := noEr (mean 7 (m__law_floyd) ds κ)
/-- _law_has_ring: slots 0 far, 1 k -/
def m__law_has_ring : Es := (sRet (eCmp cGt (eBi bLen (aCons (eFr (eComp [1] (iRange1 (aCons (eBi bLen (aCons (eVar 0) aNil)) aNil)) (gNm 1) (bCmp cLt (eIdx (eIdx (eVar 0) (eVar 1)) (eVar 1)) (eC (.int 0))) (eC (.int 1)))) aNil)) (eC (.int 0))))
def f__law_has_ring (ds : List DL.D) (κ : Ka) : Re DL.D := noEr (mean 2 (m__law_has_ring) ds κ)
end
end SH
set_option Elab.async false
set_option linter.all false
set_option maxRecDepth 100000
/-! BF: spreading along rules (Bellman and Ford), plain: what is found is reached, rests where nothing is found, and a ring below 0 where something is found to the last. -/
namespace BF
structure Ru where
  i : Nat
  j : Nat
  w : Int
/-- a walk along rules -/
inductive Wk (R : List Ru) : Nat → Nat → Int → Prop
  | nil {a : Nat} : Wk R a a 0
  | snoc {a b : Nat} {x : Int} {r : Ru} : Wk R a b x → r ∈ R → r.i = b → Wk R a r.j (x + r.w)
theorem Wk.app {R : List Ru} {a b : Nat} {x : Int} (h : Wk R a b x) {c : Nat} {y : Int} (g : Wk R b c y) : Wk R a c (x + y) := by
  induction g with
  | nil => rw [Int.add_zero]; exact h
  | snoc g m e ih => rw [← Int.add_assoc]; exact .snoc ih m e
theorem Wk.one {R : List Ru} {r : Ru} (hr : r ∈ R) : Wk R r.i r.j r.w := by
  have := Wk.snoc (R := R) .nil hr rfl
  rwa [Int.zero_add] at this
structure S where
  far : Nat → Option Int
  last : Nat → Option Nat
def put {α : Type} (f : Nat → α) (i : Nat) (x : α) : Nat → α := fun k => if k = i then x else f k
theorem put_same {α : Type} {f : Nat → α} {i : Nat} {x : α} : put f i x i = x := if_pos rfl
theorem put_ne {α : Type} {f : Nat → α} {i k : Nat} {x : α} (h : k ≠ i) : put f i x k = f k := if_neg h
/-- less than what may be none -/
def ltO (a : Int) : Option Int → Bool
  | none => true
  | some b => decide (a < b)
def relax (s : S) (k : Nat) (r : Ru) : S × Option Nat := match s.far r.i with
  | none => (s, none)
  | some d => if ltO (d + r.w) (s.far r.j) = true then (⟨put s.far r.j (some (d + r.w)), put s.last r.j (some k)⟩, some r.j) else (s, none)
def stepF : List Ru → Nat → S → Option Nat → S × Option Nat
  | [], _, s, f => (s, f)
  | r :: rs, k, s, f => stepF rs (k + 1) (relax s k r).1 ((relax s k r).2.or f)
/-- the rule holds -/
def Sat (s : S) (r : Ru) : Prop := ∀ e, s.far r.i = some e → ∃ d, s.far r.j = some d ∧ d ≤ e + r.w
structure Gh where
  T : Nat → Nat
  rd : Nat → Nat
  now : Nat
structure Inv (R : List Ru) (src : Nat → Prop) (t p : Nat) (s : S) (g : Gh) : Prop where
  walk : ∀ v d, s.far v = some d → ∃ a, src a ∧ Wk R a v d
  non : ∀ v, s.last v = none → g.rd v = 0
  par : ∀ v k, s.last v = some k → ∃ r e d, R[k]? = some r ∧ r.j = v ∧ s.far r.i = some e ∧ s.far v = some d ∧ e + r.w ≤ d ∧ (g.T r.i < g.T v ∨ e + r.w < d) ∧ g.rd v ≤ g.rd r.i + 1
  tim : ∀ v, g.T v ≤ g.now
  rdl : ∀ v, g.rd v ≤ t
  act : ∀ k r e, R[k]? = some r → s.far r.i = some e → (∃ d, s.far r.j = some d ∧ d ≤ e + r.w) ∨ (if k < p then t else t - 1) ≤ g.rd r.i
  src0 : ∀ a, src a → ∃ d, s.far a = some d ∧ d ≤ 0
section
variable {R : List Ru} {src : Nat → Prop} {t p n : Nat} {s s' : S} {g : Gh}
theorem ltO_some {a b : Int} (h : ltO a (some b) = true) : a < b := of_decide_eq_true h
theorem relax_inv (hr : ∀ r ∈ R, r.i ≠ r.j) (ht : 0 < t) {r : Ru} (hp : R[p]? = some r) (I : Inv R src t p s g) :
    ∃ g', Inv R src t (p + 1) (relax s p r).1 g' ∧ (∀ v, (relax s p r).2 = some v → g'.rd v = t) ∧ (∀ v, g.rd v = t → g'.rd v = t) := by
  have hm : r ∈ R := List.mem_of_getElem? hp
  unfold relax
  cases he : s.far r.i with
  | none =>
    refine ⟨g, ⟨I.walk, I.non, I.par, I.tim, I.rdl, fun k r' e hk hf => ?_, I.src0⟩, fun v h => (by simp at h), fun v h => h⟩
    by_cases hkp : k = p
    · subst hkp; rw [hp] at hk; cases hk; rw [he] at hf; cases hf
    · rcases I.act k r' e hk hf with h | h
      · exact .inl h
      · refine .inr (Nat.le_trans ?_ h)
        by_cases h1 : k < p
        · rw [if_pos h1, if_pos (by omega)]; exact Nat.le_refl _
        · rw [if_neg h1, if_neg (by omega)]; exact Nat.le_refl _
  | some d =>
    simp only
    by_cases hl : ltO (d + r.w) (s.far r.j) = true
    · rw [if_pos hl]
      have hne : r.i ≠ r.j := hr r hm
      have hrd : t - 1 ≤ g.rd r.i := by
        rcases I.act p r d hp he with ⟨d', h1, h2⟩ | h
        · rw [h1] at hl; have := ltO_some hl; omega
        · rw [if_neg (Nat.lt_irrefl _)] at h; exact h
      refine ⟨⟨put g.T r.j (g.now + 1), put g.rd r.j t, g.now + 1⟩, ⟨fun v x hv => ?_, fun v hv => ?_, fun v k hv => ?_, fun v => ?_, fun v => ?_, fun k r' e hk hf => ?_, fun a ha => ?_⟩, fun v h => ?_, fun v h => ?_⟩
      · by_cases hvj : v = r.j
        · subst hvj
          simp only [put_same] at hv
          cases hv
          obtain ⟨a, ha, w⟩ := I.walk _ _ he
          exact ⟨a, ha, .snoc w hm rfl⟩
        · simp only [put_ne hvj] at hv
          exact I.walk _ _ hv
      · by_cases hvj : v = r.j
        · subst hvj; simp only [put_same] at hv; cases hv
        · simp only [put_ne hvj] at hv ⊢; exact I.non _ hv
      · by_cases hvj : v = r.j
        · subst hvj
          simp only [put_same] at hv
          cases hv
          refine ⟨r, d, d + r.w, hp, rfl, by simp only [put_ne hne]; exact he, by simp only [put_same], Int.le_refl _, .inl ?_, ?_⟩
          · simp only [put_same, put_ne hne]; have := I.tim r.i; omega
          · simp only [put_same, put_ne hne]; omega
        · simp only [put_ne hvj] at hv
          obtain ⟨r', e, x, h1, h2, h3, h4, h5, h6, h7⟩ := I.par v k hv
          by_cases hij : r'.i = r.j
          · rw [hij] at h3
            rw [h3] at hl
            have := ltO_some hl
            refine ⟨r', d + r.w, x, h1, h2, by rw [hij]; simp only [put_same], by simp only [put_ne hvj]; exact h4, by omega, .inr (by omega), ?_⟩
            rw [hij]
            simp only [put_ne hvj, put_same]
            have h8 := I.rdl v
            omega
          · refine ⟨r', e, x, h1, h2, by simp only [put_ne hij]; exact h3, by simp only [put_ne hvj]; exact h4, h5, ?_, ?_⟩
            · simp only [put_ne hij, put_ne hvj]; exact h6
            · simp only [put_ne hij, put_ne hvj]; exact h7
      · by_cases hvj : v = r.j
        · subst hvj; simp only [put_same]; exact Nat.le_refl _
        · simp only [put_ne hvj]; have := I.tim v; omega
      · by_cases hvj : v = r.j
        · subst hvj; simp only [put_same]; exact Nat.le_refl _
        · simp only [put_ne hvj]; exact I.rdl v
      · by_cases hij : r'.i = r.j
        · refine .inr ?_
          rw [hij]; simp only [put_same]
          split <;> omega
        · simp only [put_ne hij] at hf ⊢
          by_cases hkp : k = p
          · subst hkp
            rw [hp] at hk; cases hk
            rw [he] at hf; cases hf
            exact .inl ⟨d + r.w, by simp only [put_same], Int.le_refl _⟩
          · have hh : (∃ d', put s.far r.j (some (d + r.w)) r'.j = some d' ∧ d' ≤ e + r'.w) ∨ (if k < p then t else t - 1) ≤ g.rd r'.i := by
              rcases I.act k r' e hk hf with ⟨d', h1, h2⟩ | h
              · refine .inl ?_
                by_cases hjj : r'.j = r.j
                · rw [hjj] at h1
                  rw [h1] at hl
                  have := ltO_some hl
                  exact ⟨d + r.w, by rw [hjj]; simp only [put_same], by omega⟩
                · exact ⟨d', by simp only [put_ne hjj]; exact h1, h2⟩
              · exact .inr h
            rcases hh with h | h
            · exact .inl h
            · refine .inr (Nat.le_trans ?_ h)
              by_cases h1 : k < p
              · rw [if_pos h1, if_pos (by omega)]; exact Nat.le_refl _
              · rw [if_neg h1, if_neg (by omega)]; exact Nat.le_refl _
      · obtain ⟨x, h1, h2⟩ := I.src0 a ha
        by_cases haj : a = r.j
        · subst haj
          rw [h1] at hl
          have := ltO_some hl
          exact ⟨d + r.w, by simp only [put_same], by omega⟩
        · exact ⟨x, by simp only [put_ne haj]; exact h1, h2⟩
      · simp only [Option.some.injEq] at h; subst h; simp only [put_same]
      · by_cases hvj : v = r.j
        · subst hvj; simp only [put_same]
        · simp only [put_ne hvj]; exact h
    · rw [if_neg hl]
      refine ⟨g, ⟨I.walk, I.non, I.par, I.tim, I.rdl, fun k r' e hk hf => ?_, I.src0⟩, fun v h => (by simp at h), fun v h => h⟩
      by_cases hkp : k = p
      · subst hkp
        rw [hp] at hk; cases hk
        rw [he] at hf; cases hf
        cases hj : s.far r.j with
        | none => rw [hj] at hl; exact absurd rfl hl
        | some x =>
          rw [hj] at hl
          refine .inl ⟨x, rfl, ?_⟩
          have : ¬ d + r.w < x := fun q => hl (decide_eq_true q)
          omega
      · rcases I.act k r' e hk hf with h | h
        · exact .inl h
        · refine .inr (Nat.le_trans ?_ h)
          by_cases h1 : k < p
          · rw [if_pos h1, if_pos (by omega)]; exact Nat.le_refl _
          · rw [if_neg h1, if_neg (by omega)]; exact Nat.le_refl _
/-- a whole round -/
theorem stepF_inv (hr : ∀ r ∈ R, r.i ≠ r.j) (ht : 0 < t) : ∀ (rs : List Ru) (p : Nat) (s : S) (g : Gh) (f : Option Nat), (∀ q r, rs[q]? = some r → R[p + q]? = some r) → Inv R src t p s g → (∀ v, f = some v → g.rd v = t) →
    ∃ g', Inv R src t (p + rs.length) (stepF rs p s f).1 g' ∧ ∀ v, (stepF rs p s f).2 = some v → g'.rd v = t
  | [], p, s, g, f, _, I, hf => ⟨g, I, hf⟩
  | r :: rs, p, s, g, f, h, I, hf => by
    obtain ⟨g1, I1, h1, h2⟩ := relax_inv hr ht (h 0 r rfl) I
    obtain ⟨g2, I2, h3⟩ := stepF_inv hr ht rs (p + 1) (relax s p r).1 g1 ((relax s p r).2.or f) (fun q r' e => by
      have := h (q + 1) r' e
      rw [show p + (q + 1) = p + 1 + q by omega] at this
      exact this) I1 (fun v hv => by
      cases e : (relax s p r).2 with
      | none => rw [e] at hv; exact h2 v (hf v (by simpa using hv))
      | some u => rw [e] at hv; simp at hv; subst hv; exact h1 u e)
    refine ⟨g2, ?_, h3⟩
    rw [List.length_cons, show p + (rs.length + 1) = p + 1 + rs.length by omega]
    exact I2
/-- a round that finds nothing changes nothing: all rules hold -/
theorem stepF_none : ∀ (rs : List Ru) (p : Nat) (s : S) (f : Option Nat), (stepF rs p s f).2 = none → f = none ∧ (stepF rs p s f).1 = s ∧ ∀ r ∈ rs, Sat s r
  | [], p, s, f, h => ⟨h, rfl, by simp⟩
  | r :: rs, p, s, f, h => by
    obtain ⟨h1, h2, h3⟩ := stepF_none rs (p + 1) (relax s p r).1 ((relax s p r).2.or f) h
    have hn : (relax s p r).2 = none := by
      cases e : (relax s p r).2 with
      | none => rfl
      | some u => rw [e] at h1; simp at h1
    have hf : f = none := by rw [hn] at h1; simpa using h1
    have key : (relax s p r).1 = s ∧ Sat s r := by
      unfold relax at hn ⊢
      cases he : s.far r.i with
      | none => exact ⟨rfl, fun e q => by rw [he] at q; cases q⟩
      | some d =>
        rw [he] at hn
        simp only at hn ⊢
        by_cases hl : ltO (d + r.w) (s.far r.j) = true
        · rw [if_pos hl] at hn; cases hn
        · rw [if_neg hl]
          refine ⟨rfl, fun e q => ?_⟩
          rw [he] at q; cases q
          cases hj : s.far r.j with
          | none => rw [hj] at hl; exact absurd rfl hl
          | some x =>
            rw [hj] at hl
            have : ¬ d + r.w < x := fun q => hl (decide_eq_true q)
            exact ⟨x, rfl, by omega⟩
    refine ⟨hf, ?_, ?_⟩
    · show (stepF rs (p + 1) (relax s p r).1 ((relax s p r).2.or f)).1 = s
      rw [key.1] at h2 ⊢; exact h2
    · intro r' hr'
      rcases List.mem_cons.mp hr' with rfl | hr'
      · exact key.2
      · have := h3 r' hr'; rwa [key.1] at this
/-- turns rounds, or less where one finds nothing -/
def spreadF (R : List Ru) : Nat → S → S × Option Nat
  | 0, s => (s, none)
  | 1, s => stepF R 0 s none
  | n + 2, s => match (stepF R 0 s none).2 with
    | none => ((stepF R 0 s none).1, none)
    | some _ => spreadF R (n + 1) (stepF R 0 s none).1
theorem Inv.next (I : Inv R src t R.length s g) : Inv R src (t + 1) 0 s g :=
  ⟨I.walk, I.non, I.par, I.tim, fun v => Nat.le_succ_of_le (I.rdl v), fun k r e hk hf => by
    rcases I.act k r e hk hf with h | h
    · exact .inl h
    · have := (List.getElem?_eq_some_iff.mp hk).1
      rw [if_pos this] at h
      exact .inr (by rw [if_neg (by omega)]; exact h), I.src0⟩
theorem spreadF_ok (hr : ∀ r ∈ R, r.i ≠ r.j) : ∀ (n t : Nat) (s : S) (g : Gh), Inv R src (t + 1) 0 s g → 0 < n →
    (∃ t' g', Inv R src t' R.length (spreadF R n s).1 g') ∧ (((spreadF R n s).2 = none ∧ ∀ r ∈ R, Sat (spreadF R n s).1 r) ∨ ∃ v g', (spreadF R n s).2 = some v ∧ Inv R src (t + n) R.length (spreadF R n s).1 g' ∧ g'.rd v = t + n)
  | 0, t, s, g, I, h => absurd h (by omega)
  | 1, t, s, g, I, _ => by
    obtain ⟨g1, I1, h1⟩ := stepF_inv hr (by omega) R 0 s g none (fun q r e => by rw [Nat.zero_add]; exact e) I (fun v h => by cases h)
    rw [Nat.zero_add] at I1
    refine ⟨⟨_, g1, I1⟩, ?_⟩
    show (((stepF R 0 s none).2 = none ∧ _) ∨ _)
    cases e : (stepF R 0 s none).2 with
    | none =>
      obtain ⟨_, h2, h3⟩ := stepF_none R 0 s none e
      exact .inl ⟨rfl, fun r hm => by show Sat (stepF R 0 s none).1 r; rw [h2]; exact h3 r hm⟩
    | some v => exact .inr ⟨v, g1, e, I1, h1 v e⟩
  | n + 2, t, s, g, I, _ => by
    obtain ⟨g1, I1, h1⟩ := stepF_inv hr (by omega) R 0 s g none (fun q r e => by rw [Nat.zero_add]; exact e) I (fun v h => by cases h)
    rw [Nat.zero_add] at I1
    unfold spreadF
    cases e : (stepF R 0 s none).2 with
    | none =>
      obtain ⟨_, h2, h3⟩ := stepF_none R 0 s none e
      exact ⟨⟨_, g1, I1⟩, .inl ⟨rfl, fun r hm => by show Sat (stepF R 0 s none).1 r; rw [h2]; exact h3 r hm⟩⟩
    | some v =>
      have := spreadF_ok hr (n + 1) (t + 1) _ g1 I1.next (by omega)
      rw [show t + 1 + (n + 1) = t + (n + 2) by omega] at this
      exact this
/-- the start: 0 at the sources -/
def startS (src : Nat → Bool) : S := ⟨fun v => if src v = true then some 0 else none, fun _ => none⟩
theorem start_inv {src : Nat → Bool} : Inv R (fun a => src a = true) 1 0 (startS src) ⟨fun _ => 0, fun _ => 0, 0⟩ :=
  by
  refine ⟨fun v d h => ?_, fun _ _ => rfl, fun v k h => ?_, fun _ => Nat.le_refl _, fun _ => Nat.zero_le _, fun k r e hk hf => ?_, fun a ha => ?_⟩
  · unfold startS at h
    simp only at h
    split at h
    · rename_i hs; cases h; exact ⟨v, hs, .nil⟩
    · cases h
  · cases h
  · exact .inr (by simp)
  · exact ⟨0, by unfold startS; simp only; rw [if_pos ha], Int.le_refl _⟩
end
end BF
set_option Elab.async false
set_option linter.all false
set_option maxRecDepth 100000
/-! BG: shortest walks where it rests; the ring where it does not. -/
namespace BF
section
variable {R : List Ru} {src : Nat → Prop} {t p n : Nat} {s s' : S} {g : Gh}
/-- at rest nothing shorter is reached -/
theorem sat_walk (h : ∀ r ∈ R, Sat s r) {a v : Nat} {x e : Int} (w : Wk R a v x) (ha : s.far a = some e) : ∃ d, s.far v = some d ∧ d ≤ e + x := by
  induction w with
  | nil => exact ⟨e, ha, by omega⟩
  | snoc w m e2 ih =>
    obtain ⟨d, h1, h2⟩ := ih
    subst e2
    obtain ⟨d', h3, h4⟩ := h _ m d h1
    exact ⟨d', h3, by omega⟩
/-- at rest no ring lies below 0 where something is reached -/
theorem sat_ring (h : ∀ r ∈ R, Sat s r) {a : Nat} {x e : Int} (w : Wk R a a x) (ha : s.far a = some e) : 0 ≤ x := by
  obtain ⟨d, h1, h2⟩ := sat_walk h w ha
  rw [ha] at h1; cases h1; omega
def up (R : List Ru) (s : S) (v : Nat) : Nat := match s.last v with
  | some k => match R[k]? with
    | some r => r.i
    | none => v
  | none => v
def upN (R : List Ru) (s : S) : Nat → Nat → Nat
  | 0, v => v
  | m + 1, v => up R s (upN R s m v)
theorem upN_add (x y v : Nat) : upN R s (x + y) v = upN R s x (upN R s y v) := by
  induction x with
  | zero => rw [Nat.zero_add]; rfl
  | succ x ih => rw [Nat.succ_add]; show up R s (upN R s (x + y) v) = up R s (upN R s x (upN R s y v)); rw [ih]
/-- v has a last rule -/
def Led (R : List Ru) (s : S) (v : Nat) : Prop := ∃ k r, s.last v = some k ∧ R[k]? = some r ∧ r.j = v ∧ r.i = up R s v
theorem Inv.led (I : Inv R src t p s g) {v : Nat} (h : g.rd v ≠ 0) : Led R s v ∧ g.rd v ≤ g.rd (up R s v) + 1 := by
  cases hl : s.last v with
  | none => exact absurd (I.non v hl) h
  | some k =>
    obtain ⟨r, e, d, h1, h2, h3, h4, h5, h6, h7⟩ := I.par v k hl
    have hu : up R s v = r.i := by unfold up; rw [hl]; simp only [h1]
    exact ⟨⟨k, r, hl, h1, h2, hu.symm⟩, by rw [hu]; exact h7⟩
theorem Inv.rdN (I : Inv R src t p s g) (v : Nat) : ∀ m : Nat, m ≤ g.rd v → g.rd v - m ≤ g.rd (upN R s m v)
  | 0, _ => Nat.le_refl _
  | m + 1, h => by
    have h1 := Inv.rdN I v m (by omega)
    have h2 := (I.led (v := upN R s m v) (by omega)).2
    show g.rd v - (m + 1) ≤ g.rd (up R s (upN R s m v))
    omega
theorem Inv.ledN (I : Inv R src t p s g) (v : Nat) {m : Nat} (h : m < g.rd v) : Led R s (upN R s m v) := by
  have h1 := I.rdN v m (by omega)
  exact (I.led (by omega)).1
/-- more steps than places: one place twice -/
theorem pigeon : ∀ (n : Nat) (f : Nat → Nat), (∀ m, m ≤ n → f m < n) → ∃ a b, a < b ∧ b ≤ n ∧ f a = f b
  | 0, f, h => absurd (h 0 (Nat.le_refl _)) (Nat.not_lt_zero _)
  | n + 1, f, h => by
    by_cases hc : ∃ m, m ≤ n ∧ f m = f (n + 1)
    · obtain ⟨m, h1, h2⟩ := hc
      exact ⟨m, n + 1, by omega, Nat.le_refl _, h2⟩
    · -- swap the value of the last place with the greatest
      have hne : ∀ m, m ≤ n → f m ≠ f (n + 1) := fun m hm e => hc ⟨m, hm, e⟩
      obtain ⟨a, b, h1, h2, h3⟩ := pigeon n (fun m => if f m = n then f (n + 1) else f m) (fun m hm => by
        have h4 := h m (by omega)
        have h5 := h (n + 1) (Nat.le_refl _)
        have h6 := hne m hm
        show (if f m = n then f (n + 1) else f m) < n
        split <;> omega)
      refine ⟨a, b, h1, by omega, ?_⟩
      have ha := hne a (by omega)
      have hb := hne b (by omega)
      skip
      split at h3 <;> split at h3 <;> omega
theorem least {P : Nat → Prop} : ∀ c : Nat, P c → ∃ c', P c' ∧ c' ≤ c ∧ ∀ q, q < c' → ¬ P q := by
  intro c
  induction c using Nat.strongRecOn with
  | _ c ih =>
    intro h
    by_cases hx : ∃ q, q < c ∧ P q
    · obtain ⟨q, h1, h2⟩ := hx
      obtain ⟨c', a, b, d⟩ := ih q h1 h2
      exact ⟨c', a, by omega, d⟩
    · exact ⟨c, h, Nat.le_refl _, fun q hq hp => hx ⟨q, hq, hp⟩⟩
/-- the rule by which v was reached last -/
def lw (R : List Ru) (s : S) (v : Nat) : Int := match s.last v with
  | some k => match R[k]? with
    | some r => r.w
    | none => 0
  | none => 0
def wsum (R : List Ru) (s : S) : Nat → Nat → Int
  | 0, _ => 0
  | c + 1, v => wsum R s c v + lw R s (upN R s c v)
theorem Inv.edge (I : Inv R src t p s g) {v : Nat} (h : Led R s v) : ∃ e d, s.far (up R s v) = some e ∧ s.far v = some d ∧ e + lw R s v ≤ d ∧ (g.T (up R s v) < g.T v ∨ e + lw R s v < d) := by
  obtain ⟨k, r, hl, hr, _, hu⟩ := h
  obtain ⟨r', e, d, h1, h2, h3, h4, h5, h6, h7⟩ := I.par v k hl
  rw [hr] at h1; cases h1
  have hw : lw R s v = r.w := by unfold lw; rw [hl]; simp only [hr]
  rw [← hu, hw]
  exact ⟨e, d, h3, h4, h5, h6⟩
theorem Inv.chain (I : Inv R src t p s g) {v : Nat} (h : ∀ q, Led R s (upN R s q v)) : ∀ c : Nat, ∃ e d, s.far (upN R s c v) = some e ∧ s.far v = some d ∧ e + wsum R s c v ≤ d ∧ (c ≠ 0 → (g.T (upN R s c v) < g.T v ∨ e + wsum R s c v < d))
  | 0 => by
    obtain ⟨e, d, h1, h2, h3, h4⟩ := I.edge (h 0)
    exact ⟨d, d, h2, h2, by show d + 0 ≤ d; omega, fun q => absurd rfl q⟩
  | c + 1 => by
    obtain ⟨e, d, h1, h2, h3, h4⟩ := Inv.chain I h c
    obtain ⟨e', d', k1, k2, k3, k4⟩ := I.edge (h c)
    rw [h1] at k2; cases k2
    refine ⟨e', d, k1, h2, by show e' + (wsum R s c v + lw R s (upN R s c v)) ≤ d; omega, fun _ => ?_⟩
    show g.T (up R s (upN R s c v)) < g.T v ∨ e' + (wsum R s c v + lw R s (upN R s c v)) < d
    by_cases hc : c = 0
    · subst hc
      have hT : upN R s 0 v = v := rfl
      rw [hT] at k4 ⊢ h1
      rw [h1] at h2; cases h2
      have hz : wsum R s 0 v = 0 := rfl
      rcases k4 with k4 | k4
      · exact .inl k4
      · exact .inr (by omega)
    · rcases h4 hc with q | q
      · rcases k4 with k4 | k4
        · exact .inl (by omega)
        · exact .inr (by omega)
      · exact .inr (by omega)
/-- the ring -/
theorem ring_ok (I : Inv R src t p s g) {v : Nat} (hn : ∀ r ∈ R, r.i < n ∧ r.j < n) (hv : v < n) (hg : g.rd v = n) :
    ∃ c, 1 ≤ c ∧ c ≤ n ∧ (∀ q, q < n → Led R s (upN R s q v)) ∧ (∀ q, Led R s (upN R s q (upN R s n v))) ∧ upN R s c (upN R s n v) = upN R s n v ∧ (∀ q, 1 ≤ q → q < c → upN R s q (upN R s n v) ≠ upN R s n v) ∧ wsum R s c (upN R s n v) < 0 := by
  have led : ∀ q, q < n → Led R s (upN R s q v) := fun q hq => I.ledN v (by omega)
  have upb : ∀ {u : Nat}, u < n → up R s u < n := fun {u} hu => by
    unfold up
    split
    · split
      · rename_i r hr; exact (hn r (List.mem_of_getElem? hr)).1
      · exact hu
    · exact hu
  have bd : ∀ m, upN R s m v < n := fun m => by
    induction m with
    | zero => exact hv
    | succ m ih => exact upb ih
  obtain ⟨a, b, hab, hbn, he⟩ := pigeon n (fun m => upN R s m v) (fun m _ => bd m)
  skip
  have back : ∀ q, a ≤ q → ∃ i, a ≤ i ∧ i < b ∧ upN R s q v = upN R s i v := fun q hq => by
    induction q with
    | zero => exact ⟨0, hq, by omega, rfl⟩
    | succ q ih =>
      by_cases h0 : a ≤ q
      · obtain ⟨i, h1, h2, h3⟩ := ih h0
        by_cases hi : i + 1 < b
        · exact ⟨i + 1, by omega, hi, by show up R s (upN R s q v) = up R s (upN R s i v); rw [h3]⟩
        · have : i + 1 = b := by omega
          refine ⟨a, Nat.le_refl _, hab, ?_⟩
          rw [he, ← this]
          show up R s (upN R s q v) = up R s (upN R s i v); rw [h3]
      · exact ⟨q + 1, hq, by omega, rfl⟩
  obtain ⟨i, h1, h2, h3⟩ := back n (by omega)
  have hcyc : upN R s (b - a) (upN R s n v) = upN R s n v := by
    rw [h3, ← upN_add, show b - a + i = (i - a) + b by omega, upN_add, ← he, ← upN_add, show i - a + a = i by omega]
  obtain ⟨c, ⟨c1, c2⟩, c3, c4⟩ := least (P := fun c => 1 ≤ c ∧ upN R s c (upN R s n v) = upN R s n v) (b - a) ⟨by omega, hcyc⟩
  have ledA : ∀ q, Led R s (upN R s q (upN R s n v)) := fun q => by
    rw [← upN_add]
    obtain ⟨i, k1, k2, k3⟩ := back (q + n) (by omega)
    rw [k3]
    exact led i (by omega)
  refine ⟨c, c1, by omega, led, ledA, c2, fun q q1 q2 q3 => c4 q q2 ⟨q1, q3⟩, ?_⟩
  obtain ⟨e, d, f1, f2, f3, f4⟩ := I.chain ledA c
  rw [c2] at f1 f4
  rw [f1] at f2; cases f2
  rcases f4 (by omega) with q | q
  · omega
  · omega
end
end BF
set_option Elab.async false
set_option linter.all false
set_option maxRecDepth 100000
/-! BH: Floyd's table, in place: each entry is a walk; without a ring below 0 it is the shortest. -/
namespace BF
abbrev Tb := Nat → Nat → Option Int
def put2 (D : Tb) (i j : Nat) (x : Option Int) : Tb := fun a b => if a = i ∧ b = j then x else D a b
def less (D : Tb) (i j : Nat) (x : Int) : Tb := if ltO x (D i j) = true then put2 D i j (some x) else D
def cellU (D : Tb) (k i j : Nat) : Tb := match D i k, D k j with
  | some a, some b => less D i j (a + b)
  | _, _ => D
def flJ (D : Tb) (k i : Nat) : Nat → Tb
  | 0 => D
  | m + 1 => cellU (flJ D k i m) k i m
def flI (n : Nat) (D : Tb) (k : Nat) : Nat → Tb
  | 0 => D
  | m + 1 => flJ (flI n D k m) k m n
def flK (n : Nat) (D : Tb) : Nat → Tb
  | 0 => D
  | m + 1 => flI n (flK n D m) m n
def edgeU (D : Tb) (r : Ru) : Tb := if r.i = r.j then D else less D r.i r.j r.w
def flE : List Ru → Tb → Tb
  | [], D => D
  | r :: rs, D => flE rs (edgeU D r)
def fl0 (n : Nat) : Tb := fun i j => if i = j ∧ i < n then some 0 else none
def floyd (n : Nat) (R : List Ru) : Tb := flK n (flE R (fl0 n)) n
/-- nowhere greater -/
def Le (E D : Tb) : Prop := ∀ i j d, D i j = some d → ∃ c, E i j = some c ∧ c ≤ d
theorem Le.refl (D : Tb) : Le D D := fun i j d h => ⟨d, h, Int.le_refl _⟩
theorem Le.trans {A B C : Tb} (h : Le A B) (g : Le B C) : Le A C := fun i j d q => by
  obtain ⟨c, h1, h2⟩ := g i j d q
  obtain ⟨e, h3, h4⟩ := h i j c h1
  exact ⟨e, h3, by omega⟩
theorem less_le {D : Tb} {i j : Nat} {x : Int} : Le (less D i j x) D := fun a b d h => by
  unfold less
  by_cases hl : ltO x (D i j) = true
  · rw [if_pos hl]
    unfold put2
    by_cases hab : a = i ∧ b = j
    · rw [if_pos hab]
      obtain ⟨rfl, rfl⟩ := hab
      rw [h] at hl
      have := ltO_some hl
      exact ⟨x, rfl, by omega⟩
    · rw [if_neg hab]; exact ⟨d, h, Int.le_refl _⟩
  · rw [if_neg hl]; exact ⟨d, h, Int.le_refl _⟩
theorem less_at {D : Tb} {i j : Nat} {x : Int} : ∃ c, less D i j x i j = some c ∧ c ≤ x := by
  unfold less
  by_cases hl : ltO x (D i j) = true
  · rw [if_pos hl]; unfold put2; rw [if_pos ⟨rfl, rfl⟩]; exact ⟨x, rfl, Int.le_refl _⟩
  · rw [if_neg hl]
    cases h : D i j with
    | none => rw [h] at hl; exact absurd rfl hl
    | some d =>
      rw [h] at hl
      have : ¬ x < d := fun q => hl (decide_eq_true q)
      exact ⟨d, rfl, by omega⟩
theorem less_or {D : Tb} {i j a b : Nat} {x c : Int} (h : less D i j x a b = some c) : D a b = some c ∨ (a = i ∧ b = j ∧ c = x) := by
  unfold less at h
  split at h
  · unfold put2 at h
    split at h
    · rename_i q; cases h; exact .inr ⟨q.1, q.2, rfl⟩
    · exact .inl h
  · exact .inl h
def Snd (R : List Ru) (D : Tb) : Prop := ∀ i j x, D i j = some x → Wk R i j x
section
variable {R : List Ru} {n : Nat} {D E : Tb} {k i j : Nat}
theorem cell_le : Le (cellU D k i j) D := by
  unfold cellU
  split
  · exact less_le
  · exact Le.refl _
theorem cell_snd (h : Snd R D) : Snd R (cellU D k i j) := by
  unfold cellU
  split
  · rename_i a b ha hb
    intro u v x hx
    rcases less_or hx with q | ⟨rfl, rfl, rfl⟩
    · exact h _ _ _ q
    · exact (h _ _ _ ha).app (h _ _ _ hb)
  · exact h
theorem flJ_all {P : Tb → Prop} (hc : ∀ D j, P D → P (cellU D k i j)) (h : P D) : ∀ m, P (flJ D k i m)
  | 0 => h
  | m + 1 => hc _ _ (flJ_all hc h m)
theorem flI_all {P : Tb → Prop} (hc : ∀ D i j, P D → P (cellU D k i j)) (h : P D) : ∀ m, P (flI n D k m)
  | 0 => h
  | m + 1 => flJ_all (fun D j => hc D m j) (flI_all hc h m) n
theorem flK_all {P : Tb → Prop} (hc : ∀ D k i j, P D → P (cellU D k i j)) (h : P D) : ∀ m, P (flK n D m)
  | 0 => h
  | m + 1 => flI_all (fun D i j => hc D m i j) (flK_all hc h m) n
theorem flI_le (m : Nat) : Le (flI n D k m) D := flI_all (P := fun E => Le E D) (fun E i j h => cell_le.trans h) (Le.refl _) m
theorem flK_le : ∀ {m q : Nat}, m ≤ q → Le (flK n D q) (flK n D m)
  | m, 0, h => by
    have e : m = 0 := by omega
    subst e; exact Le.refl _
  | m, q + 1, h => by
    by_cases e : m = q + 1
    · subst e; exact Le.refl _
    · exact (flI_le n).trans (flK_le (by omega))
/-- within the k-th pass: row and column k stand, each entry is old or by k -/
structure Pass (D E : Tb) (k : Nat) : Prop where
  col : ∀ i, E i k = D i k
  row : ∀ j, E k j = D k j
  oldk : ∀ i j c, E i j = some c → D i j = some c ∨ ∃ a b, D i k = some a ∧ D k j = some b ∧ c = a + b
  le : Le E D
theorem pass_cell (h0 : ∀ x, D k k = some x → 0 ≤ x) (P : Pass D E k) (i j : Nat) : Pass D (cellU E k i j) k ∧ ∀ a b, D i k = some a → D k j = some b → ∃ c, cellU E k i j i j = some c ∧ c ≤ a + b := by
  unfold cellU
  cases ha : E i k with
  | none => exact ⟨P, fun a b q _ => by rw [P.col] at ha; rw [ha] at q; cases q⟩
  | some a =>
    cases hb : E k j with
    | none => exact ⟨P, fun a b _ q => by rw [P.row] at hb; rw [hb] at q; cases q⟩
    | some b =>
      simp only
      have ha' := ha
      have hb' := hb
      rw [P.col] at ha'
      rw [P.row] at hb'
      refine ⟨⟨fun u => ?_, fun u => ?_, fun u v c h => ?_, less_le.trans P.le⟩, fun a2 b2 q1 q2 => ?_⟩
      · rw [← P.col u]
        unfold less
        split
        · rename_i hl
          unfold put2
          split
          · rename_i q
            obtain ⟨rfl, rfl⟩ := q
            -- j = k: a + b < a
            rw [ha] at hl
            have := ltO_some hl
            have := h0 b hb'
            omega
          · rfl
        · rfl
      · rw [← P.row u]
        unfold less
        split
        · rename_i hl
          unfold put2
          split
          · rename_i q
            obtain ⟨rfl, rfl⟩ := q
            rw [hb] at hl
            have := ltO_some hl
            have := h0 a ha'
            omega
          · rfl
        · rfl
      · rcases less_or h with q | ⟨rfl, rfl, rfl⟩
        · exact P.oldk u v c q
        · exact .inr ⟨a, b, ha', hb', rfl⟩
      · rw [ha'] at q1; cases q1
        rw [hb'] at q2; cases q2
        exact less_at
theorem pass_J (h0 : ∀ x, D k k = some x → 0 ≤ x) (P : Pass D E k) (i : Nat) : ∀ m : Nat, Pass D (flJ E k i m) k ∧ Le (flJ E k i m) E ∧ ∀ j, j < m → ∀ a b, D i k = some a → D k j = some b → ∃ c, flJ E k i m i j = some c ∧ c ≤ a + b
  | 0 => ⟨P, Le.refl _, fun j h => absurd h (Nat.not_lt_zero _)⟩
  | m + 1 => by
    obtain ⟨P1, l1, h1⟩ := pass_J h0 P i m
    obtain ⟨P2, h2⟩ := pass_cell h0 P1 i m
    refine ⟨P2, cell_le.trans l1, fun j hj a b qa qb => ?_⟩
    by_cases e : j = m
    · subst e; exact h2 a b qa qb
    · obtain ⟨c, h3, h4⟩ := h1 j (by omega) a b qa qb
      obtain ⟨d, h5, h6⟩ := cell_le (D := flJ E k i m) (k := k) (i := i) (j := m) i j c h3
      exact ⟨d, h5, by omega⟩
theorem pass_I (h0 : ∀ x, D k k = some x → 0 ≤ x) : ∀ m : Nat, Pass D (flI n D k m) k ∧ ∀ i j, i < m → j < n → ∀ a b, D i k = some a → D k j = some b → ∃ c, flI n D k m i j = some c ∧ c ≤ a + b
  | 0 => ⟨⟨fun _ => rfl, fun _ => rfl, fun _ _ _ h => .inl h, Le.refl _⟩, fun i j h => absurd h (Nat.not_lt_zero _)⟩
  | m + 1 => by
    obtain ⟨P1, h1⟩ := pass_I h0 m
    obtain ⟨P2, l2, h2⟩ := pass_J h0 P1 m n
    refine ⟨P2, fun i j hi hj a b qa qb => ?_⟩
    by_cases e : i = m
    · subst e; exact h2 j hj a b qa qb
    · obtain ⟨c, h3, h4⟩ := h1 i j (by omega) hj a b qa qb
      obtain ⟨d, h5, h6⟩ := l2 i j c h3
      exact ⟨d, h5, by omega⟩
/-- through k' no entry can be bettered -/
def Tri (D : Tb) (k : Nat) : Prop := ∀ i j a b, D i k = some a → D k j = some b → ∃ c, D i j = some c ∧ c ≤ a + b
/-- entries stand within the table alone -/
def Sup (n : Nat) (D : Tb) : Prop := ∀ i j x, D i j = some x → i < n ∧ j < n
theorem tri_step (h0 : ∀ x, D k k = some x → 0 ≤ x) (hs : Sup n D) (ht : ∀ q, q < k → Tri D q) : ∀ q, q < k + 1 → Tri (flI n D k n) q := by
  obtain ⟨P, h4⟩ := pass_I (n := n) h0 n
  have via : ∀ i j a b, D i k = some a → D k j = some b → ∃ c, flI n D k n i j = some c ∧ c ≤ a + b := fun i j a b qa qb => h4 i j (hs _ _ _ qa).1 (hs _ _ _ qb).2 a b qa qb
  intro q hq i j a b ha hb
  by_cases e : q = k
  · subst e
    rw [P.col] at ha
    rw [P.row] at hb
    exact via i j a b ha hb
  · have T := ht q (by omega)
    rcases P.oldk i q a ha with ha | ⟨a1, a2, ha1, ha2, rfl⟩
    · rcases P.oldk q j b hb with hb | ⟨b1, b2, hb1, hb2, rfl⟩
      · obtain ⟨c, h1, h2⟩ := T i j a b ha hb
        obtain ⟨d, h3, h5⟩ := P.le i j c h1
        exact ⟨d, h3, by omega⟩
      · obtain ⟨c, h1, h2⟩ := T i k a b1 ha hb1
        obtain ⟨d, h3, h5⟩ := via i j c b2 h1 hb2
        exact ⟨d, h3, by omega⟩
    · rcases P.oldk q j b hb with hb | ⟨b1, b2, hb1, hb2, rfl⟩
      · obtain ⟨c, h1, h2⟩ := T k j a2 b ha2 hb
        obtain ⟨d, h3, h5⟩ := via i j a1 c ha1 h1
        exact ⟨d, h3, by omega⟩
      · obtain ⟨c, h1, h2⟩ := T k k a2 b1 ha2 hb1
        have := h0 c h1
        obtain ⟨d, h3, h5⟩ := via i j a1 b2 ha1 hb2
        exact ⟨d, h3, by omega⟩
theorem cell_sup (h : Sup n D) : Sup n (cellU D k i j) := by
  unfold cellU
  split
  · rename_i a b ha hb
    intro u v x hx
    rcases less_or hx with q | ⟨rfl, rfl, rfl⟩
    · exact h _ _ _ q
    · exact ⟨(h _ _ _ ha).1, (h _ _ _ hb).2⟩
  · exact h
theorem tri_all (hs : Sup n D) (h0 : ∀ k, k < n → ∀ x, flK n D n k k = some x → 0 ≤ x) (hd : ∀ k, k < n → ∃ x, D k k = some x) : ∀ m, m ≤ n → ∀ q, q < m → Tri (flK n D m) q
  | 0, _ => fun q h => absurd h (Nat.not_lt_zero _)
  | m + 1, hm => by
    have hsm : Sup n (flK n D m) := flK_all (P := Sup n) (fun D k i j h => cell_sup h) hs m
    refine tri_step (fun x hx => ?_) hsm (tri_all hs h0 hd m (by omega))
    obtain ⟨c, h1, h2⟩ := flK_le (n := n) (D := D) (m := m) (q := n) (by omega) m m x hx
    have := h0 m (by omega) c h1
    omega
theorem flE_le : ∀ (rs : List Ru) (D : Tb), Le (flE rs D) D
  | [], D => Le.refl _
  | r :: rs, D => (flE_le rs (edgeU D r)).trans (by unfold edgeU; split; exact Le.refl _; exact less_le)
theorem flE_at : ∀ (rs : List Ru) (D : Tb) (r : Ru), r ∈ rs → r.i ≠ r.j → ∃ c, flE rs D r.i r.j = some c ∧ c ≤ r.w
  | q :: rs, D, r, h, hne => by
    rcases List.mem_cons.mp h with rfl | h
    · obtain ⟨c, h1, h2⟩ := less_at (D := D) (i := r.i) (j := r.j) (x := r.w)
      have : edgeU D r r.i r.j = some c := by unfold edgeU; rw [if_neg hne]; exact h1
      obtain ⟨d, h3, h4⟩ := flE_le rs (edgeU D r) r.i r.j c this
      exact ⟨d, h3, by omega⟩
    · exact flE_at rs (edgeU D q) r h hne
theorem flE_snd : ∀ (rs : List Ru) (D : Tb), (∀ r ∈ rs, r ∈ R) → Snd R D → Snd R (flE rs D)
  | [], D, _, h => h
  | r :: rs, D, hm, h => flE_snd rs (edgeU D r) (fun q hq => hm q (by simp [hq])) (by
    unfold edgeU
    split
    · exact h
    · intro u v x hx
      rcases less_or hx with q | ⟨rfl, rfl, rfl⟩
      · exact h _ _ _ q
      · exact .one (hm r (by simp)))
theorem flE_sup : ∀ (rs : List Ru) (D : Tb), (∀ r ∈ rs, r.i < n ∧ r.j < n) → Sup n D → Sup n (flE rs D)
  | [], D, _, h => h
  | r :: rs, D, hm, h => flE_sup rs (edgeU D r) (fun q hq => hm q (by simp [hq])) (by
    unfold edgeU
    split
    · exact h
    · intro u v x hx
      rcases less_or hx with q | ⟨rfl, rfl, rfl⟩
      · exact h _ _ _ q
      · exact hm r (by simp))
/-! ### what the table tells -/
theorem floyd_snd : Snd R (floyd n R) := flK_all (P := Snd R) (fun D k i j h => cell_snd h) (flE_snd R (fl0 n) (fun _ h => h) fun i j x h => by
  unfold fl0 at h
  split at h
  · rename_i q; cases h; rw [q.1]; exact .nil
  · cases h) n
theorem floyd_diag (h : k < n) : ∃ x, floyd n R k k = some x ∧ x ≤ 0 := by
  obtain ⟨c, h1, h2⟩ := flE_le R (fl0 n) k k 0 (by unfold fl0; rw [if_pos ⟨rfl, h⟩])
  obtain ⟨d, h3, h4⟩ := flK_le (n := n) (D := flE R (fl0 n)) (Nat.zero_le n) k k c h1
  exact ⟨d, h3, by omega⟩
theorem floyd_best (hR : ∀ r ∈ R, r.i < n ∧ r.j < n) (hne : ∀ r ∈ R, r.i ≠ r.j) (h0 : ∀ k, k < n → ∀ x, floyd n R k k = some x → 0 ≤ x) {a b : Nat} {x : Int} (ha : a < n) (w : Wk R a b x) : ∃ c, floyd n R a b = some c ∧ c ≤ x := by
  have hs : Sup n (flE R (fl0 n)) := flE_sup R (fl0 n) hR fun i j x h => by
    unfold fl0 at h
    split at h
    · rename_i q; exact ⟨q.2, q.1 ▸ q.2⟩
    · cases h
  have hd : ∀ k, k < n → ∃ x, flE R (fl0 n) k k = some x := fun k hk => by
    obtain ⟨c, h1, _⟩ := flE_le R (fl0 n) k k 0 (by unfold fl0; rw [if_pos ⟨rfl, hk⟩])
    exact ⟨c, h1⟩
  have T := tri_all hs h0 hd n (Nat.le_refl _)
  induction w with
  | nil => exact floyd_diag ha
  | snoc w m e ih =>
    rename_i b' x' r
    obtain ⟨c, h1, h2⟩ := ih
    obtain ⟨d, h3, h4⟩ := flE_at R (fl0 n) r m (hne r m)
    obtain ⟨d', h5, h6⟩ := flK_le (n := n) (D := flE R (fl0 n)) (Nat.zero_le n) r.i r.j d h3
    subst e
    obtain ⟨f, h7, h8⟩ := T r.i (hR r m).1 a r.j c d' h1 h5
    exact ⟨f, h7, by omega⟩
end
end BF
set_option Elab.async false
set_option linter.all false
set_option maxRecDepth 100000
set_option maxHeartbeats 4000000
/-! SHa: the class Spreading does what BF says. -/
namespace SH
open PySem L2 DL BF
def tabN (n : Nat) (f : Nat → D) : List D := (List.range n).map f
def optI : Option Int → D
  | none => .non
  | some x => .int x
def optN : Option Nat → D
  | none => .non
  | some x => .int x
def ruD (r : Ru) : D := .tup [.int r.i, .int r.j, .int r.w]
section
variable {n i : Nat} {f : Nat → D} {κ : Ka}
@[simp] theorem tabN_len : (tabN n f).length = n := by simp [tabN]
theorem tabN_at (h : i < n) : atI (tabN n f) (i : Int) = some (f i) := by
  rw [DL.atI_nat (by simpa using h)]; simp [tabN]
theorem tabN_set {x : D} (h : i < n) : (tabN n f).set i x = tabN n (put f i x) := by
  apply List.ext_getElem
  · simp
  · intro k h1 h2
    have hk : k < n := by simpa using h2
    rw [List.getElem_set]
    simp only [tabN, List.getElem_map, List.getElem_range, put]
    by_cases e : i = k
    · subst e; simp
    · rw [if_neg e, if_neg (fun q => e q.symm)]
theorem ixN_nat (h : i < n) : ixN n (i : Int) = some i := by unfold ixN; rw [if_pos (by omega), if_pos (by omega)]; simp
theorem isNon_optI {o : Option Int} : _root_.DL.isNon (optI o) = o.isNone := by cases o <;> rfl
theorem optI_put {g : Nat → Option Int} {j : Nat} {x : Int} : (put (fun v => optI (g v)) j (.int x)) = fun v => optI (put g j (some x) v) := by
  funext v; unfold put; split <;> rfl
theorem optN_put {g : Nat → Option Nat} {j x : Nat} : (put (fun v => optN (g v)) j (.int x)) = fun v => optN (put g j (some x) v) := by
  funext v; unfold put; split <;> rfl
end
theorem s_fw : (("far" : Str) == "web") = false := by decide +kernel
theorem s_lw : (("last" : Str) == "web") = false := by decide +kernel
theorem s_lf : (("last" : Str) == "far") = false := by decide +kernel
theorem s_sw : (("step" : Str) == "web") = false := by decide +kernel
theorem s_sf : (("step" : Str) == "far") = false := by decide +kernel
theorem s_sl : (("step" : Str) == "last") = false := by decide +kernel
theorem s_pw : (("spread" : Str) == "web") = false := by decide +kernel
theorem s_pf : (("spread" : Str) == "far") = false := by decide +kernel
theorem s_pl : (("spread" : Str) == "last") = false := by decide +kernel
theorem s_rw : (("ring_from" : Str) == "web") = false := by decide +kernel
theorem s_rf : (("ring_from" : Str) == "far") = false := by decide +kernel
theorem s_rl : (("ring_from" : Str) == "last") = false := by decide +kernel
def flds (w f l : D) : List (Str × D) := [("web", w), ("far", f), ("last", l)]
section
variable {w f l : D}
theorem fl_web : (flds w f l).lookup ("web" : Str) = some w := by unfold flds; rw [List.lookup_cons]; simp
theorem fl_far : (flds w f l).lookup ("far" : Str) = some f := by unfold flds; rw [List.lookup_cons, s_fw, List.lookup_cons]; simp
theorem fl_last : (flds w f l).lookup ("last" : Str) = some l := by unfold flds; rw [List.lookup_cons, s_lw, List.lookup_cons, s_lf, List.lookup_cons]; simp
theorem fl_step : (flds w f l).lookup ("step" : Str) = none := by unfold flds; rw [List.lookup_cons, s_sw, List.lookup_cons, s_sf, List.lookup_cons, s_sl]; rfl
theorem fl_spread : (flds w f l).lookup ("spread" : Str) = none := by unfold flds; rw [List.lookup_cons, s_pw, List.lookup_cons, s_pf, List.lookup_cons, s_pl]; rfl
theorem fl_ring : (flds w f l).lookup ("ring_from" : Str) = none := by unfold flds; rw [List.lookup_cons, s_rw, List.lookup_cons, s_rf, List.lookup_cons, s_rl]; rfl
end
/-- the store: the thing at a, its lists at fa, la -/
def stK (B : Ka) (fa la n : Nat) (s : S) : Ka := (B.set fa (.lst (tabN n fun v => optI (s.far v)))).set la (.lst (tabN n fun v => optN (s.last v)))
structure At (c : Nat) (B : Ka) (a fa la : Nat) (W : D) : Prop where
  ins : B[a]? = some (.ins c (flds W (.obj fa) (.obj la)))
  hf : fa < B.length
  hl : la < B.length
  fl : fa ≠ la
  af : a ≠ fa
  al : a ≠ la
section
variable {c : Nat} {B : Ka} {a fa la n : Nat} {W : D} {s : S}
theorem stK_a (h : At c B a fa la W) : (stK B fa la n s)[a]? = some (.ins c (flds W (.obj fa) (.obj la))) := by
  unfold stK
  rw [List.getElem?_set_ne (Ne.symm h.al), List.getElem?_set_ne (Ne.symm h.af)]; exact h.ins
theorem stK_f (h : At c B a fa la W) : (stK B fa la n s)[fa]? = some (.lst (tabN n fun v => optI (s.far v))) := by
  unfold stK
  rw [List.getElem?_set_ne (Ne.symm h.fl), List.getElem?_set_self h.hf]
theorem stK_l (h : At c B a fa la W) : (stK B fa la n s)[la]? = some (.lst (tabN n fun v => optN (s.last v))) := by
  unfold stK
  rw [List.getElem?_set_self (by simpa using h.hl)]
theorem stK_setf (h : At c B a fa la W) {g : Nat → Option Int} : (stK B fa la n s).set fa (.lst (tabN n fun v => optI (g v))) = stK B fa la n ⟨g, s.last⟩ := by
  unfold stK
  rw [List.set_comm _ _ (Ne.symm h.fl), List.set_set]
theorem stK_setl {g : Nat → Option Nat} : (stK B fa la n s).set la (.lst (tabN n fun v => optN (g v))) = stK B fa la n ⟨s.far, g⟩ := by
  unfold stK
  rw [List.set_set]
theorem at_web (h : At c B a fa la W) : oAttr c "web" (stK B fa la n s) (.obj a) = some W := by
  unfold oAttr; simp only [stK_a h, if_true, fl_web]
theorem at_far (h : At c B a fa la W) : oAttr c "far" (stK B fa la n s) (.obj a) = some (.obj fa) := by
  unfold oAttr; simp only [stK_a h, if_true, fl_far]
theorem at_last (h : At c B a fa la W) : oAttr c "last" (stK B fa la n s) (.obj a) = some (.obj la) := by
  unfold oAttr; simp only [stK_a h, if_true, fl_last]
theorem ix_far (h : At c B a fa la W) {v : Nat} (hv : v < n) : oIdx (stK B fa la n s) (.obj fa) (.int v) = some (optI (s.far v)) := by
  unfold oIdx; simp only [stK_f h]; exact tabN_at hv
theorem ix_last (h : At c B a fa la W) {v : Nat} (hv : v < n) : oIdx (stK B fa la n s) (.obj la) (.int v) = some (optN (s.last v)) := by
  unfold oIdx; simp only [stK_l h]; exact tabN_at hv
end
end SH
set_option Elab.async false
set_option linter.all false
set_option maxRecDepth 100000
set_option maxHeartbeats 4000000
namespace SH
open PySem L2 DL BF
theorem stepF_snoc (r : Ru) : ∀ (l : List Ru) (k : Nat) (s : S) (f : Option Nat), stepF (l ++ [r]) k s f = ((relax (stepF l k s f).1 (k + l.length) r).1, (relax (stepF l k s f).1 (k + l.length) r).2.or (stepF l k s f).2)
  | [], k, s, f => rfl
  | q :: l, k, s, f => by
    show stepF (l ++ [r]) (k + 1) _ _ = _
    rw [stepF_snoc r l (k + 1)]
    rw [List.length_cons, show k + (l.length + 1) = k + 1 + l.length by omega]
    rfl
theorem optI_n : optI none = .non := rfl
theorem optI_s {x : Int} : optI (some x) = .int x := rfl
@[simp] theorem cIs_non {d : D} : cIs d .non = some (_root_.DL.isNon d) := rfl
@[simp] theorem cIsNot_non {d : D} : cIsNot d .non = some (!_root_.DL.isNon d) := rfl
@[simp] theorem isNon_int {i : Int} : _root_.DL.isNon (.int i) = false := rfl
@[simp] theorem isNon_non : _root_.DL.isNon .non = true := rfl
section
variable {c : Nat} {B : Ka} {a fa la n : Nat} {W : D} {s : S} {R : List Ru} {rest : List D}
/-- one rule's turn -/
theorem step_body (h : At c B a fa la W) {r : Ru} (hi : r.i < n) (hj : r.j < n) (k : Nat) (fo s6 : D) (nf : isBor fo = false) {z6 : Sl} :
    ∃ z6', (sIf (bCmp cIsNot (eIdx (eAttr c "far" (eVar 0)) (eVar 3)) (eC .non)) (sSeq (sAsg (gNm 6) (eOp oAdd (eIdx (eAttr c "far" (eVar 0)) (eVar 3)) (eVar 5)))
      (sIf (bOr (bCmp cIs (eIdx (eAttr c "far" (eVar 0)) (eVar 4)) (eC .non)) (bCmp cLt (eVar 6) (eIdx (eAttr c "far" (eVar 0)) (eVar 4)))) (sSeq (sSetO (eAttr c "far" (eVar 0)) (eVar 4) (eVar 6))
      (sSeq (sSetO (eAttr c "last" (eVar 0)) (eVar 4) (eVar 2))
      (sAsg (gNm 1) (eVar 4)))) sNext)) sNext) [.val (.obj a), .val fo, .val (.int k), .val (.int r.i), .val (.int r.j), .val (.int r.w), z6] (stK B fa la n s) =
    some (.nx [.val (.obj a), .val (match (relax s k r).2 with | some j => .int j | none => fo), .val (.int k), .val (.int r.i), .val (.int r.j), .val (.int r.w), z6'], stK B fa la n (relax s k r).1) := by
  have e1 := at_far (n := n) (s := s) h
  have e2 := ix_far (n := n) (s := s) h hi
  have e3 := ix_far (n := n) (s := s) h hj
  unfold relax
  cases he : s.far r.i with
  | none =>
    rw [he] at e2
    exact ⟨z6, by simp [e1, e2, optI_n, optI_s]⟩
  | some d =>
    rw [he] at e2
    simp only
    refine ⟨.val (.int (d + r.w)), ?_⟩
    cases hf : s.far r.j with
    | none =>
      rw [hf] at e3
      have hl : ltO (d + r.w) none = true := rfl
      rw [if_pos hl]
      have e4 := stK_f (n := n) (s := s) h
      have e5 := at_last (n := n) (s := ⟨put s.far r.j (some (d + r.w)), s.last⟩) h
      have e6 := stK_l (n := n) (s := ⟨put s.far r.j (some (d + r.w)), s.last⟩) h
      have e7 : (stK B fa la n s).set fa (.lst ((tabN n fun v => optI (s.far v)).set r.j (.int (d + r.w)))) = stK B fa la n ⟨put s.far r.j (some (d + r.w)), s.last⟩ := by
        rw [tabN_set hj, optI_put, stK_setf h]
      have e8 : (stK B fa la n ⟨put s.far r.j (some (d + r.w)), s.last⟩).set la (.lst ((tabN n fun v => optN (s.last v)).set r.j (.int k))) = stK B fa la n ⟨put s.far r.j (some (d + r.w)), put s.last r.j (some k)⟩ := by
        rw [tabN_set hj, optN_put]
        exact stK_setl (s := ⟨put s.far r.j (some (d + r.w)), s.last⟩)
      have e9 : ixN n ((r.j : Nat) : Int) = some r.j := ixN_nat hj
      simp [e1, e2, e3, e4, e5, e6, e7, e8, e9, optI_n, optI_s]
    | some x =>
      rw [hf] at e3
      by_cases hl : ltO (d + r.w) (some x) = true
      · rw [if_pos hl]
        have hl' := ltO_some hl
        have e4 := stK_f (n := n) (s := s) h
        have e5 := at_last (n := n) (s := ⟨put s.far r.j (some (d + r.w)), s.last⟩) h
        have e6 := stK_l (n := n) (s := ⟨put s.far r.j (some (d + r.w)), s.last⟩) h
        have e7 : (stK B fa la n s).set fa (.lst ((tabN n fun v => optI (s.far v)).set r.j (.int (d + r.w)))) = stK B fa la n ⟨put s.far r.j (some (d + r.w)), s.last⟩ := by
          rw [tabN_set hj, optI_put, stK_setf h]
        have e8 : (stK B fa la n ⟨put s.far r.j (some (d + r.w)), s.last⟩).set la (.lst ((tabN n fun v => optN (s.last v)).set r.j (.int k))) = stK B fa la n ⟨put s.far r.j (some (d + r.w)), put s.last r.j (some k)⟩ := by
          rw [tabN_set hj, optN_put]
          exact stK_setl (s := ⟨put s.far r.j (some (d + r.w)), s.last⟩)
        have e9 : ixN n ((r.j : Nat) : Int) = some r.j := ixN_nat hj
        simp [e1, e2, e3, e4, e5, e6, e7, e8, e9, optI_n, optI_s, hl']
      · rw [if_neg hl]
        have hl' : ¬ d + r.w < x := fun q => hl (decide_eq_true q)
        simp [e1, e2, e3, optI_n, optI_s, hl']
end
end SH
set_option Elab.async false
set_option linter.all false
set_option maxRecDepth 100000
set_option maxHeartbeats 4000000
namespace SH
open PySem L2 DL BF
theorem optN_nb {o : Option Nat} : isBor (optN o) = false := by cases o <;> rfl
theorem enumL_at {ds : List D} {i : Nat} {d : D} (h : (enumL ds)[i]? = some d) : ∃ x, ds[i]? = some x ∧ d = .tup [.int (i : Nat), x] := enumL_get h
theorem enumL_len {ds : List D} : (enumL ds).length = ds.length := by simp [enumL]
/-- a web: its moments, its rules, and what else it tells -/
def webD (n : Nat) (R : List Ru) (rest : List D) : D := .tup (.int n :: .tup (R.map ruD) :: rest)
section
variable {c : Nat} {B : Ka} {a fa la n : Nat} {s : S} {R : List Ru} {rest : List D} {κ : Ka}
theorem web_0 : oIdx κ (webD n R rest) (.int 0) = some (.int n) := by unfold webD; rw [oIdx_tup, atI_0]
theorem web_1 : oIdx κ (webD n R rest) (.int 1) = some (.tup (R.map ruD)) := by unfold webD; rw [oIdx_tup, atI_1]
theorem optN_or {o p : Option Nat} : (match o with | some j => D.int j | none => optN p) = optN (o.or p) := by cases o <;> rfl
theorem step_ok (h : At c B a fa la (webD n R rest)) (hR : ∀ r ∈ R, r.i < n ∧ r.j < n) :
    f_Spreading_step c [.obj a] (stK B fa la n s) = some (.ok (optN (stepF R 0 s none).2), stK B fa la n (stepF R 0 s none).1) := by
  refine eq_of_wp ?_
  unfold f_Spreading_step
  refine mean_wp ?_
  show wpS (m_Spreading_step c [.val (.obj a), .no, .no, .no, .no, .no, .no] (stK B fa la n s)) _ _ _ _
  unfold m_Spreading_step
  simp only [wpS_seq]
  refine wpS_atom (ρ' := [.val (.obj a), .val (optN none), .no, .no, .no, .no, .no]) (k := stK B fa la n s) (by simp [optN]) ?_
  refine wpS_forE (κ1 := stK B fa la n s) (enumL (R.map ruD)) (by simp [at_web h, web_1]) (fun i ρ κ => ∃ z2 z3 z4 z5 z6, ρ = [.val (.obj a), .val (optN (stepF (R.take i) 0 s none).2), z2, z3, z4, z5, z6] ∧ κ = stK B fa la n (stepF (R.take i) 0 s none).1) ⟨_, _, _, _, _, rfl, rfl⟩ ?_ ?_
  · rintro i d ρ κ hd ⟨z2, z3, z4, z5, z6, rfl, rfl⟩
    obtain ⟨x, hx, rfl⟩ := enumL_at hd
    rw [List.getElem?_map] at hx
    obtain ⟨r, hr, rfl⟩ := Option.map_eq_some_iff.mp hx
    have hm : r ∈ R := List.mem_of_getElem? hr
    have hil : i < R.length := (List.getElem?_eq_some_iff.mp hr).1
    have ht : R.take (i + 1) = R.take i ++ [r] := by
      rw [List.take_succ, hr]; rfl
    obtain ⟨z6', e⟩ := step_body (s := (stepF (R.take i) 0 s none).1) (z6 := z6) h (hR r hm).1 (hR r hm).2 i (optN (stepF (R.take i) 0 s none).2) .non optN_nb
    refine ⟨_, rfl, wpS_atom e ?_⟩
    have eT : stepF (R.take (i + 1)) 0 s none = ((relax (stepF (R.take i) 0 s none).1 i r).1, (relax (stepF (R.take i) 0 s none).1 i r).2.or (stepF (R.take i) 0 s none).2) := by
      rw [ht, stepF_snoc, Nat.zero_add, List.length_take, Nat.min_eq_left (by omega)]
    refine ⟨.val (.int i), .val (.int r.i), .val (.int r.j), .val (.int r.w), z6', ?_, ?_⟩
    · rw [eT]
      cases (relax (stepF (R.take i) 0 s none).1 i r).2 <;> rfl
    · rw [eT]
  · rintro ρ κ ⟨z2, z3, z4, z5, z6, rfl, rfl⟩
    rw [enumL_len, List.length_map, List.take_length]
    exact wpS_atomR (d := optN (stepF R 0 s none).2) (k := stK B fa la n (stepF R 0 s none).1) (by simp [optN_nb]) ⟨rfl, rfl⟩
theorem ins_step (h : At c B a fa la (webD n R rest)) : isIns c "step" (stK B fa la n s) (.obj a) = true := by
  unfold isIns; simp only [stK_a h, fl_step]; simp
theorem ins_spread (h : At c B a fa la (webD n R rest)) : isIns c "spread" (stK B fa la n s) (.obj a) = true := by
  unfold isIns; simp only [stK_a h, fl_spread]; simp
theorem ins_ring (h : At c B a fa la (webD n R rest)) : isIns c "ring_from" (stK B fa la n s) (.obj a) = true := by
  unfold isIns; simp only [stK_a h, fl_ring]; simp
/-- rounds as the text has them -/
def rounds (R : List Ru) : Nat → S → S × Option Nat
  | 0, s => (s, none)
  | m + 1, s => stepF R 0 (rounds R m s).1 none
theorem rounds_shift (R : List Ru) : ∀ (m : Nat) (s : S), rounds R (m + 1 + 1) s = rounds R (m + 1) (stepF R 0 s none).1
  | 0, s => rfl
  | m + 1, s => by
    show stepF R 0 (rounds R (m + 1 + 1) s).1 none = stepF R 0 (rounds R (m + 1) (stepF R 0 s none).1).1 none
    rw [rounds_shift R m s]
/-- spread: some round found nothing, or all found something -/
theorem spreadF_rounds (R : List Ru) : ∀ (m : Nat) (s : S), (∃ q, q < m ∧ (rounds R (q + 1) s).2 = none ∧ spreadF R m s = ((rounds R (q + 1) s).1, none) ∧ ∀ p, p < q → (rounds R (p + 1) s).2 ≠ none) ∨ ((∀ p, p < m → (rounds R (p + 1) s).2 ≠ none) ∧ spreadF R m s = rounds R m s)
  | 0, s => .inr ⟨fun p h => absurd h (Nat.not_lt_zero _), rfl⟩
  | 1, s => by
    cases e : (stepF R 0 s none).2 with
    | none => exact .inl ⟨0, by omega, e, Prod.ext rfl e, fun p h => absurd h (Nat.not_lt_zero _)⟩
    | some v => exact .inr ⟨fun p h => by obtain rfl : p = 0 := by omega
                                          show (stepF R 0 s none).2 ≠ none; rw [e]; simp, rfl⟩
  | m + 2, s => by
    cases e : (stepF R 0 s none).2 with
    | none =>
      refine .inl ⟨0, by omega, e, ?_, fun p h => absurd h (Nat.not_lt_zero _)⟩
      unfold spreadF; rw [e]; rfl
    | some v =>
      have hu : spreadF R (m + 2) s = spreadF R (m + 1) (stepF R 0 s none).1 := by
        conv => lhs; unfold spreadF
        rw [e]
      rcases spreadF_rounds R (m + 1) (stepF R 0 s none).1 with ⟨q, h1, h2, h3, h4⟩ | ⟨h1, h2⟩
      · refine .inl ⟨q + 1, by omega, ?_, ?_, fun p hp => ?_⟩
        · rw [rounds_shift]; exact h2
        · rw [hu, h3, rounds_shift R q]
        · cases p with
          | zero => show (stepF R 0 s none).2 ≠ none; rw [e]; simp
          | succ p => rw [rounds_shift]; exact h4 p (by omega)
      · refine .inr ⟨fun p hp => ?_, ?_⟩
        · cases p with
          | zero => show (stepF R 0 s none).2 ≠ none; rw [e]; simp
          | succ p => rw [rounds_shift]; exact h1 p (by omega)
        · rw [hu, h2, rounds_shift R m]
theorem spread_ok (h : At c B a fa la (webD n R rest)) (hR : ∀ r ∈ R, r.i < n ∧ r.j < n) (hn : 0 < n) (hn2 : n ≤ 1000000) :
    f_Spreading_spread c [.obj a] (stK B fa la n s) = some (.ok (optN (spreadF R n s).2), stK B fa la n (spreadF R n s).1) := by
  refine eq_of_wp ?_
  unfold f_Spreading_spread
  refine mean_wp ?_
  show wpS (m_Spreading_spread c [.val (.obj a), .no, .no] (stK B fa la n s)) _ _ _ _
  unfold m_Spreading_spread
  rw [wpS_seq]
  refine wpS_forE (κ1 := stK B fa la n s) (rangeD 0 n) (range1_ok (by omega) (by simp [at_web h, web_0])) (fun i ρ κ => ∃ z1, ρ = [.val (.obj a), z1, (if i = 0 then .no else .val (optN (rounds R i s).2))] ∧ κ = stK B fa la n (rounds R i s).1 ∧ ∀ p, p < i → (rounds R (p + 1) s).2 ≠ none) ⟨_, rfl, rfl, fun p h => absurd h (Nat.not_lt_zero _)⟩ ?_ ?_
  · rintro i d ρ κ hd ⟨z1, rfl, rfl, hp⟩
    obtain ⟨rfl, hi⟩ := mem_range hd
    refine ⟨_, rfl, ?_⟩
    have e1 := step_ok (s := (rounds R i s).1) h hR
    have e2 := ins_step (s := (rounds R i s).1) h
    rw [wpS_seq]
    refine wpS_atom (ρ' := [.val (.obj a), .val (.int (0 + (i : Int))), .val (optN (rounds R (i + 1) s).2)]) (k := stK B fa la n (rounds R (i + 1) s).1) (by simp [e1, e2, optN_nb]; exact ⟨rfl, rfl⟩) ?_
    cases e : (rounds R (i + 1) s).2 with
    | none =>
      rw [wpS_if]
      refine wpE_atom (a := true) (k := stK B fa la n (rounds R (i + 1) s).1) (by simp [optN]) ?_
      rw [if_pos rfl]
      have key : spreadF R n s = ((rounds R (i + 1) s).1, none) := by
        rcases spreadF_rounds R n s with ⟨q, h1, h2, h3, h4⟩ | ⟨h1, h2⟩
        · have hq : q = i := by
            rcases Nat.lt_trichotomy q i with hlt | heq | hgt
            · exact absurd h2 (hp q hlt)
            · exact heq
            · exact absurd e (h4 i hgt)
          subst hq; exact h3
        · exact absurd e (h1 i (by omega))
      exact wpS_atomR (d := .non) (k := stK B fa la n (rounds R (i + 1) s).1) (by simp) ⟨by rw [key]; rfl, by rw [key]⟩
    | some v =>
      rw [wpS_if]
      refine wpE_atom (a := false) (k := stK B fa la n (rounds R (i + 1) s).1) (by simp [optN]) ?_
      rw [if_neg (by simp), wpS_next]
      refine ⟨.val (.int (0 + (i : Int))), by rw [if_neg (by omega)], rfl, fun p hp' => ?_⟩
      by_cases hpi : p = i
      · subst hpi; rw [e]; simp
      · exact hp p (by omega)
  · rintro ρ κ ⟨z1, rfl, rfl, hp⟩
    rw [range_len] at *
    have hnn : ((n : Int) - 0).toNat = n := by omega
    rw [hnn] at *
    rw [if_neg (by omega)]
    have key : spreadF R n s = rounds R n s := by
      rcases spreadF_rounds R n s with ⟨q, h1, h2, h3, h4⟩ | ⟨h1, h2⟩
      · exact absurd h2 (hp q h1)
      · exact h2
    rw [key]
    exact wpS_atomR (d := optN (rounds R n s).2) (k := stK B fa la n (rounds R n s).1) (by simp [optN_nb]) ⟨rfl, rfl⟩
end
end SH
set_option Elab.async false
set_option linter.all false
set_option maxRecDepth 100000
set_option maxHeartbeats 4000000
namespace SH
open PySem L2 DL BF
section
variable {κ t : Ka} {x y : Cell}
theorem set_end : (κ ++ x :: t).set κ.length y = κ ++ y :: t := by
  rw [List.set_append_right _ _ (Nat.le_refl _), Nat.sub_self]; rfl
theorem get_end : (κ ++ x :: t)[κ.length]? = some x := by
  rw [List.getElem?_append_right (Nat.le_refl _), Nat.sub_self]; rfl
end
theorem fRep_one {ρ : List Sl} {κ : Ka} {ma mb : Ev D} {x : D} {n : Nat} (h1 : ma ρ κ = some (.ok (.lst [x]), κ)) (h2 : mb ρ κ = some (.ok (.int n), κ)) (hn : n ≤ 1000000) : fRep ma mb ρ κ = some (.ok (List.replicate n x), κ) := by
  rw [fRep_def, h1]
  simp only [bind_ok, h2, listOf_lst]
  have h : okRep ([x] : List D).length (n : Int) := ⟨by omega, by omega, by simp; omega⟩
  rw [if_pos h]
  simp
theorem put_web {w : D} : putD "web" w [] = [(("web" : Str), w)] := rfl
theorem s_wf : ¬ (("web" : Str) = "far") := by decide +kernel
theorem s_wl : ¬ (("web" : Str) = "last") := by decide +kernel
theorem s_fl : ¬ (("far" : Str) = "last") := by decide +kernel
theorem put_far {w f : D} : putD "far" f [(("web" : Str), w)] = [(("web" : Str), w), (("far" : Str), f)] := by
  unfold putD
  simp only
  rw [if_neg s_wf]; rfl
theorem put_last {w f l : D} : putD "last" l [(("web" : Str), w), (("far" : Str), f)] = flds w f l := by
  unfold putD
  simp only
  rw [if_neg s_wl]
  unfold putD
  simp only
  rw [if_neg s_fl]; rfl
section
variable {c n : Nat} {κ : Ka} {R : List Ru} {rest : List D} {firsts : D} {src : Nat → Bool}
theorem far_comp (hn : n ≤ 1000000) (hs : ∀ v, v < n → cIn (.int (v : Nat)) firsts = some (src v)) (z0 z1 : Sl) (κ : Ka) :
    eComp [3] (iRange1 (aCons (eIdx (eVar 1) (eC (.int 0))) aNil)) (gNm 3) bYes (eIf (bCmp cIn (eVar 3) (eVar 2)) (eC (.int 0)) (eC .non)) [z0, .val (webD n R rest), .val firsts, .no] κ = some (.ok (tabN n fun v => optI ((startS src).far v)), κ) := by
  rw [eComp_map (κ1 := κ) (ds := rangeD 0 n) (fun d => match d with | .int i => optI ((startS src).far i.toNat) | d => d) (range1_ok (by omega) (by simp [web_0])) (by rw [range_len]; omega) ?_]
  · congr 3
    unfold rangeD tabN
    rw [List.map_map, show ((n : Int) - 0).toNat = n by omega]
    apply List.map_congr_left
    intro k _
    simp
  · intro d hd
    unfold rangeD at hd
    obtain ⟨k, hk, rfl⟩ := List.mem_map.mp hd
    have hk' : k < n := by have := List.mem_range.mp hk; omega
    have e := hs k hk'
    refine ⟨_, rfl, ?_, ?_⟩
    · simp only
      cases (startS src).far ((0 : Int) + (k : Int)).toNat <;> rfl
    · have e0 : (0 : Int) + (k : Int) = (k : Nat) := by omega
      simp only [e0, Int.toNat_natCast]
      unfold startS
      cases h : src k <;> simp [e, h, optI]
theorem init_ok (hn : n ≤ 1000000) (hs : ∀ v, v < n → cIn (.int (v : Nat)) firsts = some (src v)) (nf : isBor firsts = false) :
    f_Spreading___init__ c [.obj κ.length, webD n R rest, firsts] (κ ++ [.ins c []]) = some (.ok .non, κ ++ [.ins c (flds (webD n R rest) (.obj (κ.length + 1)) (.obj (κ.length + 2))), .lst (tabN n fun v => optI ((startS src).far v)), .lst (tabN n fun v => optN ((startS src).last v))]) := by
  refine eq_of_wp ?_
  unfold f_Spreading___init__
  refine mean_wp ?_
  show wpS (m_Spreading___init__ c [.val (.obj κ.length), .val (webD n R rest), .val firsts, .no] (κ ++ [.ins c []])) _ _ _ _
  unfold m_Spreading___init__
  simp only [wpS_seq]
  have nw : isBor (webD n R rest) = false := rfl
  have e1 := far_comp (R := R) (rest := rest) hn hs (.val (.obj κ.length)) .no (κ ++ [.ins c [("web", webD n R rest)]])
  have w0 : ∀ κ, oIdx κ (webD n R rest) (.int 0) = some (.int n) := fun κ => web_0
  generalize webD n R rest = W at *
  generalize hL1 : (tabN n fun v => optI ((startS src).far v)) = L1 at *
  have hL2 : (tabN n fun v => optN ((startS src).last v)) = List.replicate n D.non := by
    refine List.eq_replicate_iff.mpr ⟨by simp, fun d hd => ?_⟩
    unfold tabN at hd
    obtain ⟨k, _, rfl⟩ := List.mem_map.mp hd
    rfl
  rw [hL2]
  refine wpS_atom (ρ' := [.val (.obj κ.length), .val W, .val firsts, .no]) (k := κ ++ [.ins c [("web", W)]]) (by simp [putO, get_end, set_end, nw, put_web]) ?_
  refine wpS_atom (ρ' := [.val (.obj κ.length), .val W, .val firsts, .no]) (k := κ ++ [.ins c [("web", W), ("far", .obj (κ.length + 1))], .lst L1]) ?_ ?_
  · rw [sFldS_def, eSt_def, e1]
    simp [putO, get_end, set_end, put_far]
  · refine wpS_atom (ρ' := [.val (.obj κ.length), .val W, .val firsts, .no]) (k := κ ++ [.ins c (flds W (.obj (κ.length + 1)) (.obj (κ.length + 2))), .lst L1, .lst (List.replicate n .non)]) ?_ ⟨trivial, rfl⟩
    have er := fRep_one (ma := eFr (fLst (aCons (eC .non) aNil))) (mb := eIdx (eVar 1) (eC (.int 0))) (x := .non) (ρ := [.val (.obj κ.length), .val W, .val firsts, .no]) (κ := κ ++ [.ins c [(("web" : Str), W), (("far" : Str), .obj (κ.length + 1))], .lst L1]) (by simp) (by simp [w0]) hn
    rw [sFldS_def, eSt_def, er]
    simp [putO, get_end, set_end, put_last]
end
end SH
set_option Elab.async false
set_option linter.all false
set_option maxRecDepth 100000
set_option maxHeartbeats 4000000
namespace DL
open PySem L2
section
variable {Qn Qb Qc : List Sl → Ka → Prop} {Qr : D → Ka → Prop}
/-- a while loop of at most N turns -/
theorem wpS_whl {c : Ev Bool} {m : Es} (I : Nat → List Sl → Ka → Prop) (N : Nat)
    (hs : ∀ i ρ κ, i ≤ N → I i ρ κ → wpE (c ρ κ) fun b κ1 => if b = true then i < N ∧ wpS (m ρ κ1) (fun ρ κ => I (i + 1) ρ κ) Qr Qn (fun ρ κ => I (i + 1) ρ κ) else Qn ρ κ1) :
    ∀ (k i : Nat) (ρ : List Sl) (κ : Ka), N + 1 ≤ k + i → i ≤ N → I i ρ κ → wpS (sWhl c m k ρ κ) Qn Qr Qb Qc
  | 0, i, ρ, κ, h1, h2, _ => absurd h1 (by omega)
  | k + 1, i, ρ, κ, h1, h2, h3 => by
    have h := hs i ρ κ h2 h3
    unfold sWhl
    rw [wpS_bindS]
    refine wpE_mono h fun b κ1 hb => ?_
    by_cases e : b = true
    · rw [if_pos e] at hb ⊢
      obtain ⟨hi, hb⟩ := hb
      have next : ∀ ρ κ, I (i + 1) ρ κ → wpS (sWhl c m k ρ κ) Qn Qr Qb Qc := fun ρ κ q => wpS_whl I N hs k (i + 1) ρ κ (by omega) (by omega) q
      rcases hm : m ρ κ1 with _ | ⟨o, k'⟩
      · rw [hm] at hb; exact hb.to.elim
      · rw [hm] at hb
        cases o with
        | nx ρ2 => exact next _ _ hb.to
        | ct ρ2 => exact next _ _ hb.to
        | bk ρ2 => exact ⟨hb.to⟩
        | rt d => exact ⟨hb.to⟩
        | er c => exact hb.to.elim
    · rw [if_neg e] at hb ⊢
      exact ⟨hb⟩
end
theorem cEq_borN (l : List Int) : cEq (.bor (l.map D.int)) (.lst []) = some (decide (l = [])) := by
  rw [cEq_of (okD_mono (okD_bor (k := 0) fun d hd => by obtain ⟨i, _, rfl⟩ := List.mem_map.mp hd; exact okD_int) (by omega)) (okD_mono (okD_lst (k := 0) (ds := []) fun d hd => by simp at hd) (by omega))]
  rw [D.py, D.py, PyData.eqv]
  have := eqvAll_ints l []
  simpa using this
end DL
namespace SH
open PySem L2 DL BF
/-- the number of the rule by which v was reached last -/
def lix (s : S) (v : Nat) : Nat := (s.last v).getD 0
section
variable {c : Nat} {B : Ka} {a fa la n v : Nat} {s : S} {R : List Ru} {rest : List D}
theorem led_read (h : At c B a fa la (webD n R rest)) (hR : ∀ r ∈ R, r.i < n ∧ r.j < n) (hl : Led R s v) :
    v < n ∧ oIdx (stK B fa la n s) (.obj la) (.int v) = some (.int (lix s v)) ∧ (∀ κ : Ka, oIdx κ (.tup (R.map ruD)) (.int (lix s v)) = some (.tup [.int (up R s v : Nat), .int v, .int (lw R s v)])) := by
  obtain ⟨k, r, h1, h2, h3, h4⟩ := hl
  have hm := hR r (List.mem_of_getElem? h2)
  have hv : v < n := by omega
  have hk : lix s v = k := by unfold lix; rw [h1]; rfl
  have hw : lw R s v = r.w := by unfold lw; rw [h1]; simp only [h2]
  refine ⟨hv, ?_, fun κ => ?_⟩
  · rw [ix_last h hv, h1, hk]; rfl
  · have hkl : k < R.length := (List.getElem?_eq_some_iff.mp h2).1
    rw [oIdx_tup, hk, DL.atI_nat (by simpa using hkl)]
    have : R[k] = r := (List.getElem?_eq_some_iff.mp h2).2
    rw [List.getElem_map, this, ← h4, ← h3, h3, hw]
    subst h3
    rfl
theorem ring_from_ok (h : At c B a fa la (webD n R rest)) (hR : ∀ r ∈ R, r.i < n ∧ r.j < n) (hn2 : n ≤ 1000000) {cy : Nat} (c1 : 1 ≤ cy) (c2 : cy ≤ n) (l1 : ∀ q, q < n → Led R s (upN R s q v)) (l2 : ∀ q, Led R s (upN R s q (upN R s n v))) (h2 : upN R s cy (upN R s n v) = upN R s n v) (h3 : ∀ q, 1 ≤ q → q < cy → upN R s q (upN R s n v) ≠ upN R s n v) :
    f_Spreading_ring_from c [.obj a, .int v] (stK B fa la n s) = some (.ok (.tup (((List.range cy).map fun q => ((lix s (upN R s q (upN R s n v)) : Nat) : Int)).reverse.map D.int)), stK B fa la n s) := by
  refine eq_of_wp ?_
  unfold f_Spreading_ring_from
  refine mean_wp ?_
  show wpS (m_Spreading_ring_from c [.val (.obj a), .val (.int v), .no, .no, .no] (stK B fa la n s)) _ _ _ _
  unfold m_Spreading_ring_from
  simp only [wpS_seq]
  have eW := at_web (n := n) (s := s) h
  have eL := at_last (n := n) (s := s) h
  refine wpS_forE (κ1 := stK B fa la n s) (rangeD 0 n) (range1_ok (by omega) (by simp [eW, web_0])) (fun i ρ κ => ∃ z2, ρ = [.val (.obj a), .val (.int (upN R s i v : Nat)), z2, .no, .no] ∧ κ = stK B fa la n s) ⟨_, rfl, rfl⟩ ?_ ?_
  · rintro i d ρ κ hd ⟨z2, rfl, rfl⟩
    obtain ⟨rfl, hi⟩ := mem_range hd
    refine ⟨_, rfl, ?_⟩
    obtain ⟨k1, k2, k3⟩ := led_read h hR (l1 i (by omega))
    refine wpS_atom (ρ' := [.val (.obj a), .val (.int (up R s (upN R s i v) : Nat)), .val (.int (0 + (i : Int))), .no, .no]) (k := stK B fa la n s) (by simp [eW, eL, web_1, k2, k3]) ⟨_, rfl, rfl⟩
  · rintro ρ κ ⟨z2, rfl, rfl⟩
    rw [range_len, show ((n : Int) - 0).toNat = n by omega]
    generalize upN R s n v = m0 at *
    refine wpS_atom (ρ' := [.val (.obj a), .val (.int m0), z2, .own [], .no]) (k := stK B fa la n s) (by simp) ?_
    refine wpS_atom (ρ' := [.val (.obj a), .val (.int m0), z2, .own [], .val (.int m0)]) (k := stK B fa la n s) (by simp) ?_
    refine wpS_whl (fun i ρ κ => ρ = [.val (.obj a), .val (.int m0), z2, .own (((List.range i).map fun q => ((lix s (upN R s q m0) : Nat) : Int)).map D.int), .val (.int (upN R s i m0 : Nat))] ∧ κ = stK B fa la n s) cy ?_ fuel 0 _ _ (by unfold fuel; omega) (by omega) ⟨rfl, rfl⟩
    rintro i ρ κ hi ⟨rfl, rfl⟩
    have eq0 : cEq (.bor (((List.range i).map fun q => ((lix s (upN R s q m0) : Nat) : Int)).map D.int)) (.lst []) = some (decide (i = 0)) := by
      rw [cEq_borN]; simp
    have hlen : (((List.range i).map fun q => ((lix s (upN R s q m0) : Nat) : Int)).map D.int).length = i := by simp
    have hsn : (((List.range i).map fun q => ((lix s (upN R s q m0) : Nat) : Int)).map D.int) ++ [D.int (lix s (upN R s i m0) : Nat)] = (((List.range (i + 1)).map fun q => ((lix s (upN R s q m0) : Nat) : Int)).map D.int) := by
      rw [List.range_succ]; simp
    by_cases hic : i = cy
    · subst hic
      refine wpE_atom (a := false) (k := stK B fa la n s) ?_ ?_
      · have : ¬ i = 0 := by omega
        generalize (((List.range i).map fun q => ((lix s (upN R s q m0) : Nat) : Int)).map D.int) = L at *
        simp [eq0, h2, this]
      · rw [if_neg (by simp)]
        have hrev : (((List.range i).map fun q => ((lix s (upN R s q m0) : Nat) : Int)).map D.int).reverse = ((List.range i).map fun q => ((lix s (upN R s q m0) : Nat) : Int)).reverse.map D.int := by rw [List.map_reverse]
        refine wpS_atomR (d := .tup (((List.range i).map fun q => ((lix s (upN R s q m0) : Nat) : Int)).reverse.map D.int)) (k := stK B fa la n s) ?_ ⟨rfl, rfl⟩
        rw [← hrev]
        generalize (((List.range i).map fun q => ((lix s (upN R s q m0) : Nat) : Int)).map D.int) = L at *
        simp
    · refine wpE_atom (a := true) (k := stK B fa la n s) ?_ ?_
      · generalize (((List.range i).map fun q => ((lix s (upN R s q m0) : Nat) : Int)).map D.int) = L at *
        by_cases h0 : i = 0
        · simp [eq0, h0]
        · have hne := h3 i (by omega) (by omega)
          have hne' : ¬ ((upN R s i m0 : Nat) : Int) = (m0 : Int) := by omega
          simp [eq0, h0, hne']
      · rw [if_pos rfl]
        refine ⟨by omega, ?_⟩
        obtain ⟨k1, k2, k3⟩ := led_read h hR (l2 i)
        rw [wpS_seq]
        have hL : ¬ 16777216 ≤ i := by omega
        refine wpS_atom (ρ' := [.val (.obj a), .val (.int m0), z2, .own (((List.range (i + 1)).map fun q => ((lix s (upN R s q m0) : Nat) : Int)).map D.int), .val (.int (upN R s i m0 : Nat))]) (k := stK B fa la n s) ?_ ?_
        · rw [← hsn]
          generalize (((List.range i).map fun q => ((lix s (upN R s q m0) : Nat) : Int)).map D.int) = L at *
          simp [eL, k2, hlen, hL]
        · refine wpS_atom (ρ' := [.val (.obj a), .val (.int m0), z2, .own (((List.range (i + 1)).map fun q => ((lix s (upN R s q m0) : Nat) : Int)).map D.int), .val (.int (up R s (upN R s i m0) : Nat))]) (k := stK B fa la n s) ?_ ⟨rfl, rfl⟩
          generalize (((List.range (i + 1)).map fun q => ((lix s (upN R s q m0) : Nat) : Int)).map D.int) = L at *
          simp [eW, eL, web_1, k2, k3]
end
end SH
set_option Elab.async false
set_option linter.all false
set_option maxRecDepth 100000
set_option maxHeartbeats 4000000
namespace DL
open PySem L2
theorem cIn_ints (v : Int) (l : List Int) : cIn (.int v) (.lst (l.map D.int)) = some (l.any fun e => e == v) := by
  unfold cIn
  simp only [items]
  have h1 : flatD (.int v) = true := rfl
  have h2 : (l.map D.int).all flatD = true := by rw [List.all_map]; simp [Function.comp_def, flatD]
  rw [if_pos ⟨h1, h2⟩, List.any_map]
  rfl
end DL
namespace SH
open PySem L2 DL BF
/-- a ring below 0, told by the rules' numbers -/
structure IsRing (R : List Ru) (ks : List Int) : Prop where
  ex : ∃ rs : List Ru, rs.length = ks.length ∧ 0 < ks.length ∧ (∀ (p : Nat) r, rs[p]? = some r → ∃ k : Nat, ks[p]? = some (k : Int) ∧ R[k]? = some r) ∧
    (∀ (p : Nat) r r', rs[p]? = some r → rs[(p + 1) % rs.length]? = some r' → r.j = r'.i) ∧ (rs.map Ru.w).sum < 0
section
variable {c n : Nat} {κ : Ka} {R : List Ru} {rest : List D} {s : S}
theorem stK_app {x : Cell} {l1 l2 : List D} : stK (κ ++ [x, .lst l1, .lst l2]) (κ.length + 1) (κ.length + 2) n s = κ ++ [x, .lst (tabN n fun v => optI (s.far v)), .lst (tabN n fun v => optN (s.last v))] := by
  unfold stK
  rw [List.set_append_right _ _ (by omega), List.set_append_right _ _ (by omega)]
  simp
theorem at_app {W : D} {l1 l2 : List D} : At c (κ ++ [.ins c (flds W (.obj (κ.length + 1)) (.obj (κ.length + 2))), .lst l1, .lst l2]) κ.length (κ.length + 1) (κ.length + 2) W :=
  ⟨by rw [List.getElem?_append_right (Nat.le_refl _)]; simp, by simp, by simp, by omega, by omega, by omega⟩
/-- the ring that ring_from tells -/
theorem isRing_of {m0 cy : Nat} (c1 : 1 ≤ cy) (l2 : ∀ q, Led R s (upN R s q m0)) (h2 : upN R s cy m0 = m0) (hw : wsum R s cy m0 < 0) :
    IsRing R (((List.range cy).map fun q => ((lix s (upN R s q m0) : Nat) : Int)).reverse) := by
  have led : ∀ q, ∃ r, R[lix s (upN R s q m0)]? = some r ∧ r.j = upN R s q m0 ∧ r.i = upN R s (q + 1) m0 ∧ r.w = lw R s (upN R s q m0) := fun q => by
    obtain ⟨k, r, h1, h2, h3, h4⟩ := l2 q
    exact ⟨r, by unfold lix; rw [h1]; exact h2, h3, h4, by unfold lw; rw [h1]; simp only [h2]⟩
  let ru : Nat → Ru := fun q => (R[lix s (upN R s q m0)]?).getD ⟨0, 0, 0⟩
  have hru : ∀ q, R[lix s (upN R s q m0)]? = some (ru q) ∧ (ru q).j = upN R s q m0 ∧ (ru q).i = upN R s (q + 1) m0 ∧ (ru q).w = lw R s (upN R s q m0) := fun q => by
    obtain ⟨r, h1, h2, h3, h4⟩ := led q
    have : ru q = r := by show (R[lix s (upN R s q m0)]?).getD _ = r; rw [h1]; rfl
    rw [this]; exact ⟨h1, h2, h3, h4⟩
  have get : ∀ (p : Nat) (r : Ru), (((List.range cy).map ru).reverse)[p]? = some r → p < cy ∧ r = ru (cy - 1 - p) := fun p r h => by
    obtain ⟨h1, h2⟩ := List.getElem?_eq_some_iff.mp h
    have hp : p < cy := by simpa using h1
    rw [List.getElem_reverse] at h2
    simp at h2
    exact ⟨hp, h2.symm⟩
  refine ⟨((List.range cy).map ru).reverse, by simp, by simp; omega, fun p r h => ?_, fun p r r' h h' => ?_, ?_⟩
  · obtain ⟨hp, rfl⟩ := get p r h
    refine ⟨lix s (upN R s (cy - 1 - p) m0), ?_, (hru _).1⟩
    rw [List.getElem?_eq_getElem (by simpa using hp), List.getElem_reverse]
    simp
  · obtain ⟨hp, rfl⟩ := get p r h
    obtain ⟨hp', rfl⟩ := get _ r' h'
    have hl : ((List.range cy).map ru).reverse.length = cy := by simp
    rw [hl] at hp' ⊢
    rw [(hru _).2.1, (hru _).2.2.1]
    by_cases hc : p + 1 < cy
    · rw [Nat.mod_eq_of_lt hc]
      rw [show cy - 1 - (p + 1) + 1 = cy - 1 - p by omega]
    · have : p + 1 = cy := by omega
      rw [this, Nat.mod_self, show cy - 1 - 0 + 1 = cy by omega, h2, show cy - 1 - p = 0 by omega]
      rfl
  · have hs : ∀ m, (((List.range m).map ru).reverse.map Ru.w).sum = wsum R s m m0 := fun m => by
      induction m with
      | zero => rfl
      | succ m ih =>
        rw [List.range_succ, List.map_append, List.reverse_append]
        simp only [List.map_cons, List.map_nil, List.reverse_cons, List.reverse_nil, List.nil_append, List.cons_append, List.sum_cons]
        rw [ih]
        show (ru m).w + wsum R s m m0 = wsum R s m m0 + lw R s (upN R s m m0)
        rw [(hru m).2.2.2]; omega
    rw [hs]; exact hw
end
end SH
set_option Elab.async false
set_option linter.all false
set_option maxRecDepth 100000
set_option maxHeartbeats 4000000
namespace SH
open PySem L2 DL BF
section
variable {c n : Nat} {κ : Ka} {R : List Ru} {rest : List D} {s : S}
theorem make_ok {firsts : D} {src : Nat → Bool} {ρ : List Sl} {na : Ev (List D)} {κ1 : Ka} (hn : n ≤ 1000000) (ha : na ρ κ1 = some (.ok [webD n R rest, firsts], κ)) (hs : ∀ v, v < n → cIn (.int (v : Nat)) firsts = some (src v)) (nf : isBor firsts = false) :
    eMake c 3 (f_Spreading___init__ c) na ρ κ1 = some (.ok (.obj κ.length), stK (κ ++ [.ins c (flds (webD n R rest) (.obj (κ.length + 1)) (.obj (κ.length + 2))), .lst [], .lst []]) (κ.length + 1) (κ.length + 2) n (startS src)) := by
  rw [eMake_def, ha, stK_app]
  simp only [bind_ok]
  rw [if_pos (by simp), init_ok hn hs nf]
  rfl
theorem range_in {v : Nat} (h : v < n) : cIn (.int (v : Nat)) (.lst (rangeD 0 n)) = some true := by
  have e : rangeD 0 n = ((List.range n).map fun (k : Nat) => (k : Int)).map D.int := by
    unfold rangeD
    rw [List.map_map, show ((n : Int) - 0).toNat = n by omega]
    apply List.map_congr_left
    intro k _
    simp
  rw [e, cIn_ints]
  congr 1
  rw [List.any_eq_true]
  exact ⟨(v : Int), List.mem_map.mpr ⟨v, List.mem_range.mpr h, rfl⟩, by simp⟩
theorem shifted_ok {T : Nat → Int} {a : Nat} (hn : 0 < n) (hn2 : n ≤ 1000000) (h : κ[a]? = some (.lst (tabN n fun v => .int (T v)))) : f_shifted [.obj a] κ = some (.ok (.tup (tabN n fun v => .int (T v - T 0))), κ) := by
  have e0 : ∀ κ' : Ka, κ' = κ → oIdx κ' (.obj a) (.int 0) = some (.int (T 0)) := fun κ' e => by
    subst e
    unfold oIdx
    simp only [h]
    have := tabN_at (f := fun v => D.int (T v)) (n := n) (i := 0) hn
    simpa using this
  have e1 := eCompO_map (vs := [1]) (m := eVar 0) (g := gNm 1) (e := eOp oSub (eVar 1) (eIdx (eVar 0) (eC (.int 0)))) (ρ := [.val (.obj a), .no]) (κ := κ) (κ1 := κ) (k := a) (fun d => match d with | .int i => .int (i - T 0) | d => d) rfl h (by simp; omega) (fun d hd => by
    unfold tabN at hd
    obtain ⟨k, _, rfl⟩ := List.mem_map.mp hd
    exact ⟨_, rfl, rfl, by simp [e0]⟩)
  have e2 : (tabN n fun v => D.int (T v)).map (fun d => match d with | .int i => D.int (i - T 0) | d => d) = tabN n fun v => .int (T v - T 0) := by simp [tabN]
  rw [e2] at e1
  unfold f_shifted mean
  show noEr (match m_shifted [.val (.obj a), .no] κ with | some (.nx _, κ') => some (.ok .non, κ') | some (.rt d, κ') => some (.ok d, κ') | some (.er c, κ') => some (.er c, κ') | _ => none) = _
  unfold m_shifted
  rw [sRet_def, eBi_def, aCons_def, eFr_def, e1]
  simp
/-- all the sources, or told otherwise: what is far -/
theorem holds_ok (hR : ∀ r ∈ R, r.i < n ∧ r.j < n) (hne : ∀ r ∈ R, r.i ≠ r.j) (hn : 0 < n) (hn2 : n ≤ 1000000) (κ : Ka) :
    ∃ t : Ka, (∃ T : Nat → Int, f_holds_answer c [webD n R rest] κ = some (.ok (.tup [.str "holds", .tup (tabN n fun v => .int (T v - T 0))]), κ ++ t) ∧ ∀ r ∈ R, T r.j ≤ T r.i + r.w) ∨
      ∃ ks : List Int, f_holds_answer c [webD n R rest] κ = some (.ok (.tup [.str "ring", .tup (ks.map D.int)]), κ ++ t) ∧ IsRing R ks ∧ ks.length ≤ n := by
  let src : Nat → Bool := fun v => decide (v < n)
  have hs : ∀ v, v < n → cIn (.int (v : Nat)) (.lst (rangeD 0 n)) = some (src v) := fun v hv => by rw [range_in hv]; simp [src, hv]
  let B : Ka := κ ++ [.ins c (flds (webD n R rest) (.obj (κ.length + 1)) (.obj (κ.length + 2))), .lst [], .lst []]
  have hA : At c B κ.length (κ.length + 1) (κ.length + 2) (webD n R rest) := at_app
  have e1 := make_ok (c := c) (R := R) (rest := rest) (ρ := [.val (webD n R rest), .no, .no]) (na := aCons (eVar 0) (aCons (eFr (fLRg1 (eIdx (eVar 0) (eC (.int 0))))) aNil)) (κ1 := κ) hn2 (κ := κ) (by
    have hG : okG 0 n := ⟨by omega, by omega, by omega, by omega, by omega⟩
    simp [web_0, hG]) hs rfl
  have e2 := spread_ok (s := startS src) hA hR hn hn2
  have e3 := ins_spread (n := n) (s := startS src) hA
  obtain ⟨⟨t', g', I⟩, hh⟩ := spreadF_ok (src := fun a => src a = true) hne n 0 (startS src) _ start_inv hn
  generalize hS : (spreadF R n (startS src)).1 = s at *
  have hK : stK B (κ.length + 1) (κ.length + 2) n s = κ ++ [.ins c (flds (webD n R rest) (.obj (κ.length + 1)) (.obj (κ.length + 2))), .lst (tabN n fun v => optI (s.far v)), .lst (tabN n fun v => optN (s.last v))] := stK_app
  refine ⟨[.ins c (flds (webD n R rest) (.obj (κ.length + 1)) (.obj (κ.length + 2))), .lst (tabN n fun v => optI (s.far v)), .lst (tabN n fun v => optN (s.last v))], ?_⟩
  rw [← hK]
  clear hK
  have hB : B = κ ++ [.ins c (flds (webD n R rest) (.obj (κ.length + 1)) (.obj (κ.length + 2))), .lst [], .lst []] := rfl
  rw [← hB] at e1
  clear hB
  clear_value B
  generalize hW : webD n R rest = W at *
  have w0 : ∀ κ : Ka, oIdx κ W (.int 0) = some (.int n) := fun κ => by rw [← hW]; exact web_0
  have nW : isBor W = false := by rw [← hW]; rfl
  have run : ∀ (Q : D → Ka → Prop), wpS ((sSeq (sIf (bCmp cIsNot (eVar 2) (eC .non)) (sRet (eTup (aCons (eC (.str "ring")) (aCons (eMeth c "ring_from" 2 (f_Spreading_ring_from c) (eVar 1) (aCons (eVar 2) aNil)) aNil)))) sNext)
      (sRet (eTup (aCons (eC (.str "holds")) (aCons (eCall 1 f_shifted (aCons (eAttr c "far" (eVar 1)) aNil)) aNil))))) [.val W, .val (.obj κ.length), .val (optN (spreadF R n (startS src)).2)] (stK B (κ.length + 1) (κ.length + 2) n s)) (fun _ κ => Q .non κ) Q (fun _ _ => False) (fun _ _ => False) → wpE (f_holds_answer c [W] κ) Q := fun Q h => by
    unfold f_holds_answer
    refine mean_wp ?_
    show wpS (m_holds_answer c [.val W, .no, .no] κ) _ _ _ _
    unfold m_holds_answer
    rw [wpS_seq]
    refine wpS_atom (ρ' := [.val W, .val (.obj κ.length), .no]) (k := stK B (κ.length + 1) (κ.length + 2) n (startS src)) (by rw [sAsg_def, e1]; simp) ?_
    rw [wpS_seq]
    exact wpS_atom (ρ' := [.val W, .val (.obj κ.length), .val (optN (spreadF R n (startS src)).2)]) (k := stK B (κ.length + 1) (κ.length + 2) n s) (by simp [e2, e3, optN_nb]) h
  rcases hh with ⟨hf, hsat⟩ | ⟨v, g2, hf, I2, hg2⟩
  · left
    have hT : ∀ v, v < n → s.far v = some ((s.far v).getD 0) := fun v hv => by
      obtain ⟨d, h1, _⟩ := I.src0 v (by simp [src, hv])
      rw [h1]; rfl
    have hcell : (stK B (κ.length + 1) (κ.length + 2) n s)[κ.length + 1]? = some (.lst (tabN n fun v => .int ((s.far v).getD 0))) := by
      rw [stK_f hA]
      congr 2
      unfold tabN
      apply List.map_congr_left
      intro v hv
      rw [hT v (List.mem_range.mp hv)]; rfl
    refine ⟨fun v => (s.far v).getD 0, ?_, fun r hr => ?_⟩
    · refine eq_of_wp (run _ ?_)
      rw [hf, wpS_seq, wpS_if]
      refine wpE_atom (a := false) (k := stK B (κ.length + 1) (κ.length + 2) n s) (by simp [optN]) ?_
      rw [if_neg (by simp), wpS_next]
      have e4 := shifted_ok hn hn2 hcell
      have e5 := at_far (n := n) (s := s) hA
      exact wpS_atomR (d := .tup [.str "holds", .tup (tabN n fun v => .int ((s.far v).getD 0 - (s.far 0).getD 0))]) (k := stK B (κ.length + 1) (κ.length + 2) n s) (by simp [e4, e5]) ⟨rfl, rfl⟩
    · obtain ⟨d, h1, h2⟩ := hsat r hr _ (hT r.i (hR r hr).1)
      simp only [h1, Option.getD_some]
      exact h2
  · right
    rw [Nat.zero_add] at I2 hg2
    have hv : v < n := by
      obtain ⟨⟨k, r, h1, h2, h3, _⟩, _⟩ := I2.led (v := v) (by omega)
      have := hR r (List.mem_of_getElem? h2); omega
    obtain ⟨cy, c1, c2, l1, l2, k1, k2, k3⟩ := ring_ok I2 hR hv hg2
    have e4 := ring_from_ok (rest := rest) (by rw [hW]; exact hA) hR hn2 c1 c2 l1 l2 k1 k2
    have e5 := ins_ring (n := n) (R := R) (rest := rest) (s := s) (by rw [hW]; exact hA)
    refine ⟨_, ?_, isRing_of c1 l2 k1 k3, by simp; omega⟩
    refine eq_of_wp (run _ ?_)
    rw [hf, wpS_seq, wpS_if]
    refine wpE_atom (a := true) (k := stK B (κ.length + 1) (κ.length + 2) n s) (by simp [optN]) ?_
    rw [if_pos rfl]
    refine wpS_atomR (d := .tup [.str "ring", .tup ((((List.range cy).map fun q => ((lix s (upN R s q (upN R s n v)) : Nat) : Int)).reverse).map D.int)]) (k := stK B (κ.length + 1) (κ.length + 2) n s) ?_ ⟨rfl, rfl⟩
    generalize ((((List.range cy).map fun q => ((lix s (upN R s q (upN R s n v)) : Nat) : Int)).reverse).map D.int) = L at *
    simp [e4, e5, optN]
end
end SH
set_option Elab.async false
set_option linter.all false
set_option maxRecDepth 100000
set_option maxHeartbeats 4000000
namespace SH
open PySem L2 DL BF
section
variable {c n : Nat} {κ : Ka} {R : List Ru} {rest : List D} {s : S}
theorem chain_walk {v : Nat} (h : ∀ q, Led R s (upN R s q v)) : ∀ m : Nat, Wk R (upN R s m v) v (wsum R s m v)
  | 0 => .nil
  | m + 1 => by
    obtain ⟨k, r, h1, h2, h3, h4⟩ := h m
    have hw : lw R s (upN R s m v) = r.w := by unfold lw; rw [h1]; simp only [h2]
    have w1 : Wk R (up R s (upN R s m v)) (upN R s m v) r.w := by
      rw [← h4, ← h3]; exact .one (List.mem_of_getElem? h2)
    have := w1.app (chain_walk h m)
    show Wk R (up R s (upN R s m v)) v (wsum R s m v + lw R s (upN R s m v))
    rw [hw, Int.add_comm]; exact this
theorem bTuple_obj {k : Nat} {ds : List D} (h : κ[k]? = some (.lst ds)) : bTuple κ [.obj k] = some (.tup ds) := by
  simp [bTuple, itemsK, listK, h]
theorem gap_ok (hR : ∀ r ∈ R, r.i < n ∧ r.j < n) (hne : ∀ r ∈ R, r.i ≠ r.j) (hn2 : n ≤ 1000000) {i0 : Nat} (hi : i0 < n) (h0 : ∀ a x, a < n → Wk R a a x → 0 ≤ x) (κ : Ka) :
    ∃ (t : Ka) (F : Nat → Option Int), f_gap_row c [webD n R rest, .int i0] κ = some (.ok (.tup (tabN n fun v => optI (F v))), κ ++ t) ∧ (∀ v x, F v = some x → Wk R i0 v x) ∧ ∀ v x, Wk R i0 v x → ∃ d, F v = some d ∧ d ≤ x := by
  have hn : 0 < n := by omega
  let src : Nat → Bool := fun v => decide (v = i0)
  have hs : ∀ v, v < n → cIn (.int (v : Nat)) (.lst [.int (i0 : Nat)]) = some (src v) := fun v hv => by
    have := cIn_ints (v : Int) [(i0 : Int)]
    rw [show ([(i0 : Int)].map D.int) = [D.int (i0 : Nat)] from rfl] at this
    rw [this]
    congr 1
    by_cases e : v = i0
    · subst e; simp [src]
    · have e' : ¬ (i0 : Int) = (v : Int) := by omega
      simp [src, e, e']
  let B : Ka := κ ++ [.ins c (flds (webD n R rest) (.obj (κ.length + 1)) (.obj (κ.length + 2))), .lst [], .lst []]
  have hA : At c B κ.length (κ.length + 1) (κ.length + 2) (webD n R rest) := at_app
  have e1 := make_ok (c := c) (R := R) (rest := rest) (ρ := [.val (webD n R rest), .val (.int (i0 : Nat)), .no]) (na := aCons (eVar 0) (aCons (eFr (fLst (aCons (eVar 1) aNil))) aNil)) (κ1 := κ) hn2 (κ := κ) (by simp) hs rfl
  have e2 := spread_ok (s := startS src) hA hR hn hn2
  have e3 := ins_spread (n := n) (s := startS src) hA
  obtain ⟨⟨t', g', I⟩, hh⟩ := spreadF_ok (src := fun a => src a = true) hne n 0 (startS src) _ start_inv hn
  generalize hS : (spreadF R n (startS src)).1 = s at *
  have hK : stK B (κ.length + 1) (κ.length + 2) n s = κ ++ [.ins c (flds (webD n R rest) (.obj (κ.length + 1)) (.obj (κ.length + 2))), .lst (tabN n fun v => optI (s.far v)), .lst (tabN n fun v => optN (s.last v))] := stK_app
  refine ⟨[.ins c (flds (webD n R rest) (.obj (κ.length + 1)) (.obj (κ.length + 2))), .lst (tabN n fun v => optI (s.far v)), .lst (tabN n fun v => optN (s.last v))], s.far, ?_, fun v x h => ?_, fun v x w => ?_⟩
  · rw [← hK]
    clear hK
    have hB : B = κ ++ [.ins c (flds (webD n R rest) (.obj (κ.length + 1)) (.obj (κ.length + 2))), .lst [], .lst []] := rfl
    rw [← hB] at e1
    clear hB
    clear_value B
    generalize hW : webD n R rest = W at *
    have nW : isBor W = false := by rw [← hW]; rfl
    refine eq_of_wp ?_
    unfold f_gap_row
    refine mean_wp ?_
    show wpS (m_gap_row c [.val W, .val (.int (i0 : Nat)), .no] κ) _ _ _ _
    unfold m_gap_row
    rw [wpS_seq]
    refine wpS_atom (ρ' := [.val W, .val (.int (i0 : Nat)), .val (.obj κ.length)]) (k := stK B (κ.length + 1) (κ.length + 2) n (startS src)) (by rw [sAsg_def, e1]; simp) ?_
    rw [wpS_seq]
    refine wpS_atom (ρ' := [.val W, .val (.int (i0 : Nat)), .val (.obj κ.length)]) (k := stK B (κ.length + 1) (κ.length + 2) n s) (by simp [e2, e3]) ?_
    have e4 := at_far (n := n) (s := s) hA
    have e5 := bTuple_obj (stK_f (n := n) (s := s) hA)
    exact wpS_atomR (d := .tup (tabN n fun v => optI (s.far v))) (k := stK B (κ.length + 1) (κ.length + 2) n s) (by simp [e4, e5]) ⟨rfl, rfl⟩
  · obtain ⟨a, ha, w⟩ := I.walk v x h
    have : a = i0 := by simpa [src] using ha
    subst this; exact w
  · obtain ⟨d0, h1, h2⟩ := I.src0 i0 (by simp [src])
    rcases hh with ⟨_, hsat⟩ | ⟨u, g2, hf, I2, hg2⟩
    · obtain ⟨d, h3, h4⟩ := sat_walk hsat w h1
      exact ⟨d, h3, by omega⟩
    · exfalso
      rw [Nat.zero_add] at I2 hg2
      have hu : u < n := by
        obtain ⟨⟨k, r, h1, h2, h3, _⟩, _⟩ := I2.led (v := u) (by omega)
        have := hR r (List.mem_of_getElem? h2); omega
      obtain ⟨cy, c1, c2, l1, l2, k1, k2, k3⟩ := ring_ok I2 hR hu hg2
      have hw := chain_walk l2 cy
      rw [k1] at hw
      have hb : upN R s n u < n := by
        obtain ⟨k, r, q1, q2, q3, _⟩ := l2 0
        have hm := hR r (List.mem_of_getElem? q2)
        have e : upN R s 0 (upN R s n u) = upN R s n u := rfl
        rw [e] at q3
        omega
      have := h0 _ _ hb hw
      omega
end
end SH
set_option Elab.async false
set_option linter.all false
set_option maxRecDepth 100000
set_option maxHeartbeats 4000000
/-! SHi: _law_floyd tells BF.floyd. -/
namespace SH
open PySem L2 DL BF
def rowC (n : Nat) (T : Tb) (i : Nat) : Cell := .lst (tabN n fun j => optI (T i j))
def rowsK (n m : Nat) (T : Tb) : Ka := (List.range m).map (rowC n T)
def tabD (b n : Nat) : D := .lst ((List.range n).map fun i => .obj (b + i))
section
variable {n m i j b : Nat} {κ : Ka} {T : Tb}
@[simp] theorem rowsK_len : (rowsK n m T).length = m := by simp [rowsK]
theorem rowsK_at (h : i < m) : (κ ++ rowsK n m T)[κ.length + i]? = some (rowC n T i) := by
  rw [List.getElem?_append_right (by omega), Nat.add_sub_cancel_left]
  simp [rowsK, h]
theorem rowsK_set {x : Option Int} (hi : i < m) (hj : j < n) : (κ ++ rowsK n m T).set (κ.length + i) (.lst ((tabN n fun v => optI (T i v)).set j (optI x))) = κ ++ rowsK n m (put2 T i j x) := by
  rw [List.set_append_right _ _ (by omega), Nat.add_sub_cancel_left]
  congr 1
  apply List.ext_getElem
  · simp
  · intro k h1 h2
    have hk : k < m := by simpa using h2
    rw [List.getElem_set]
    simp only [rowsK, List.getElem_map, List.getElem_range, rowC]
    by_cases e : i = k
    · subst e
      rw [if_pos rfl, tabN_set hj]
      congr 2
      funext v
      unfold put put2
      by_cases e2 : v = j
      · subst e2; simp
      · simp [e2]
    · rw [if_neg e]
      congr 2
      funext v
      unfold put2
      rw [if_neg (fun q => e q.1.symm)]
theorem tab_row (h : i < n) : atI ((List.range n).map fun i => D.obj (b + i)) (i : Int) = some (.obj (b + i)) := by
  rw [DL.atI_nat (by simpa using h)]; simp
theorem cell_read (hi : i < m) (hj : j < n) : oIdx (κ ++ rowsK n m T) (.obj (κ.length + i)) (.int (j : Nat)) = some (optI (T i j)) := by
  unfold oIdx
  simp only [rowsK_at hi, rowC]
  exact tabN_at hj
/-- one cell's turn -/
theorem fl_cell {z0 z1 z5 : Sl} {k : Nat} (hk : k < n) (hi : i < n) (hj : j < n) :
    (sIf (bAnd (bCmp cIsNot (eIdx (eIdx (eVar 2) (eVar 3)) (eVar 6)) (eC .non)) (bAnd (bCmp cIsNot (eIdx (eIdx (eVar 2) (eVar 6)) (eVar 4)) (eC .non)) (bOr (bCmp cIs (eIdx (eIdx (eVar 2) (eVar 3)) (eVar 4)) (eC .non)) (bCmp cLt (eOp oAdd (eIdx (eIdx (eVar 2) (eVar 3)) (eVar 6)) (eIdx (eIdx (eVar 2) (eVar 6)) (eVar 4))) (eIdx (eIdx (eVar 2) (eVar 3)) (eVar 4)))))) (sSetO (eIdx (eVar 2) (eVar 3)) (eVar 4) (eOp oAdd (eIdx (eIdx (eVar 2) (eVar 3)) (eVar 6)) (eIdx (eIdx (eVar 2) (eVar 6)) (eVar 4)))) sNext) [z0, z1, .val (tabD κ.length n), .val (.int (i : Nat)), .val (.int (j : Nat)), z5, .val (.int (k : Nat))] (κ ++ rowsK n n T) =
      some (.nx [z0, z1, .val (tabD κ.length n), .val (.int (i : Nat)), .val (.int (j : Nat)), z5, .val (.int (k : Nat))], κ ++ rowsK n n (cellU T k i j)) := by
  have t1 : ∀ κ' : Ka, oIdx κ' (tabD κ.length n) (.int (i : Nat)) = some (.obj (κ.length + i)) := fun κ' => tab_row hi
  have t2 : ∀ κ' : Ka, oIdx κ' (tabD κ.length n) (.int (k : Nat)) = some (.obj (κ.length + k)) := fun κ' => tab_row hk
  have c1 := cell_read (κ := κ) (T := T) (m := n) hi hk
  have c2 := cell_read (κ := κ) (T := T) (m := n) hk hj
  have c3 := cell_read (κ := κ) (T := T) (m := n) hi hj
  have g1 := rowsK_at (κ := κ) (n := n) (T := T) hi
  have nT : isBor (tabD κ.length n) = false := rfl
  generalize tabD κ.length n = FT at *
  unfold cellU
  cases ha : T i k with
  | none => rw [ha] at c1; simp [t1, c1, optI_n]
  | some a =>
    rw [ha] at c1
    cases hb : T k j with
    | none => rw [hb] at c2; simp [t1, t2, c1, c2, optI_n, optI_s]
    | some b =>
      rw [hb] at c2
      unfold less
      simp only
      have e7 := rowsK_set (κ := κ) (n := n) (T := T) (x := some (a + b)) hi hj
      have e9 : ixN n ((j : Nat) : Int) = some j := ixN_nat hj
      rw [optI_s] at e7
      cases hc : T i j with
      | none =>
        rw [hc] at c3
        rw [if_pos (show ltO (a + b) none = true from rfl)]
        simp [t1, t2, c1, c2, c3, optI_n, optI_s, g1, rowC, e7, e9]
      | some x =>
        rw [hc] at c3
        by_cases hl : ltO (a + b) (some x) = true
        · rw [if_pos hl]
          have hl' := ltO_some hl
          simp [t1, t2, c1, c2, c3, optI_n, optI_s, g1, rowC, e7, e9, hl']
        · rw [if_neg hl]
          have hl' : ¬ a + b < x := fun q => hl (decide_eq_true q)
          simp [t1, t2, c1, c2, c3, optI_n, optI_s, hl']
abbrev flBody : Es := sIf (bAnd (bCmp cIsNot (eIdx (eIdx (eVar 2) (eVar 3)) (eVar 6)) (eC .non)) (bAnd (bCmp cIsNot (eIdx (eIdx (eVar 2) (eVar 6)) (eVar 4)) (eC .non)) (bOr (bCmp cIs (eIdx (eIdx (eVar 2) (eVar 3)) (eVar 4)) (eC .non)) (bCmp cLt (eOp oAdd (eIdx (eIdx (eVar 2) (eVar 3)) (eVar 6)) (eIdx (eIdx (eVar 2) (eVar 6)) (eVar 4))) (eIdx (eIdx (eVar 2) (eVar 3)) (eVar 4)))))) (sSetO (eIdx (eVar 2) (eVar 3)) (eVar 4) (eOp oAdd (eIdx (eIdx (eVar 2) (eVar 3)) (eVar 6)) (eIdx (eIdx (eVar 2) (eVar 6)) (eVar 4)))) sNext
/-- the three loops -/
theorem fl_loops {z1 z3 z4 z5 z6 : Sl} {Qn Qb Qc : List Sl → Ka → Prop} {Qr : D → Ka → Prop} (hn : n ≤ 1000000) (hq : ∀ z3 z4 z6, Qn [.val (.int (n : Nat)), z1, .val (tabD κ.length n), z3, z4, z5, z6] (κ ++ rowsK n n (flK n T n))) :
    wpS (sForE (iRange1 (aCons (eVar 0) aNil)) (gNm 6) (sForE (iRange1 (aCons (eVar 0) aNil)) (gNm 3) (sForE (iRange1 (aCons (eVar 0) aNil)) (gNm 4) flBody)) [.val (.int (n : Nat)), z1, .val (tabD κ.length n), z3, z4, z5, z6] (κ ++ rowsK n n T)) Qn Qr Qb Qc := by
  refine wpS_forE (rangeD 0 n) (range1_ok (by omega) (by simp)) (fun k ρ κ' => ∃ z3 z4 z6, ρ = [.val (.int (n : Nat)), z1, .val (tabD κ.length n), z3, z4, z5, z6] ∧ κ' = κ ++ rowsK n n (flK n T k)) ⟨_, _, _, rfl, rfl⟩ ?_ ?_
  · rintro k d ρ κ' hd ⟨z3, z4, z6, rfl, rfl⟩
    obtain ⟨rfl, hk⟩ := mem_range hd
    have hk' : k < n := by omega
    refine ⟨_, rfl, ?_⟩
    have ek : (0 : Int) + (k : Int) = (k : Nat) := by omega
    rw [ek]
    refine wpS_forE (rangeD 0 n) (range1_ok (by omega) (by simp)) (fun i ρ κ' => ∃ z3 z4, ρ = [.val (.int (n : Nat)), z1, .val (tabD κ.length n), z3, z4, z5, .val (.int (k : Nat))] ∧ κ' = κ ++ rowsK n n (flI n (flK n T k) k i)) ⟨_, _, rfl, rfl⟩ ?_ ?_
    · rintro i d ρ κ' hd ⟨z3, z4, rfl, rfl⟩
      obtain ⟨rfl, hi⟩ := mem_range hd
      have hi' : i < n := by omega
      refine ⟨_, rfl, ?_⟩
      have ei : (0 : Int) + (i : Int) = (i : Nat) := by omega
      rw [ei]
      refine wpS_forE (rangeD 0 n) (range1_ok (by omega) (by simp)) (fun j ρ κ' => ∃ z4, ρ = [.val (.int (n : Nat)), z1, .val (tabD κ.length n), .val (.int (i : Nat)), z4, z5, .val (.int (k : Nat))] ∧ κ' = κ ++ rowsK n n (flJ (flI n (flK n T k) k i) k i j)) ⟨_, rfl, rfl⟩ ?_ ?_
      · rintro j d ρ κ' hd ⟨z4, rfl, rfl⟩
        obtain ⟨rfl, hj⟩ := mem_range hd
        have hj' : j < n := by omega
        refine ⟨_, rfl, ?_⟩
        have ej : (0 : Int) + (j : Int) = (j : Nat) := by omega
        rw [ej]
        exact wpS_atom (fl_cell hk' hi' hj') ⟨_, rfl, rfl⟩
      · rintro ρ κ' ⟨z4, rfl, rfl⟩
        rw [range_len, show ((n : Int) - 0).toNat = n by omega]
        exact ⟨_, _, rfl, rfl⟩
    · rintro ρ κ' ⟨z3, z4, rfl, rfl⟩
      rw [range_len, show ((n : Int) - 0).toNat = n by omega]
      exact ⟨_, _, _, rfl, rfl⟩
  · rintro ρ κ' ⟨z3, z4, z6, rfl, rfl⟩
    rw [range_len, show ((n : Int) - 0).toNat = n by omega]
    exact hq _ _ _
end
end SH
set_option Elab.async false
set_option linter.all false
set_option maxRecDepth 100000
set_option maxHeartbeats 4000000
namespace SH
open PySem L2 DL BF
section
variable {n m i j b : Nat} {κ : Ka} {T : Tb}
abbrev edBody : Es := sIf (bAnd (bCmp cNe (eVar 3) (eVar 4)) (bOr (bCmp cIs (eIdx (eIdx (eVar 2) (eVar 3)) (eVar 4)) (eC .non)) (bCmp cLt (eVar 5) (eIdx (eIdx (eVar 2) (eVar 3)) (eVar 4))))) (sSetO (eIdx (eVar 2) (eVar 3)) (eVar 4) (eVar 5)) sNext
theorem fl_edge {z0 z1 z6 : Sl} {r : Ru} (hi : r.i < n) (hj : r.j < n) :
    edBody [z0, z1, .val (tabD κ.length n), .val (.int (r.i : Nat)), .val (.int (r.j : Nat)), .val (.int r.w), z6] (κ ++ rowsK n n T) =
      some (.nx [z0, z1, .val (tabD κ.length n), .val (.int (r.i : Nat)), .val (.int (r.j : Nat)), .val (.int r.w), z6], κ ++ rowsK n n (edgeU T r)) := by
  have t1 : ∀ κ' : Ka, oIdx κ' (tabD κ.length n) (.int (r.i : Nat)) = some (.obj (κ.length + r.i)) := fun κ' => tab_row hi
  have c3 := cell_read (κ := κ) (T := T) (m := n) hi hj
  have g1 := rowsK_at (κ := κ) (n := n) (T := T) hi
  have e7 := rowsK_set (κ := κ) (n := n) (T := T) (x := some r.w) hi hj
  have e9 : ixN n ((r.j : Nat) : Int) = some r.j := ixN_nat hj
  rw [optI_s] at e7
  generalize tabD κ.length n = FT at *
  unfold edgeU
  by_cases he : r.i = r.j
  · rw [if_pos he]
    have he' : ((r.i : Nat) : Int) = (r.j : Nat) := by omega
    simp [he']
  · rw [if_neg he]
    have he' : ¬ ((r.i : Nat) : Int) = (r.j : Nat) := by omega
    unfold less
    cases hc : T r.i r.j with
    | none =>
      rw [hc] at c3
      rw [if_pos (show ltO r.w none = true from rfl)]
      simp [t1, c3, optI_n, g1, rowC, e7, e9, he']
    | some x =>
      rw [hc] at c3
      by_cases hl : ltO r.w (some x) = true
      · rw [if_pos hl]
        have hl' := ltO_some hl
        simp [t1, c3, optI_s, g1, rowC, e7, e9, he', hl']
      · rw [if_neg hl]
        have hl' : ¬ r.w < x := fun q => hl (decide_eq_true q)
        simp [t1, c3, optI_s, he', hl']
theorem flE_snoc (r : Ru) : ∀ (l : List Ru) (T : Tb), flE (l ++ [r]) T = edgeU (flE l T) r
  | [], T => rfl
  | q :: l, T => flE_snoc r l (edgeU T q)
theorem fl_edges {z0 z3 z4 z5 z6 : Sl} {R : List Ru} {Qn Qb Qc : List Sl → Ka → Prop} {Qr : D → Ka → Prop} (hR : ∀ r ∈ R, r.i < n ∧ r.j < n) (hq : ∀ z3 z4 z5, Qn [z0, .val (.tup (R.map ruD)), .val (tabD κ.length n), z3, z4, z5, z6] (κ ++ rowsK n n (flE R T))) :
    wpS (sForE (iAny false (eVar 1)) (gTu 3 (gsCons (gNm 3) (gsCons (gNm 4) (gsCons (gNm 5) gsNil)))) edBody [z0, .val (.tup (R.map ruD)), .val (tabD κ.length n), z3, z4, z5, z6] (κ ++ rowsK n n T)) Qn Qr Qb Qc := by
  refine wpS_forE (κ1 := κ ++ rowsK n n T) (R.map ruD) (by simp) (fun i ρ κ' => ∃ z3 z4 z5, ρ = [z0, .val (.tup (R.map ruD)), .val (tabD κ.length n), z3, z4, z5, z6] ∧ κ' = κ ++ rowsK n n (flE (R.take i) T)) ⟨_, _, _, rfl, rfl⟩ ?_ ?_
  · rintro i d ρ κ' hd ⟨z3, z4, z5, rfl, rfl⟩
    rw [List.getElem?_map] at hd
    obtain ⟨r, hr, rfl⟩ := Option.map_eq_some_iff.mp hd
    have hm := hR r (List.mem_of_getElem? hr)
    have ht : R.take (i + 1) = R.take i ++ [r] := by rw [List.take_succ, hr]; rfl
    refine ⟨_, rfl, wpS_atom (fl_edge hm.1 hm.2) ?_⟩
    exact ⟨_, _, _, rfl, by rw [ht, flE_snoc]⟩
  · rintro ρ κ' ⟨z3, z4, z5, rfl, rfl⟩
    rw [List.length_map, List.take_length]
    exact hq _ _ _
end
end SH
set_option Elab.async false
set_option linter.all false
set_option maxRecDepth 100000
set_option maxHeartbeats 4000000
namespace SH
open PySem L2 DL BF
section
variable {n m i j b : Nat} {κ : Ka} {T : Tb}
theorem rowsK_succ : rowsK n (m + 1) T = rowsK n m T ++ [rowC n T m] := by simp [rowsK, List.range_succ]
/-- a comprehension whose items are new lists of the store -/
theorem cLoop_rows {g : Tg} {e : Ev D} {ρw : List Sl} (n : Nat) (T : Tb) (κ : Ka) (hn : n ≤ 1000000) (h : ∀ i, i < n → ∀ κ', ∃ ρ2, g (.int (i : Nat)) ρw = some ρ2 ∧ e ρ2 κ' = some (.ok (.obj κ'.length), κ' ++ [rowC n T i])) :
    ∀ (q i : Nat), i + q = n → cLoop g bYes e ρw ((List.range q).map fun k => .int ((i + k : Nat) : Int)) ((List.range i).map fun k => .obj (κ.length + k)) (κ ++ rowsK n i T) = some (.ok ((List.range n).map fun k => .obj (κ.length + k)), κ ++ rowsK n n T)
  | 0, i, hq => by
    have : i = n := by omega
    subst this
    simp [cLoop]
  | q + 1, i, hq => by
    obtain ⟨ρ2, e1, e2⟩ := h i (by omega) (κ ++ rowsK n i T)
    rw [List.range_succ_eq_map, List.map_cons, List.map_map]
    simp only [cLoop, Nat.add_zero, e1, bYes, Re.bindN, if_true, e2]
    rw [if_neg (by simp; omega)]
    have := cLoop_rows n T κ hn h q (i + 1) (by omega)
    rw [rowsK_succ, List.range_succ, List.map_append, ← List.append_assoc] at this
    simp only [List.length_append, rowsK_len, List.map_cons, List.map_nil] at this ⊢
    rw [← this]
    congr 1
    apply List.map_congr_left
    intro k _
    simp only [Function.comp]
    congr 2
    omega
theorem fl_make {z1 z2 z5 z6 : Sl} (hn : n ≤ 1000000) : eComp [3] (iRange1 (aCons (eVar 0) aNil)) (gNm 3) bYes (eSt (eComp [4] (iRange1 (aCons (eVar 0) aNil)) (gNm 4) bYes (eIf (bCmp cEq (eVar 3) (eVar 4)) (eC (.int 0)) (eC .non)))) [.val (.int (n : Nat)), z1, z2, .no, .no, z5, z6] κ = some (.ok ((List.range n).map fun k => .obj (κ.length + k)), κ ++ rowsK n n (fl0 n)) := by
  unfold eComp
  rw [range1_ok (j := (n : Int)) (by omega) (by simp)]
  simp only [Re.bind]
  have hr : rangeD 0 (n : Int) = (List.range n).map fun k => .int ((0 + k : Nat) : Int) := by
    unfold rangeD
    rw [show ((n : Int) - 0).toNat = n by omega]
    apply List.map_congr_left
    intro k _
    simp
  rw [hr]
  have := cLoop_rows (g := gNm 3) (e := eSt (eComp [4] (iRange1 (aCons (eVar 0) aNil)) (gNm 4) bYes (eIf (bCmp cEq (eVar 3) (eVar 4)) (eC (.int 0)) (eC .non)))) (ρw := wipeR [.val (.int (n : Nat)), z1, z2, .no, .no, z5, z6] [3]) n (fl0 n) κ hn (fun i hi κ' => by
    refine ⟨_, rfl, ?_⟩
    rw [eSt_def, eComp_map (κ1 := κ') (ds := rangeD 0 n) (fun d => match d with | .int v => (if (i : Int) = v then .int 0 else .non) | d => d) (range1_ok (by omega) (by simp)) (by rw [range_len]; omega) ?_]
    · have e2 : (rangeD 0 n).map (fun d => match d with | .int v => (if (i : Int) = v then D.int 0 else .non) | d => d) = tabN n fun j => optI (fl0 n i j) := by
        unfold rangeD tabN
        rw [List.map_map, show ((n : Int) - 0).toNat = n by omega]
        apply List.map_congr_left
        intro k _
        simp only [Function.comp, Int.zero_add, fl0]
        by_cases e : i = k
        · subst e; simp [hi, optI]
        · have e' : ¬ (i : Int) = (k : Int) := by omega
          simp [e, e', optI]
      rw [e2]; rfl
    · intro d hd
      unfold rangeD at hd
      obtain ⟨k, _, rfl⟩ := List.mem_map.mp hd
      refine ⟨_, rfl, ?_, ?_⟩
      · simp only; split <;> rfl
      · by_cases e : (i : Int) = (k : Int)
        · simp [e]
        · simp [e]) n 0 (by omega)
  rw [show κ ++ rowsK n 0 (fl0 n) = κ by simp [rowsK]] at this
  exact this
theorem floyd_ok {R : List Ru} (hR : ∀ r ∈ R, r.i < n ∧ r.j < n) (hn : n ≤ 1000000) (κ : Ka) : f__law_floyd [.int (n : Nat), .tup (R.map ruD)] κ = some (.ok (tabD κ.length n), κ ++ rowsK n n (floyd n R)) := by
  refine eq_of_wp ?_
  unfold f__law_floyd
  refine mean_wp ?_
  show wpS (m__law_floyd [.val (.int (n : Nat)), .val (.tup (R.map ruD)), .no, .no, .no, .no, .no] κ) _ _ _ _
  unfold m__law_floyd
  rw [wpS_seq]
  refine wpS_atom (ρ' := [.val (.int (n : Nat)), .val (.tup (R.map ruD)), .val (tabD κ.length n), .no, .no, .no, .no]) (k := κ ++ rowsK n n (fl0 n)) (by rw [sAsg_def, eFr_def, fl_make hn]; rfl) ?_
  rw [wpS_seq]
  refine fl_edges hR fun z3 z4 z5 => ?_
  rw [wpS_seq]
  refine fl_loops hn fun z3 z4 z6 => ?_
  exact wpS_atomR (d := tabD κ.length n) (k := κ ++ rowsK n n (floyd n R)) (by simp [tabD]; rfl) ⟨rfl, rfl⟩
end
end SH
set_option Elab.async false
set_option linter.all false
set_option maxRecDepth 100000
set_option maxHeartbeats 4000000
namespace SH
open PySem L2 DL BF
section
variable {n : Nat} {κ : Ka} {R : List Ru}
theorem has_ring_ok (hn : n ≤ 1000000) : ∃ v, f__law_has_ring [tabD κ.length n] (κ ++ rowsK n n (floyd n R)) = some (.ok (.bl v), κ ++ rowsK n n (floyd n R)) ∧ (v = true ↔ ∃ k, k < n ∧ ∃ x, floyd n R k k = some x ∧ x < 0) := by
  let f : D → Option D := fun d => match d with
    | .int i => if (floyd n R i.toNat i.toNat).getD 0 < 0 then some (.int 1) else none
    | _ => none
  have e := eComp_eq (vs := [1]) (n := iRange1 (aCons (eBi bLen (aCons (eVar 0) aNil)) aNil)) (g := gNm 1) (t := bCmp cLt (eIdx (eIdx (eVar 0) (eVar 1)) (eVar 1)) (eC (.int 0))) (e := eC (.int 1)) (ρ := [.val (tabD κ.length n), .no]) (κ := κ ++ rowsK n n (floyd n R)) (κ1 := κ ++ rowsK n n (floyd n R)) (ds := rangeD 0 n) f (range1_ok (by omega) (by simp [tabD])) (by rw [range_len]; omega) (fun d hd => by
    unfold rangeD at hd
    obtain ⟨k, hk, rfl⟩ := List.mem_map.mp hd
    have hk' : k < n := by have := List.mem_range.mp hk; omega
    have ek : (0 : Int) + (k : Int) = (k : Nat) := by omega
    obtain ⟨x, hx, _⟩ := floyd_diag (R := R) hk'
    have c1 := cell_read (κ := κ) (T := floyd n R) (m := n) hk' hk'
    have t1 : ∀ κ' : Ka, oIdx κ' (tabD κ.length n) (.int (k : Nat)) = some (.obj (κ.length + k)) := fun κ' => tab_row hk'
    rw [hx, optI_s] at c1
    rw [ek]
    refine ⟨_, rfl, ?_⟩
    generalize tabD κ.length n = FT at *
    by_cases hl : x < 0
    · exact .inr ⟨.int 1, by simp [f, hx, hl], rfl, by simp [t1, c1, hl], rfl⟩
    · exact .inl ⟨by simp [f, hx, hl], by simp [t1, c1, hl]⟩)
  refine ⟨decide (0 < ((rangeD 0 n).filterMap f).length), ?_, ?_⟩
  · unfold f__law_has_ring mean
    show noEr (match m__law_has_ring [.val (tabD κ.length n), .no] (κ ++ rowsK n n (floyd n R)) with | some (.nx _, κ') => some (.ok .non, κ') | some (.rt d, κ') => some (.ok d, κ') | some (.er c, κ') => some (.er c, κ') | _ => none) = _
    unfold m__law_has_ring
    rw [sRet_def, eCmp_def, eBi_def, aCons_def, eFr_def, e]
    generalize (rangeD 0 n).filterMap f = L
    simp
  · rw [decide_eq_true_eq, List.length_pos_iff_exists_mem]
    constructor
    · rintro ⟨d, hd⟩
      obtain ⟨d', h1, h2⟩ := List.mem_filterMap.mp hd
      unfold rangeD at h1
      obtain ⟨k, hk, rfl⟩ := List.mem_map.mp h1
      have hk' : k < n := by have := List.mem_range.mp hk; omega
      have ek : (0 : Int) + (k : Int) = (k : Nat) := by omega
      obtain ⟨x, hx, _⟩ := floyd_diag (R := R) hk'
      refine ⟨k, hk', x, hx, ?_⟩
      rw [ek] at h2
      simp only [f, Int.toNat_natCast, hx, Option.getD_some] at h2
      split at h2
      · assumption
      · cases h2
    · rintro ⟨k, hk, x, hx, hl⟩
      refine ⟨.int 1, List.mem_filterMap.mpr ⟨.int (0 + (k : Int)), ?_, ?_⟩⟩
      · unfold rangeD
        exact List.mem_map.mpr ⟨k, List.mem_range.mpr (by omega), rfl⟩
      · have ek : (0 : Int) + (k : Int) = (k : Nat) := by omega
        rw [ek]
        simp [f, hx, hl]
end
end SH
set_option Elab.async false
set_option linter.all false
set_option maxRecDepth 100000
namespace SH
open PySem L2 DL BF
section
variable {n : Nat} {R : List Ru}
/-- a ring below 0 -/
def Bad (n : Nat) (R : List Ru) : Prop := ∃ a x, a < n ∧ Wk R a a x ∧ x < 0
theorem bad_iff (hR : ∀ r ∈ R, r.i < n ∧ r.j < n) (hne : ∀ r ∈ R, r.i ≠ r.j) : (∃ k, k < n ∧ ∃ x, floyd n R k k = some x ∧ x < 0) ↔ Bad n R := by
  constructor
  · rintro ⟨k, hk, x, hx, hl⟩
    exact ⟨k, x, hk, floyd_snd _ _ _ hx, hl⟩
  · rintro ⟨a, x, ha, w, hl⟩
    by_cases h : ∃ k, k < n ∧ ∃ x, floyd n R k k = some x ∧ x < 0
    · exact h
    · obtain ⟨c, h1, h2⟩ := floyd_best hR hne (fun k hk x hx => by
        have : ¬ x < 0 := fun q => h ⟨k, hk, x, hx, q⟩
        omega) ha w
      exact ⟨a, ha, c, h1, by omega⟩
/-- a chain of rules is a walk -/
theorem chain_wk : ∀ (rs : List Ru), (∀ r ∈ rs, r ∈ R) → (∀ (p : Nat) r r', rs[p]? = some r → rs[p + 1]? = some r' → r.j = r'.i) → ∀ r0 rl, rs[0]? = some r0 → rs.getLast? = some rl → Wk R r0.i rl.j (rs.map Ru.w).sum
  | [], _, _, r0, rl, h0, _ => by simp at h0
  | [r], hm, _, r0, rl, h0, hl => by
    simp at h0 hl
    subst h0 hl
    have := Wk.one (hm r (by simp))
    simpa using this
  | r :: q :: rs, hm, hc, r0, rl, h0, hl => by
    simp at h0
    subst h0
    have h1 := chain_wk (q :: rs) (fun x hx => hm x (by simp [hx])) (fun p x y hx hy => hc (p + 1) x y (by simpa using hx) (by simpa using hy)) q rl rfl (by simpa using hl)
    have h2 := hc 0 r q rfl rfl
    have w := Wk.one (hm r (by simp))
    rw [h2] at w
    simpa using w.app h1
theorem ring_bad (hR : ∀ r ∈ R, r.i < n ∧ r.j < n) {ks : List Int} (h : IsRing R ks) : Bad n R := by
  obtain ⟨rs, hl, h0, hg, hc, hs⟩ := h.ex
  have hm : ∀ r ∈ rs, r ∈ R := fun r hr => by
    obtain ⟨p, hp⟩ := List.mem_iff_getElem?.mp hr
    obtain ⟨k, _, h2⟩ := hg p r hp
    exact List.mem_of_getElem? h2
  have hlen : 0 < rs.length := by omega
  have e0 : rs[0]? = some rs[0] := List.getElem?_eq_getElem hlen
  have el : rs[rs.length - 1]? = some (rs[rs.length - 1]'(by omega)) := List.getElem?_eq_getElem (by omega)
  have w := chain_wk rs hm (fun p r r' hp hp' => hc p r r' hp (by
    have : p + 1 < rs.length := (List.getElem?_eq_some_iff.mp hp').1
    rw [Nat.mod_eq_of_lt this]; exact hp')) _ _ e0 (by rw [List.getLast?_eq_getElem?]; exact el)
  have hj := hc (rs.length - 1) _ _ el (by rw [show rs.length - 1 + 1 = rs.length by omega, Nat.mod_self]; exact e0)
  rw [hj] at w
  exact ⟨_, _, (hR _ (hm _ (List.getElem_mem hlen))).1, w, hs⟩
end
end SH
set_option Elab.async false
set_option linter.all false
set_option maxRecDepth 100000
set_option maxHeartbeats 4000000
/-! SHp: helps for plain laws: what is told, comprehensions over typed lists, drawing with a store behind. -/
namespace SH
open PySem L2 DL BF
/-- a Boolean is told, true just if P -/
def Tells (r : Re D) (κ : Ka) (P : Prop) : Prop := ∃ b, r = some (.ok (.bl b), κ) ∧ (b = true ↔ P)
/-- a value is told, and the store grows at its end -/
def Gives (r : Re D) (κ : Ka) (d : D) : Prop := ∃ t, r = some (.ok d, κ ++ t)
section
variable {α : Type} {κ κ1 : Ka} {ρ : List Sl} {vs : List Nat} {n : Ev (List D)} {g : Tg} {t : Ev Bool} {e : Ev D}
theorem cLoop_ty (enc : α → D) (f : α → Option D) {ρw : List Sl} : ∀ (L : List α) (acc : List D), acc.length + L.length ≤ 16777216 →
    (∀ a ∈ L, ∃ ρ2, g (enc a) ρw = some ρ2 ∧ ((f a = none ∧ t ρ2 κ = some (.ok false, κ)) ∨ ∃ y, f a = some y ∧ isBor y = false ∧ t ρ2 κ = some (.ok true, κ) ∧ e ρ2 κ = some (.ok y, κ))) →
    cLoop g t e ρw (L.map enc) acc κ = some (.ok (acc ++ L.filterMap f), κ)
  | [], acc, _, _ => by simp [cLoop]
  | d :: ds, acc, hl, h => by
    obtain ⟨ρ2, e1, h1⟩ := h d (by simp)
    have hl' : acc.length + ds.length + 1 ≤ 16777216 := by simpa [Nat.add_assoc] using hl
    rcases h1 with ⟨e2, e3⟩ | ⟨y, e2, e3, e4, e5⟩
    · simp only [List.map_cons, cLoop, e1, e3, Re.bindN, if_neg Bool.false_ne_true, List.filterMap_cons, e2]
      exact cLoop_ty enc f ds acc (by omega) fun d hd => h d (by simp [hd])
    · simp only [List.map_cons, cLoop, e1, e4, e5, Re.bindN, if_true, List.filterMap_cons, e2, e3]
      rw [if_neg (by simp; omega)]
      rw [cLoop_ty enc f ds (acc ++ [y]) (by simp; omega) fun d hd => h d (by simp [hd])]
      simp
theorem eComp_ty (enc : α → D) (L : List α) (f : α → Option D) (hn : n ρ κ = some (.ok (L.map enc), κ1)) (hl : L.length ≤ 16777216)
    (h : ∀ a ∈ L, ∃ ρ2, g (enc a) (wipeR ρ vs) = some ρ2 ∧ ((f a = none ∧ t ρ2 κ1 = some (.ok false, κ1)) ∨ ∃ y, f a = some y ∧ isBor y = false ∧ t ρ2 κ1 = some (.ok true, κ1) ∧ e ρ2 κ1 = some (.ok y, κ1))) :
    eComp vs n g t e ρ κ = some (.ok (L.filterMap f), κ1) := by
  unfold eComp
  rw [hn]
  show cLoop g t e (wipeR ρ vs) (L.map enc) [] κ1 = _
  rw [cLoop_ty enc f L [] (by simpa using hl) h]
  simp
theorem eComp_tyM (enc : α → D) (L : List α) (f : α → D) (hn : n ρ κ = some (.ok (L.map enc), κ1)) (hl : L.length ≤ 16777216)
    (h : ∀ a ∈ L, ∃ ρ2, g (enc a) (wipeR ρ vs) = some ρ2 ∧ isBor (f a) = false ∧ e ρ2 κ1 = some (.ok (f a), κ1)) :
    eComp vs n g bYes e ρ κ = some (.ok (L.map f), κ1) := by
  rw [eComp_ty enc L (fun a => some (f a)) hn hl fun a ha => let ⟨ρ2, a, b, c⟩ := h a ha; ⟨ρ2, a, .inr ⟨f _, rfl, b, rfl, c⟩⟩]
  simp
theorem comp_cnt (enc : α → D) (L : List α) (p : α → Bool) (hn : n ρ κ = some (.ok (L.map enc), κ1)) (hl : L.length ≤ 16777216)
    (h : ∀ a ∈ L, ∃ ρ2, g (enc a) (wipeR ρ vs) = some ρ2 ∧ t ρ2 κ1 = some (.ok (p a), κ1)) :
    ∃ ds, eComp vs n g t (eC (.int 1)) ρ κ = some (.ok ds, κ1) ∧ (0 < ds.length ↔ L.any p = true) := by
  refine ⟨_, eComp_ty enc L (fun a => if p a = true then some (.int 1) else none) hn hl fun a ha => ?_, ?_⟩
  · obtain ⟨ρ2, h1, h2⟩ := h a ha
    refine ⟨ρ2, h1, ?_⟩
    cases hp : p a
    · exact .inl ⟨by simp, by rw [h2, hp]⟩
    · exact .inr ⟨.int 1, by simp, rfl, by rw [h2, hp], rfl⟩
  · rw [List.length_pos_iff_exists_mem, List.any_eq_true]
    constructor
    · rintro ⟨d, hd⟩
      obtain ⟨a, ha, h2⟩ := List.mem_filterMap.mp hd
      refine ⟨a, ha, ?_⟩
      by_cases q : p a = true
      · exact q
      · rw [if_neg q] at h2; cases h2
    · rintro ⟨a, ha, h2⟩
      exact ⟨.int 1, List.mem_filterMap.mpr ⟨a, ha, by rw [if_pos h2]⟩⟩
/-- len([1 for .. if ..]) > 0 -/
theorem cnt_gt (enc : α → D) (L : List α) (p : α → Bool) (hn : n ρ κ = some (.ok (L.map enc), κ1)) (hl : L.length ≤ 16777216)
    (h : ∀ a ∈ L, ∃ ρ2, g (enc a) (wipeR ρ vs) = some ρ2 ∧ t ρ2 κ1 = some (.ok (p a), κ1)) :
    bCmp cGt (eBi bLen (aCons (eFr (eComp vs n g t (eC (.int 1)))) aNil)) (eC (.int 0)) ρ κ = some (.ok (L.any p), κ1) := by
  obtain ⟨ds, e1, e2⟩ := comp_cnt enc L p hn hl h
  rw [bCmp_def, eBi_def, aCons_def, eFr_def, e1]
  simp only [bind_ok, ret_def, aNil_def, bLen_lst, rOf_some, eC_def, cGt_int, rOfB_some]
  congr 3
  rw [Bool.eq_iff_iff, ← e2, decide_eq_true_eq]
  omega
/-- len([1 for .. if ..]) == 0 -/
theorem cnt_eq (enc : α → D) (L : List α) (p : α → Bool) (hn : n ρ κ = some (.ok (L.map enc), κ1)) (hl : L.length ≤ 16777216)
    (h : ∀ a ∈ L, ∃ ρ2, g (enc a) (wipeR ρ vs) = some ρ2 ∧ t ρ2 κ1 = some (.ok (p a), κ1)) :
    eCmp cEq (eBi bLen (aCons (eFr (eComp vs n g t (eC (.int 1)))) aNil)) (eC (.int 0)) ρ κ = some (.ok (.bl (!L.any p)), κ1) := by
  obtain ⟨ds, e1, e2⟩ := comp_cnt enc L p hn hl h
  rw [eCmp_def, eBi_def, aCons_def, eFr_def, e1]
  simp only [bind_ok, ret_def, aNil_def, bLen_lst, rOf_some, eC_def, cEq_int, Option.map_some]
  congr 4
  rw [Bool.eq_iff_iff, Bool.not_eq_true', beq_iff_eq, Bool.eq_false_iff, ne_eq, ← e2]
  omega
/-- a comprehension that changes the store -/
theorem wpE_cLoop {ρw : List Sl} (I : Nat → List D → Ka → Prop) {Q : List D → Ka → Prop} : ∀ (ds : List D) (k : Nat) (acc : List D) (κ : Ka), acc.length + ds.length ≤ 16777216 → I k acc κ →
    (∀ i d acc κ, ds[i]? = some d → I (k + i) acc κ → ∃ ρ2, g d ρw = some ρ2 ∧ wpE (t ρ2 κ) fun b κ' => if b = true then wpE (e ρ2 κ') fun y κ'' => isBor y = false ∧ I (k + i + 1) (acc ++ [y]) κ'' else I (k + i + 1) acc κ') →
    (∀ acc κ, I (k + ds.length) acc κ → Q acc κ) → wpE (cLoop g t e ρw ds acc κ) Q
  | [], k, acc, κ, _, h0, _, hd => ⟨hd acc κ h0⟩
  | d :: ds, k, acc, κ, hl, h0, hs, hd => by
    obtain ⟨ρ2, e1, h⟩ := hs 0 d acc κ rfl h0
    have hl' : acc.length + ds.length + 1 ≤ 16777216 := by simpa [Nat.add_assoc] using hl
    have next : ∀ acc' κ, acc'.length + ds.length ≤ 16777216 → I (k + 0 + 1) acc' κ → wpE (cLoop g t e ρw ds acc' κ) Q := fun acc' κ hl h1 =>
      wpE_cLoop I ds (k + 1) acc' κ hl h1 (fun i d acc κ e h => by
        have := hs (i + 1) d acc κ (by simpa using e) (by rw [show k + (i + 1) = k + 1 + i by omega]; exact h)
        rw [show k + (i + 1) = k + 1 + i by omega] at this
        exact this) (fun acc κ h => hd acc κ (by rw [List.length_cons, show k + (ds.length + 1) = k + 1 + ds.length by omega]; exact h))
    simp only [cLoop, e1]
    rw [wpE_bindN]
    refine wpE_mono h fun b κ1 hb => ?_
    by_cases hb' : b = true
    · rw [if_pos hb'] at hb ⊢
      rw [wpE_bindN]
      refine wpE_mono hb fun y κ2 hy => ?_
      rw [if_neg (by simp [hy.1]; omega)]
      exact next _ _ (by simp; omega) hy.2
    · rw [if_neg hb'] at hb ⊢
      exact next _ _ (by omega) hb
theorem wpE_compE (ds : List D) (I : Nat → List D → Ka → Prop) {Q : List D → Ka → Prop} (hn : n ρ κ = some (.ok ds, κ1)) (hl : ds.length ≤ 16777216) (h0 : I 0 [] κ1)
    (hs : ∀ i d acc κ, ds[i]? = some d → I i acc κ → ∃ ρ2, g d (wipeR ρ vs) = some ρ2 ∧ wpE (t ρ2 κ) fun b κ' => if b = true then wpE (e ρ2 κ') fun y κ'' => isBor y = false ∧ I (i + 1) (acc ++ [y]) κ'' else I (i + 1) acc κ')
    (hd : ∀ acc κ, I ds.length acc κ → Q acc κ) : wpE (eComp vs n g t e ρ κ) Q := by
  unfold eComp
  rw [hn]
  show wpE (cLoop g t e (wipeR ρ vs) ds [] κ1) Q
  exact wpE_cLoop I ds 0 [] κ1 (by simpa using hl) h0 (fun i d acc κ e h => by rw [Nat.zero_add] at h ⊢; exact hs i d acc κ e h) (fun acc κ h => hd acc κ (by rw [Nat.zero_add] at h; exact h))
end
/-! ### drawing, with more behind in the store -/
/-- the store: the drawing's place, and what else -/
def atK (i : Int) (tl : Ka) : Ka := .lst [.int i] :: tl
@[simp] theorem oIdx_atK {i : Int} {tl : Ka} : oIdx (atK i tl) (.obj 0) (.int 0) = some (.int i) := by unfold atK; rw [oIdx_obj]; simp
theorem atK_app {i : Int} {tl t : Ka} : atK i tl ++ t = atK i (tl ++ t) := rfl
theorem at_atK {i : Int} : at_ i = atK i [] := rfl
theorem atK_get {i : Int} {tl : Ka} : (atK i tl)[0]? = some (.lst [.int i]) := rfl
theorem atK_set {i j : Int} {tl : Ka} : (atK i tl).set 0 (.lst [.int j]) = atK j tl := rfl
theorem take_okK (r : List Int) (t at' many : Int) (tl : Ka) (h0 : 0 ≤ at') (hm : 0 < many) : ∃ v, f__law_take [dealD r t, .int many] (atK at' tl) = some (.ok (.int v), atK (at' + 1) tl) ∧ 0 ≤ v ∧ v < many := by
  suffices h : wpE (f__law_take [dealD r t, .int many] (atK at' tl)) fun d κ => ∃ v, d = .int v ∧ κ = atK (at' + 1) tl ∧ 0 ≤ v ∧ v < many by
    obtain ⟨d, κ, e, v, rfl, rfl, h1, h2⟩ := wpE_eq.mp h
    exact ⟨v, e, h1, h2⟩
  unfold f__law_take
  refine mean_wp ?_
  have hs : slots 5 [dealD r t, .int many] = [.val (dealD r t), .val (.int many), .no, .no, .no] := rfl
  rw [hs]
  unfold m__law_take dealD
  simp only [wpS_seq]
  refine wpS_atom (ρ' := [.val (dealD r t), .val (.int many), .val (.int at'), .no, .no]) (k := atK at' tl) (by simp [dealD]) ?_
  refine wpS_atom (ρ' := [.val (dealD r t), .val (.int many), .val (.int at'), .no, .no]) (k := atK (at' + 1) tl) (by simp [dealD, ixN, atK_get, atK_set]) ?_
  rw [wpS_if]
  refine wpE_atom (a := decide (at' < r.length)) (k := atK (at' + 1) tl) (by simp [dealD]) ?_
  have hmod : many ≠ 0 := by omega
  by_cases hlt : at' < r.length
  · rw [if_pos (decide_eq_true hlt)]
    have e1 : atI (r.map D.int) at' = some (.int (r[at'.toNat]'(by omega))) := by
      rw [atI_get? h0 (by simpa using hlt), List.getElem?_map, List.getElem?_eq_getElem (by omega)]; rfl
    refine wpS_atomR (d := .int ((r[at'.toNat]'(by omega)).fmod many)) (k := atK (at' + 1) tl) (by simp [dealD, e1, oMod_int hmod]) ?_
    exact ⟨_, rfl, rfl, (fmod_bd _ hm).1, (fmod_bd _ hm).2⟩
  · rw [if_neg (by simp [hlt])]
    rw [wpS_next]
    refine wpS_atom (ρ' := [.val (dealD r t), .val (.int many), .val (.int at'), .val (.int ((at' * 7919 + t * 31 + 17).fmod 2147483629)), .no]) (k := atK (at' + 1) tl) ?_ ?_
    · simp [dealD, oMul_int (mulOk_r (i := at') (j := 7919) (by omega) (by omega)), oMul_int (mulOk_r (i := t) (j := 31) (by omega) (by omega)), oMod_int]
    · refine wpS_forE (κ1 := atK (at' + 1) tl) (rangeD 0 3) (by simp [bRange1, okR, rOfL]) (fun _ ρ κ => κ = atK (at' + 1) tl ∧ ∃ c s, ρ = [.val (dealD r t), .val (.int many), .val (.int at'), .val (.int c), s] ∧ 0 ≤ c ∧ c < 2147483647) ⟨rfl, _, _, rfl, (fmod_bd _ (by omega)).1, by have := (fmod_bd (at' * 7919 + t * 31 + 17) (b := 2147483629) (by omega)).2; omega⟩ ?_ ?_
      · rintro i d ρ κ hd ⟨rfl, c, s, rfl, c0, c1⟩
        have hb : ∃ j, d = .int j := by
          unfold rangeD at hd
          rw [List.getElem?_map] at hd
          obtain ⟨j, _, rfl⟩ := Option.map_eq_some_iff.mp hd
          exact ⟨_, rfl⟩
        obtain ⟨j, rfl⟩ := hb
        refine ⟨_, rfl, ?_⟩
        refine wpS_atom (ρ' := [.val (dealD r t), .val (.int many), .val (.int at'), .val (.int ((c * c + 48271 * at' + 12345).fmod 2147483647)), .val (.int j)]) (k := atK (at' + 1) tl) ?_ ⟨rfl, _, _, rfl, (fmod_bd _ (by omega)).1, (fmod_bd _ (by omega)).2⟩
        simp [oMul_int (mulOk_r (i := c) (j := c) (by omega) (by omega)), oMul_int (mulOk_l (i := 48271) (j := at') (by omega) (by omega)), oMod_int]
      · rintro ρ κ ⟨rfl, c, s, rfl, c0, c1⟩
        refine wpS_atomR (d := .int ((c.fdiv 7).fmod many)) (k := atK (at' + 1) tl) (by simp [oFdiv_int, oMod_int hmod]) ?_
        exact ⟨_, rfl, rfl, (fmod_bd _ hm).1, (fmod_bd _ hm).2⟩
/-! ### seen webs, stamps -/
structure Lk where
  b : Nat
  e : Nat
  lo : Int
  hi : Int
def lkD (l : Lk) : D := .tup [.int l.b, .int l.e, .int l.lo, .int l.hi]
def sweb (n : Nat) (R : List Ru) (L : List Lk) : D := webD n R [.tup (L.map lkD)]
/-- a seen web as the laws draw it -/
structure WebOk (n : Nat) (R : List Ru) (L : List Lk) : Prop where
  n2 : 2 ≤ n
  n6 : n ≤ 1000
  lk : ∀ l ∈ L, l.b < l.e ∧ l.e < n ∧ 1 ≤ l.lo ∧ l.lo ≤ l.hi
  nd : (L.map Lk.e).Nodup
  ll : L.length ≤ 1000
  rl : R.length ≤ 1000
  ru : ∀ r ∈ R, r.i < n ∧ r.j < n ∧ r.i ≠ r.j
section
variable {κ : Ka} {n : Nat} {R : List Ru} {L : List Lk}
theorem sw_0 : oIdx κ (sweb n R L) (.int 0) = some (.int n) := web_0
theorem sw_1 : oIdx κ (sweb n R L) (.int 1) = some (.tup (R.map ruD)) := web_1
theorem sw_2 : oIdx κ (sweb n R L) (.int 2) = some (.tup (L.map lkD)) := by unfold sweb webD; rw [oIdx_tup, atI_2]
theorem sw_nb : isBor (sweb n R L) = false := rfl
theorem lk_0 {l : Lk} : oIdx κ (lkD l) (.int 0) = some (.int l.b) := by unfold lkD; rw [oIdx_tup, atI_0]
theorem lk_1 {l : Lk} : oIdx κ (lkD l) (.int 1) = some (.int l.e) := by unfold lkD; rw [oIdx_tup, atI_1]
theorem lk_2 {l : Lk} : oIdx κ (lkD l) (.int 2) = some (.int l.lo) := by unfold lkD; rw [oIdx_tup, atI_2]
theorem lk_3 {l : Lk} : oIdx κ (lkD l) (.int 3) = some (.int l.hi) := by unfold lkD; rw [oIdx_tup, atI_3]
theorem lk_nb {l : Lk} : isBor (lkD l) = false := rfl
theorem ru_0 {r : Ru} : oIdx κ (ruD r) (.int 0) = some (.int r.i) := by unfold ruD; rw [oIdx_tup, atI_0]
theorem ru_1 {r : Ru} : oIdx κ (ruD r) (.int 1) = some (.int r.j) := by unfold ruD; rw [oIdx_tup, atI_1]
theorem ru_2 {r : Ru} : oIdx κ (ruD r) (.int 2) = some (.int r.w) := by unfold ruD; rw [oIdx_tup, atI_2]
theorem ru_nb {r : Ru} : isBor (ruD r) = false := rfl
theorem optI_nb {o : Option Int} : isBor (optI o) = false := by cases o <;> rfl
/-- a tuple of typed things at a place -/
theorem tup_at {α : Type} {enc : α → D} {l : List α} {k : Nat} {a : α} (h : l[k]? = some a) : oIdx κ (.tup (l.map enc)) (.int (k : Nat)) = some (enc a) := by
  obtain ⟨h1, h2⟩ := List.getElem?_eq_some_iff.mp h
  rw [oIdx_tup, DL.atI_nat (by simpa using h1), List.getElem_map, h2]
theorem lst_at {α : Type} {enc : α → D} {l : List α} {k : Nat} {a : α} (h : l[k]? = some a) : oIdx κ (.lst (l.map enc)) (.int (k : Nat)) = some (enc a) := by
  obtain ⟨h1, h2⟩ := List.getElem?_eq_some_iff.mp h
  rw [oIdx_lst, DL.atI_nat (by simpa using h1), List.getElem_map, h2]
end
end SH
set_option Elab.async false
set_option linter.all false
set_option maxRecDepth 100000
/-! K82a: floors and ceilings. -/
namespace K82
def fl (u q : Int) : Int := u.fdiv q
def ce (u q : Int) : Int := (u + q - 1).fdiv q
section
variable {u v k q n p : Int}
theorem fl_le (h : 0 < q) : fl u q * q ≤ u := by
  unfold fl; rw [Int.fdiv_eq_ediv_of_nonneg _ (by omega)]; exact Int.ediv_mul_le _ (by omega)
theorem lt_fl (h : 0 < q) : u < fl u q * q + q := by
  unfold fl; rw [Int.fdiv_eq_ediv_of_nonneg _ (by omega)]
  have := Int.lt_ediv_add_one_mul_self u h
  rw [Int.add_mul] at this; omega
theorem le_fl_iff (h : 0 < q) : k ≤ fl u q ↔ k * q ≤ u := by
  unfold fl; rw [Int.fdiv_eq_ediv_of_nonneg _ (by omega)]; exact Int.le_ediv_iff_mul_le h
theorem fl_lt_iff (h : 0 < q) : fl u q < k ↔ u < k * q := by
  unfold fl; rw [Int.fdiv_eq_ediv_of_nonneg _ (by omega)]; exact Int.ediv_lt_iff_lt_mul h
theorem ce_le_iff (h : 0 < q) : ce u q ≤ k ↔ u ≤ k * q := by
  have : ce u q ≤ k ↔ fl (u + q - 1) q < k + 1 := by unfold ce fl; omega
  rw [this, fl_lt_iff h, Int.add_mul]; omega
theorem lt_ce_iff (h : 0 < q) : k < ce u q ↔ k * q < u := by
  have := ce_le_iff (u := u) (k := k) h; omega
theorem le_ce (h : 0 < q) : u ≤ ce u q * q := (ce_le_iff h).mp (Int.le_refl _)
theorem ce_lt (h : 0 < q) : ce u q * q < u + q := by
  have := (lt_ce_iff (u := u) (k := ce u q - 1) h).mp (by omega)
  rw [Int.sub_mul] at this; omega
theorem fl_add (h : 0 < q) : fl u q + fl v q ≤ fl (u + v) q := by
  rw [le_fl_iff h, Int.add_mul]
  have := fl_le (u := u) h; have := fl_le (u := v) h; omega
theorem ce_add (h : 0 < q) : ce (u + v) q ≤ ce u q + ce v q := by
  rw [ce_le_iff h, Int.add_mul]
  have := le_ce (u := u) h; have := le_ce (u := v) h; omega
theorem ce_fl (h : 0 < q) : ce u q + fl v q ≤ ce (u + v) q := by
  have : ce u q + fl v q - 1 < ce (u + v) q := by
    rw [lt_ce_iff h, Int.sub_mul, Int.add_mul]
    have := ce_lt (u := u) h; have := fl_le (u := v) h; omega
  omega
theorem fl_ce (h : 0 < q) : fl (u + v) q ≤ fl u q + ce v q := by
  have : fl (u + v) q < fl u q + ce v q + 1 := by
    rw [fl_lt_iff h, Int.add_mul, Int.add_mul]
    have := lt_fl (u := u) h; have := le_ce (u := v) h; omega
  omega
theorem neg_fl (h : 0 < q) : -fl (-u) q = ce u q := by
  have h1 : ce u q ≤ -fl (-u) q := by
    rw [ce_le_iff h, Int.neg_mul]; have := fl_le (u := -u) h; omega
  have h2 : -fl (-u) q ≤ ce u q := by
    have : -fl (-u) q - 1 < ce u q := by
      rw [lt_ce_iff h, Int.sub_mul, Int.neg_mul]; have := lt_fl (u := -u) h; omega
    omega
  omega
theorem fl_mul (h : 0 < q) : fl (u + k * q) q = fl u q + k := by
  have h1 : fl u q + k ≤ fl (u + k * q) q := by rw [le_fl_iff h, Int.add_mul]; have := fl_le (u := u) h; omega
  have h2 : fl (u + k * q) q < fl u q + k + 1 := by rw [fl_lt_iff h, Int.add_mul, Int.add_mul]; have := lt_fl (u := u) h; omega
  omega
theorem ce_mul (h : 0 < q) : ce (u + k * q) q = ce u q + k := by
  have := fl_mul (u := u + q - 1) (k := k) h
  unfold fl at this; unfold ce
  rw [← this]; congr 1; omega
theorem fl_mod (h : 0 < q) : u.fmod q = u - fl u q * q := by
  unfold fl; rw [Int.fmod_def, Int.mul_comm]
theorem fl_small (h0 : 0 ≤ u) (h1 : u < q) : fl u q = 0 := by
  have a := (le_fl_iff (u := u) (k := 0) (q := q) (by omega)).mpr (by omega)
  have b := (fl_lt_iff (u := u) (k := 1) (q := q) (by omega)).mpr (by omega)
  omega
theorem ce_small (h0 : u ≤ 0) (h1 : -q < u) : ce u q = 0 := by
  have a := (ce_le_iff (u := u) (k := 0) (q := q) (by omega)).mpr (by omega)
  have b := (lt_ce_iff (u := u) (k := -1) (q := q) (by omega)).mpr (by omega)
  omega
/-- a part of at most one -/
theorem fl_part (hn : 0 ≤ n) (h : p ≤ q) (h0 : 0 < q) : fl (n * p) q ≤ n := by
  have : fl (n * p) q < n + 1 := by
    rw [fl_lt_iff h0, Int.add_mul]; have := Int.mul_le_mul_of_nonneg_left h hn; omega
  omega
theorem ce_part (hn : 0 ≤ n) (h : p ≤ q) (h0 : 0 < q) : ce (n * p) q ≤ n := by
  rw [ce_le_iff h0]; exact Int.mul_le_mul_of_nonneg_left h hn
/-- at least one -/
theorem fl_over (hn : 0 ≤ n) (h : q ≤ p) (h0 : 0 < q) : n ≤ fl (n * p) q := by
  rw [le_fl_iff h0]; exact Int.mul_le_mul_of_nonneg_left h hn
theorem ce_over (hn : 0 ≤ n) (h : q ≤ p) (h0 : 0 < q) : n ≤ ce (n * p) q := by
  have : n - 1 < ce (n * p) q := by
    rw [lt_ce_iff h0, Int.sub_mul]; have := Int.mul_le_mul_of_nonneg_left h hn; omega
  omega
end
/-- a clock's kind -/
structure Ki (p q r s : Int) : Prop where
  p1 : 1 ≤ p
  pq : p ≤ q
  q2 : q ≤ 10000
  s1 : 1 ≤ s
  sr : s ≤ r
  r2 : r ≤ 10000
def lo (p q t : Int) : Int := fl (t * p) q
def hi (r s t : Int) : Int := ce (t * r) s
section
variable {p q r s a b c m t : Int} (k : Ki p q r s)
include k
theorem Ki.q0 : 0 < q := by have := k.p1; have := k.pq; omega
theorem Ki.s0 : 0 < s := by have := k.s1; omega
theorem Ki.low (h : 0 ≤ a) : lo p q a ≤ a := fl_part h k.pq k.q0
theorem Ki.high (h : 0 ≤ a) : a ≤ hi r s a := ce_over h k.sr k.s0
theorem Ki.lo_hi (h : 0 ≤ a) : lo p q a ≤ hi r s a := Int.le_trans (k.low h) (k.high h)
theorem Ki.hi_lo (ha : 0 ≤ a) (hb : 0 ≤ b) : hi r s a + lo p q b ≤ hi r s (a + b) := by
  have h1 := ce_fl (u := a * r) (v := b * r) k.s0
  have h2 := fl_over hb k.sr k.s0
  have h3 := k.low hb
  unfold hi; rw [Int.add_mul]
  omega
theorem Ki.lo_add_hi (ha : 0 ≤ a) (hb : 0 ≤ b) : lo p q (a + b) ≤ lo p q a + hi r s b := by
  have h1 := fl_ce (u := a * p) (v := b * p) k.q0
  have h2 := ce_part hb k.pq k.q0
  have h3 := k.high hb
  have e : lo p q (a + b) = fl (a * p + b * p) q := by unfold lo; rw [Int.add_mul]
  have e2 : lo p q a = fl (a * p) q := rfl
  omega
/-- most ticks in m minutes, m ≥ 0 -/
theorem Ki.mt_pos (hm : 0 ≤ m) : 0 ≤ fl (m * s) r ∧ hi r s (fl (m * s) r) ≤ m ∧ m < hi r s (fl (m * s) r + 1) := by
  have r0 : 0 < r := by have := k.s1; have := k.sr; omega
  refine ⟨?_, ?_, ?_⟩
  · rw [le_fl_iff r0]; have := Int.mul_nonneg hm (Int.le_of_lt k.s0); omega
  · unfold hi; rw [ce_le_iff k.s0]; exact fl_le r0
  · unfold hi; rw [lt_ce_iff k.s0, Int.add_mul]; have := lt_fl (u := m * s) r0; omega
theorem Ki.mt_neg (hm : m < 0) : fl (m * q) p < 0 ∧ -lo p q (-fl (m * q) p) ≤ m ∧ m < (if 0 ≤ fl (m * q) p + 1 then hi r s (fl (m * q) p + 1) else -lo p q (-(fl (m * q) p + 1))) := by
  have p0 : 0 < p := by have := k.p1; omega
  have hq := k.q0
  have h0 : fl (m * q) p < 0 := by
    rw [fl_lt_iff p0]
    have h5 := Int.mul_le_mul_of_nonneg_right (show m ≤ -1 by omega) (Int.le_of_lt hq)
    rw [Int.zero_mul]; omega
  refine ⟨h0, ?_, ?_⟩
  · have : -m ≤ lo p q (-fl (m * q) p) := by
      unfold lo; rw [le_fl_iff hq, Int.neg_mul, Int.neg_mul]; have := fl_le (u := m * q) p0; omega
    omega
  · split
    · have e : fl (m * q) p + 1 = 0 := by omega
      rw [e]; unfold hi; rw [lt_ce_iff k.s0, Int.zero_mul]
      have h5 := Int.mul_le_mul_of_nonneg_right (show m ≤ -1 by omega) (Int.le_of_lt k.s0)
      have := k.s0; omega
    · have : lo p q (-(fl (m * q) p + 1)) < -m := by
        unfold lo; rw [fl_lt_iff hq, Int.neg_mul, Int.add_mul, Int.neg_mul]; have := lt_fl (u := m * q) p0; omega
      omega
end
/-- the slowest clock -/
def slw (r s ph c : Int) : Int := ce (c * r - ph) s
def fst' (p q ph c : Int) : Int := fl (c * p + ph) q
section
variable {p q r s a b c m t ph : Int} (k : Ki p q r s)
include k
theorem Ki.slw_gap (h : a ≤ b) : lo p q (b - a) ≤ slw r s ph b - slw r s ph a ∧ slw r s ph b - slw r s ph a ≤ hi r s (b - a) := by
  have e : b * r - ph = (a * r - ph) + (b - a) * r := by rw [Int.sub_mul]; omega
  have h1 := ce_add (u := a * r - ph) (v := (b - a) * r) k.s0
  have h2 := ce_fl (u := a * r - ph) (v := (b - a) * r) k.s0
  have h3 := fl_over (n := b - a) (by omega) k.sr k.s0
  have h4 := k.low (a := b - a) (by omega)
  unfold slw hi
  rw [e]
  omega
theorem Ki.fst_gap (h : a ≤ b) : lo p q (b - a) ≤ fst' p q ph b - fst' p q ph a ∧ fst' p q ph b - fst' p q ph a ≤ hi r s (b - a) := by
  have e : b * p + ph = (a * p + ph) + (b - a) * p := by rw [Int.sub_mul]; omega
  have h1 := fl_add (u := a * p + ph) (v := (b - a) * p) k.q0
  have h2 := fl_ce (u := a * p + ph) (v := (b - a) * p) k.q0
  have h3 := ce_part (n := b - a) (by omega) k.pq k.q0
  have h4 := k.high (a := b - a) (by omega)
  unfold fst' lo
  rw [e]
  omega
theorem Ki.slw_0 (h0 : 0 ≤ ph) (h1 : ph < s) : slw r s ph 0 = 0 := by
  unfold slw; rw [Int.zero_mul]; exact ce_small (by omega) (by omega)
theorem Ki.fst_0 (h0 : 0 ≤ ph) (h1 : ph < q) : fst' p q ph 0 = 0 := by
  unfold fst'; rw [Int.zero_mul]; exact fl_small (by omega) (by omega)
theorem Ki.slw_at : slw r s ((t * r).fmod s) (t + c) - slw r s ((t * r).fmod s) t = hi r s c := by
  have e1 : (t + c) * r - (t * r).fmod s = c * r + fl (t * r) s * s := by rw [fl_mod k.s0, Int.add_mul]; omega
  have e2 : t * r - (t * r).fmod s = 0 + fl (t * r) s * s := by rw [fl_mod k.s0]; omega
  unfold slw hi
  rw [e1, e2, ce_mul k.s0, ce_mul k.s0, ce_small (u := 0) (by omega) (by have := k.s0; omega)]
  omega
theorem Ki.fst_at : fst' p q ((-t * p).fmod q) (t + c) - fst' p q ((-t * p).fmod q) t = lo p q c := by
  have e1 : (t + c) * p + (-t * p).fmod q = c * p + -fl (-t * p) q * q := by rw [fl_mod k.q0, Int.add_mul, Int.neg_mul, Int.neg_mul]; omega
  have e2 : t * p + (-t * p).fmod q = 0 + -fl (-t * p) q * q := by rw [fl_mod k.q0, Int.neg_mul, Int.neg_mul]; omega
  unfold fst' lo
  rw [e1, e2, fl_mul k.q0, fl_mul k.q0, fl_small (u := 0) (by omega) k.q0]
  omega
theorem Ki.two : (q - 1) * t * p - fl ((q - 1) * t * p) q * q = (-t * p).fmod q := by
  have e : (q - 1) * t * p = -t * p + (t * p) * q := by
    rw [Int.sub_mul, Int.sub_mul, Int.one_mul, Int.neg_mul, Int.mul_assoc, Int.mul_comm q]; omega
  rw [e, fl_mul k.q0, fl_mod k.q0, Int.add_mul]; omega
end
end K82
set_option Elab.async false
set_option linter.all false
set_option maxRecDepth 100000
set_option maxHeartbeats 4000000
/-! SHq: stamps. -/
namespace SH
open PySem L2 DL BF
theorem tells_wp {r : Re D} {κ : Ka} {P : Prop} (h : wpE r fun d κ' => ∃ b, d = .bl b ∧ κ' = κ ∧ (b = true ↔ P)) : Tells r κ P := by
  obtain ⟨d, κ', e, b, rfl, rfl, h2⟩ := wpE_eq.mp h
  exact ⟨b, e, h2⟩
/-- stamps -/
def stD (s : List (Option Int)) : D := .tup (s.map optI)
structure StOk (n : Nat) (L : List Lk) (s : List (Option Int)) (last : Int) : Prop where
  l0 : 0 ≤ last
  len : s.length = n
  z : s[0]? = some (some 0)
  bd : ∀ x, some x ∈ s → 0 ≤ x ∧ x ≤ last
  lk : ∀ l ∈ L, ∀ x, s[l.e]? = some (some x) → 1 ≤ x ∧ s[l.b]? ≠ some none
theorem gNm_ok {i : Nat} {d : D} {ρ : List Sl} (h : isBor d = false) : gNm i d ρ = some (ρ.set i (.val d)) := by rw [gNm_def, if_neg (by simp [h])]
def stBad (last : Int) (t : Option Int) : Bool := match t with
  | none => false
  | some x => !(decide (0 ≤ x) && decide (x ≤ last))
@[simp] theorem cNe_non_int {i : Int} : cNe .non (.int i) = some true := by simp [cNe, eqD, D.py, PyData.eqv]
@[simp] theorem cEq_non_int {i : Int} : cEq .non (.int i) = some false := by simp [cEq, eqD, D.py, PyData.eqv]
section
variable {n : Nat} {R : List Ru} {L : List Lk} {s : List (Option Int)} {last : Int} {κ : Ka}
theorem st_nb : isBor (stD s) = false := rfl
theorem st_at {k : Nat} {t : Option Int} (h : s[k]? = some t) : oIdx κ (stD s) (.int (k : Nat)) = some (optI t) := tup_at h
theorem st_0 {t : Option Int} {s' : List (Option Int)} : oIdx κ (stD (t :: s')) (.int 0) = some (optI t) := by unfold stD; rw [List.map_cons, oIdx_tup, atI_0]
theorem st_len : bLen κ [stD s] = some (.int s.length) := by unfold stD; rw [bLen_tup, List.length_map]
theorem st_walk {b : Bool} : walkD b (stD s) = some (s.map optI) := rfl
theorem lk_get {f1 f2 f3 f4 : Nat} {l : Lk} {ρ : List Sl} : gTu 4 (gsCons (gNm f1) (gsCons (gNm f2) (gsCons (gNm f3) (gsCons (gNm f4) gsNil)))) (lkD l) ρ = some ((((ρ.set f1 (.val (.int l.b))).set f2 (.val (.int l.e))).set f3 (.val (.int l.lo))).set f4 (.val (.int l.hi))) := by
  simp [lkD]
theorem are_stamps_ok (w : WebOk n R L) (hs : s.length ≤ 5000) : Tells (f_are_stamps [sweb n R L, stD s, .int last] κ) κ (StOk n L s last) := by
  refine tells_wp ?_
  unfold f_are_stamps
  refine mean_wp ?_
  show wpS (m_are_stamps [.val (sweb n R L), .val (stD s), .val (.int last), .no, .no, .no, .no] κ) _ _ _ _
  unfold m_are_stamps
  have w0 : ∀ κ : Ka, oIdx κ (sweb n R L) (.int 0) = some (.int n) := fun κ => sw_0
  have w2 : ∀ κ : Ka, oIdx κ (sweb n R L) (.int 2) = some (.tup (L.map lkD)) := fun κ => sw_2
  have n2 := w.n2
  generalize sweb n R L = W at *
  simp only [wpS_seq]
  by_cases h1 : last < 0
  · exact wpS_atomR (d := .bl false) (k := κ) (by simp [h1]) ⟨_, rfl, rfl, by simp; intro h; have := h.l0; omega⟩
  by_cases h2 : s.length = n
  case neg =>
    have h2' : ¬ ((s.length : Int) = (n : Int)) := by omega
    exact wpS_atomR (d := .bl false) (k := κ) (by simp [h1, w0, st_len, h2']) ⟨_, rfl, rfl, by simp; intro h; exact h2 h.len⟩
  match s, hs, h2 with
  | [], _, h2 => simp at h2; omega
  | none :: s', hs, h2 =>
    have h2' : (s'.length : Int) + 1 = (n : Int) := by simp at h2; omega
    exact wpS_atomR (d := .bl false) (k := κ) (by simp [h1, w0, st_len, h2', st_0, optI]) ⟨_, rfl, rfl, by simp; intro h; have := h.z; simp at this⟩
  | some x :: s', hs, h2 =>
    have h2' : (s'.length : Int) + 1 = (n : Int) := by simp at h2; omega
    by_cases h3 : x = 0
    case neg => exact wpS_atomR (d := .bl false) (k := κ) (by simp [h1, w0, st_len, h2', st_0, optI, h3]) ⟨_, rfl, rfl, by simp; intro h; have := h.z; simp at this; exact h3 this⟩
    subst h3
    refine wpS_atom (ρ' := [.val W, .val (stD (some 0 :: s')), .val (.int last), .no, .no, .no, .no]) (k := κ) (by simp [h1, w0, st_len, h2', st_0, optI]) ?_
    have hz : (some (0 : Int) :: s')[0]? = some (some 0) := rfl
    generalize (some (0 : Int) :: s') = s at *
    rw [wpS_if, cnt_gt (κ1 := κ) optI s (stBad last) (by simp [st_walk]) (by omega) (fun t _ => ?_)]
    rotate_left
    · refine ⟨_, gNm_ok optI_nb, ?_⟩
      cases t with
      | none => simp [optI, stBad]
      | some x => by_cases q : 0 ≤ x <;> simp [optI, stBad, q]
    rw [wpE_ok]
    by_cases h4 : (s.any (stBad last)) = true
    · rw [if_pos h4]
      refine wpS_atomR (d := .bl false) (k := κ) (by simp) ⟨_, rfl, rfl, ⟨fun h => by simp at h, fun h => ?_⟩⟩
      obtain ⟨t, ht, h5⟩ := List.any_eq_true.mp h4
      cases t with
      | none => simp [stBad] at h5
      | some x => have := h.bd x ht; simp [stBad, this.1, this.2] at h5
    rw [if_neg h4, wpS_next]
    have hb : ∀ x, some x ∈ s → 0 ≤ x ∧ x ≤ last := fun x hx => by
      have : ¬ (!(decide (0 ≤ x) && decide (x ≤ last))) = true := fun q => h4 (List.any_eq_true.mpr ⟨some x, hx, by simpa [stBad] using q⟩)
      simpa using this
    refine wpS_forE (κ1 := κ) (L.map lkD) (by simp [w2]) (fun i ρ κ' => κ' = κ ∧ (∃ z3 z4 z5 z6, ρ = [.val W, .val (stD s), .val (.int last), z3, z4, z5, z6]) ∧ ∀ k l, k < i → L[k]? = some l → ∀ x, s[l.e]? = some (some x) → 1 ≤ x ∧ s[l.b]? ≠ some none) ⟨rfl, ⟨_, _, _, _, rfl⟩, fun k l h => by omega⟩ ?_ ?_
    · rintro i d ρ κ' hd ⟨rfl, ⟨z3, z4, z5, z6, rfl⟩, hp⟩
      rw [List.getElem?_map] at hd
      obtain ⟨l, hl, rfl⟩ := Option.map_eq_some_iff.mp hd
      obtain ⟨l1, l2, _, _⟩ := w.lk l (List.mem_of_getElem? hl)
      refine ⟨_, lk_get, ?_⟩
      obtain ⟨te, hte⟩ : ∃ t, s[l.e]? = some t := ⟨_, List.getElem?_eq_getElem (by omega)⟩
      obtain ⟨tb, htb⟩ : ∃ t, s[l.b]? = some t := ⟨_, List.getElem?_eq_getElem (by omega)⟩
      have e1 := st_at (κ := κ') hte
      have e2 := st_at (κ := κ') htb
      have bad : ∀ Qn Qb Qc, (∃ x, te = some x ∧ (x < 1 ∨ tb = none)) → wpS ((sIf (bAnd (bCmp cIsNot (eIdx (eVar 1) (eVar 4)) (eC .non)) (bOr (bCmp cLt (eIdx (eVar 1) (eVar 4)) (eC (.int 1))) (bCmp cIs (eIdx (eVar 1) (eVar 3)) (eC .non)))) (sRet (eC (.bl false))) sNext) [.val W, .val (stD s), .val (.int last), .val (.int l.b), .val (.int l.e), .val (.int l.hi), z6] κ') Qn (fun d κ'' => ∃ b, d = .bl b ∧ κ'' = κ' ∧ (b = true ↔ StOk n L s last)) Qb Qc := by
        rintro Qn Qb Qc ⟨x, rfl, hx⟩
        refine wpS_atomR (d := .bl false) (k := κ') ?_ ⟨_, rfl, rfl, by
          simp; intro h
          have := h.lk l (List.mem_of_getElem? hl) x hte
          rcases hx with hx | hx
          · omega
          · exact this.2 (by rw [htb, hx])⟩
        by_cases q : x < 1
        · simp [e1, optI, q]
        · rcases hx with hx | hx
          · exact absurd hx q
          · subst hx; simp [e1, e2, optI, q]
      by_cases hB : ∃ x, te = some x ∧ (x < 1 ∨ tb = none)
      · exact bad _ _ _ hB
      · refine wpS_atom (ρ' := [.val W, .val (stD s), .val (.int last), .val (.int l.b), .val (.int l.e), .val (.int l.hi), z6]) (k := κ') ?_ ⟨rfl, ⟨_, _, _, _, rfl⟩, fun k l' hk hl' => ?_⟩
        · cases te with
          | none => simp [e1, optI]
          | some x =>
            have q1 : ¬ x < 1 := fun q => hB ⟨x, rfl, .inl q⟩
            cases tb with
            | none => exact absurd ⟨x, rfl, .inr rfl⟩ hB
            | some y => simp [e1, e2, optI, q1]
        · by_cases hki : k < i
          · exact hp k l' hki hl'
          · have : k = i := by omega
            subst this
            rw [hl] at hl'; cases hl'
            intro x hx
            rw [hte] at hx; cases hx
            refine ⟨Int.not_lt.mp fun q => hB ⟨x, rfl, .inl (by omega)⟩, fun q => ?_⟩
            rw [htb] at q; cases q
            exact hB ⟨x, rfl, .inr rfl⟩
    · rintro ρ κ' ⟨rfl, ⟨z3, z4, z5, z6, rfl⟩, hp⟩
      refine wpS_atomR (d := .bl true) (k := κ') (by simp) ⟨_, rfl, rfl, ⟨fun _ => ?_, fun _ => rfl⟩⟩
      refine ⟨by omega, h2, hz, hb, fun l hl => ?_⟩
      obtain ⟨k, hk⟩ := List.mem_iff_getElem?.mp hl
      exact hp k l (by rw [List.length_map]; exact (List.getElem?_eq_some_iff.mp hk).1) hk
theorem enumL_map {α : Type} (enc : α → D) (L : List α) : enumL (L.map enc) = (L.mapIdx fun i a => (i, a)).map fun (p : Nat × α) => .tup [.int p.1, enc p.2] := by
  unfold enumL
  apply List.ext_getElem
  · simp
  · intro i h1 h2
    simp
theorem all_ints : ∀ {ds : List D}, (∀ d ∈ ds, ∃ i, d = .int i) → ∃ l : List Int, ds = l.map D.int
  | [], _ => ⟨[], rfl⟩
  | d :: ds, h => by
    obtain ⟨i, rfl⟩ := h d (by simp)
    obtain ⟨l, rfl⟩ := all_ints (ds := ds) fun d hd => h d (by simp [hd])
    exact ⟨i :: l, rfl⟩
theorem okD_intsL (l : List Int) : okD 60 (.lst (l.map D.int)) := okD_mono (okD_lst (k := 0) fun d hd => by obtain ⟨i, _, rfl⟩ := List.mem_map.mp hd; exact okD_int) (by omega)
theorem cEq_lst0 (l : List Int) : cEq (.lst (l.map D.int)) (.lst []) = some (decide (l = [])) := by
  have h0 : okD 60 (.lst []) := okD_intsL []
  rw [cEq_of (okD_intsL l) h0, D.py, D.py, PyData.eqv]
  have := eqvAll_ints l []
  simpa using this
/-! ### links -/
/-- the link that ends at a moment -/
def lof (L : List Lk) (k : Nat) : Option Nat := L.findIdx? fun l => l.e == k
theorem link_of_ok (hl : L.length ≤ 1000) (k : Nat) : f_link_of [sweb n R L, .int k] κ = some (.ok (optN (lof L k)), κ) := by
  refine eq_of_wp ?_
  unfold f_link_of
  refine mean_wp ?_
  show wpS (m_link_of [.val (sweb n R L), .val (.int k), .no, .no, .no] κ) _ _ _ _
  unfold m_link_of
  have w2 : ∀ κ : Ka, oIdx κ (sweb n R L) (.int 2) = some (.tup (L.map lkD)) := fun κ => sw_2
  generalize sweb n R L = W at *
  simp only [wpS_seq]
  have e := eComp_ty (vs := [3, 4]) (n := iEnum1 true (eIdx (eVar 0) (eC (.int 2)))) (g := gTu 2 (gsCons (gNm 3) (gsCons (gNm 4) gsNil))) (t := bCmp cEq (eIdx (eVar 4) (eC (.int 1))) (eVar 1)) (e := eVar 3) (ρ := [.val W, .val (.int k), .no, .no, .no]) (κ := κ) (κ1 := κ) (fun (p : Nat × Lk) => .tup [.int p.1, lkD p.2]) (L.mapIdx fun i l => (i, l)) (fun p => if p.2.e = k then some (.int p.1) else none) (by simp [w2, enumL_map]) (by simp; omega) (fun p _ => by
    refine ⟨[.val W, .val (.int k), .no, .val (.int p.1), .val (lkD p.2)], by simp [lk_nb], ?_⟩
    by_cases q : p.2.e = k
    · exact .inr ⟨.int p.1, by simp [q], rfl, by simp [lk_1, q], by simp⟩
    · have q' : ¬ ((p.2.e : Int) = (k : Int)) := by omega
      exact .inl ⟨by simp [q], by simp [lk_1, q']⟩)
  have key : ∀ (L : List Lk) (o : Nat), (match (L.mapIdx fun i l => (i + o, l)).filterMap (fun p => if p.2.e = k then some (D.int p.1) else none) with | [] => none | d :: _ => some d) = (L.findIdx? fun l => l.e == k).map fun j => D.int ((j + o : Nat) : Int) := by
    intro L
    induction L with
    | nil => intro o; rfl
    | cons l L ih =>
      intro o
      rw [List.mapIdx_cons, List.filterMap_cons, List.findIdx?_cons]
      by_cases q : l.e = k
      · simp [q]
      · simp only [q, if_false, beq_iff_eq]
        have := ih (o + 1)
        simp only [Nat.add_assoc, Nat.add_comm 1 o] at this ⊢
        rw [this, Option.map_map]
        congr 1
        funext j
        simp only [Function.comp]
        congr 2
        omega
  have key' := key L 0
  simp only [Nat.add_zero] at key'
  have hi := all_ints (ds := (L.mapIdx fun i l => (i, l)).filterMap (fun p => if p.2.e = k then some (D.int p.1) else none)) (fun d hd => by
    obtain ⟨p, _, h⟩ := List.mem_filterMap.mp hd
    split at h
    · cases h; exact ⟨_, rfl⟩
    · cases h)
  generalize (L.mapIdx fun i l => (i, l)).filterMap (fun p => if p.2.e = k then some (D.int p.1) else none) = ds at *
  refine wpS_atom (ρ' := [.val W, .val (.int k), .val (.lst ds), .no, .no]) (k := κ) (by rw [sAsg_def, eFr_def, e]; simp) ?_
  obtain ⟨is, rfl⟩ := hi
  have e0 := cEq_lst0 is
  refine wpS_atomR (d := optN (lof L k)) (k := κ) ?_ ⟨rfl, rfl⟩
  unfold lof
  cases is with
  | nil =>
    simp only [List.map_nil] at key' e0 ⊢
    have : (L.findIdx? fun l => l.e == k) = none := by simpa using key'.symm
    rw [this]
    simp [optN, e0]
  | cons i is =>
    simp only [List.map_cons] at key' e0 ⊢
    obtain ⟨j, hj, hij⟩ := Option.map_eq_some_iff.mp key'.symm
    rw [hj]
    cases hij
    simp [optN, e0]
/-- the moment of the stamp web for one that was seen -/
def tmo (L : List Lk) (s : List (Option Int)) (last k : Nat) : Nat := match lof L k with
  | none => ((s[k]?.getD none).getD 0).toNat
  | some b => last + 1 + b
theorem true_moment_ok (hl : L.length ≤ 1000) {last k : Nat} {x : Int} (hk : s[k]? = some (some x)) (h0 : 0 ≤ x) : f_true_moment [sweb n R L, stD s, .int last, .int k] κ = some (.ok (.int (tmo L s last k)), κ) := by
  have e1 := link_of_ok (n := n) (R := R) (κ := κ) hl k
  have e2 := st_at (κ := κ) hk
  have ex : ((tmo L s last k : Nat) : Int) = match lof L k with | none => x | some b => (last : Int) + 1 + b := by
    unfold tmo
    cases lof L k with
    | none => simp [hk]; omega
    | some b => simp
  rw [ex]
  have nb := sw_nb (n := n) (R := R) (L := L)
  have nb2 := st_nb (s := s)
  unfold f_true_moment
  generalize sweb n R L = W at *
  generalize stD s = S at *
  cases h : lof L k with
  | none => rw [h] at e1; simp [m_true_moment, mean, slots, List.replicate, e1, e2, optN, optI]
  | some b => rw [h] at e1; simp [m_true_moment, mean, slots, List.replicate, e1, e2, optN, optI]
end
end SH
set_option Elab.async false
set_option linter.all false
set_option maxRecDepth 100000
set_option maxHeartbeats 4000000
/-! SHr: kinds and clocks (K82's lemmas, turned to the shared defs). -/
namespace SH
open PySem L2 DL K82
abbrev DD := DL.D
@[simp] def kd (p q r s : Int) : DD := .tup [.int p, .int q, .int r, .int s]
/-- what dividing by a kind's parts wants -/
structure Kd (p q r s : Int) : Prop where
  q0 : q ≠ 0
  q1 : q.natAbs < 1073741824
  s0 : s ≠ 0
  s1 : s.natAbs < 1073741824
  p1 : p.natAbs < 1073741824
  r1 : r.natAbs < 1073741824
section
variable {p q r s t : Int} {κ : Ka}
theorem Kd.mp (k : Kd p q r s) (t : Int) : mulOk t p = true := mulOk_r (by have := k.p1; omega) (by have := k.p1; omega)
theorem Kd.mr (k : Kd p q r s) (t : Int) : mulOk t r = true := mulOk_r (by have := k.r1; omega) (by have := k.r1; omega)
theorem least_eq (k : Kd p q r s) : f_least_minutes [kd p q r s, .int t] κ = some (.ok (.int ((t * p).fdiv q)), κ) := by
  simp [f_least_minutes, m_least_minutes, mean, slots, oMul_int (k.mp t), oFdiv_int k.q0 k.q1, List.replicate]
theorem most_eq (k : Kd p q r s) : f_most_minutes [kd p q r s, .int t] κ = some (.ok (.int (-((-t * r).fdiv s))), κ) := by
  simp [f_most_minutes, m_most_minutes, mean, slots, oMul_int (k.mr (-t)), oFdiv_int k.s0 k.s1, List.replicate]
theorem low_eq (k : Kd p q r s) : f__law_low [kd p q r s, .int t] κ = some (.ok (.int ((t * p).fdiv q)), κ) := by
  simp [f__law_low, m__law_low, mean, slots, oMul_int (k.mp t), oFdiv_int k.q0 k.q1, List.replicate]
theorem high_eq (k : Kd p q r s) : f__law_high [kd p q r s, .int t] κ = some (.ok (.int ((t * r + s - 1).fdiv s)), κ) := by
  simp [f__law_high, m__law_high, mean, slots, oMul_int (k.mr t), oFdiv_int k.s0 k.s1, List.replicate]
end
theorem kd_noBor {p q r s : Int} : isBor (kd p q r s) = false := rfl
theorem _root_.K82.Ki.kd {p q r s : Int} (k : Ki p q r s) : Kd p q r s := by
  have := k.p1; have := k.pq; have := k.q2; have := k.s1; have := k.sr; have := k.r2
  exact ⟨by omega, by omega, by omega, by omega, by omega, by omega⟩
/-- the drawn kind -/
theorem kind_ok (R : List Int) (T i : Int) (h0 : 0 ≤ i) : ∃ p q r s j, f__law_kind [dealD R T] (at_ i) = some (.ok (kd p q r s), at_ j) ∧ Ki p q r s ∧ 0 ≤ j := by
  obtain ⟨w, e1, w0, w1⟩ := take_ok R T i 6 h0 (by omega)
  by_cases h : w = 0
  · subst h
    exact ⟨1, 1, 1, 1, i + 1, by simp [f__law_kind, m__law_kind, mean, slots, List.replicate, e1], ⟨by omega, by omega, by omega, by omega, by omega, by omega⟩, by omega⟩
  by_cases h1 : w = 1
  · subst h1
    obtain ⟨a, e2, a0, a1⟩ := take_ok R T (i + 1) 60 (by omega) (by omega)
    obtain ⟨b, e3, b0, b1⟩ := take_ok R T (i + 1 + 1) 90 (by omega) (by omega)
    exact ⟨100 - a, 100, 100 + b, 100, i + 1 + 1 + 1, by simp [f__law_kind, m__law_kind, mean, slots, List.replicate, e1, e2, e3], ⟨by omega, by omega, by omega, by omega, by omega, by omega⟩, by omega⟩
  by_cases h2 : w = 2
  · subst h2
    obtain ⟨a, e2, a0, a1⟩ := take_ok R T (i + 1) 3 (by omega) (by omega)
    obtain ⟨b, e3, b0, b1⟩ := take_ok R T (i + 1 + 1) 3 (by omega) (by omega)
    exact ⟨1, 1 + a, 1 + b, 1, i + 1 + 1 + 1, by simp [f__law_kind, m__law_kind, mean, slots, List.replicate, e1, e2, e3], ⟨by omega, by omega, by omega, by omega, by omega, by omega⟩, by omega⟩
  obtain ⟨a, e2, a0, a1⟩ := take_ok R T (i + 1) 12 (by omega) (by omega)
  obtain ⟨b, e3, b0, b1⟩ := take_ok R T (i + 1 + 1) 12 (by omega) (by omega)
  obtain ⟨c, e4, c0, c1⟩ := take_ok R T (i + 1 + 1 + 1) (1 + a) (by omega) (by omega)
  obtain ⟨d, e5, d0, d1⟩ := take_ok R T (i + 1 + 1 + 1 + 1) 9 (by omega) (by omega)
  exact ⟨1 + c, 1 + a, 1 + b + d, 1 + b, i + 1 + 1 + 1 + 1 + 1, by simp [f__law_kind, m__law_kind, mean, slots, List.replicate, e1, e2, e3, e4, e5, h, h1, h2], ⟨by omega, by omega, by omega, by omega, by omega, by omega⟩, by omega⟩
section
variable {p q r s t m : Int} {κ : Ka}
theorem low' (k : Ki p q r s) : f__law_low [kd p q r s, .int t] κ = some (.ok (.int (lo p q t)), κ) := low_eq k.kd
theorem high' (k : Ki p q r s) : f__law_high [kd p q r s, .int t] κ = some (.ok (.int (hi r s t)), κ) := high_eq k.kd
theorem least' (k : Ki p q r s) : f_least_minutes [kd p q r s, .int t] κ = some (.ok (.int (lo p q t)), κ) := least_eq k.kd
theorem most' (k : Ki p q r s) : f_most_minutes [kd p q r s, .int t] κ = some (.ok (.int (hi r s t)), κ) := by
  rw [most_eq k.kd]
  have := neg_fl (u := t * r) k.s0
  unfold fl at this
  unfold hi
  rw [← this, Int.neg_mul]
end
def clk (n : Nat) (F : Int → Int) : DD := .tup (tab n fun i => .int (F i))
theorem clk_ints {n : Nat} {F : Int → Int} : clk n F = .tup (((List.range n).map fun (k : Nat) => F (k : Int)).map D.int) := by unfold clk; rw [tab_ints]
def Ok (p q r s : Int) (F : Int → Int) (a b : Int) : Prop := lo p q (b - a) ≤ F b - F a ∧ F b - F a ≤ hi r s (b - a)
def Good (p q r s : Int) (n : Nat) (F : Int → Int) : Prop := ∀ a b : Int, 0 ≤ a → a < b → b < n → Ok p q r s F a b
def Clock (p q r s : Int) (n : Nat) (F : Int → Int) : Prop := n ≠ 0 ∧ F 0 = 0 ∧ Good p q r s n F
theorem eComp_tab {vs : List Nat} {n : Ev (List D)} {g : Tg} {e : Ev D} {ρ : List Sl} {κ κ1 : Ka} {lo hi : Int} (F : Int → D) (hn : n ρ κ = some (.ok (rangeD lo hi), κ1)) (hl : (hi - lo).toNat ≤ 16777216)
    (h : ∀ i, lo ≤ i → i < hi → ∃ ρ2, g (.int i) (wipeR ρ vs) = some ρ2 ∧ isBor (F i) = false ∧ e ρ2 κ1 = some (.ok (F i), κ1)) :
    eComp vs n g bYes e ρ κ = some (.ok (tab (hi - lo).toNat fun i => F (lo + i)), κ1) := by
  rw [eComp_map (fun d => match d with | .int i => F i | d => d) hn (by rw [range_len]; exact hl) ?_]
  · rw [range_tab, tab_map]
  · intro d hd
    rw [range_tab] at hd
    obtain ⟨i, h0, h1, rfl⟩ := tab_mem.mp hd
    exact h (lo + i) (by omega) (by omega)
section
variable {p q r s t m : Int} {κ : Ka} {n : Nat} {F : Int → Int}
theorem clk_sm (h : n ≤ 16777216) : Sm 12 (clk n F) := by
  rw [clk_ints]; exact Sm.ints _ (by simpa using h)
end
theorem bMax_tab {κ : Ka} {n : Nat} {G : Int → Int} (h : n ≠ 0) : ∃ m, bMax κ [.lst (tab n fun i => .int (G i))] = some (.int m) ∧ (∃ i : Int, 0 ≤ i ∧ i < n ∧ m = G i) ∧ ∀ i : Int, 0 ≤ i → i < n → G i ≤ m := by
  obtain ⟨m, e, h1, h2⟩ := bMax_ok (κ := κ) (b := false) (l := (List.range n).map fun (k : Nat) => G (k : Int)) (by simpa using h)
  refine ⟨m, by rw [tab_ints]; exact e, ?_, ?_⟩
  · obtain ⟨k, hk, rfl⟩ := List.mem_map.mp h1
    exact ⟨k, by omega, by have := List.mem_range.mp hk; omega, rfl⟩
  · intro i h0 h1
    exact h2 _ (List.mem_map.mpr ⟨i.toNat, List.mem_range.mpr (by omega), by rw [Int.toNat_of_nonneg h0]⟩)
theorem bMin_tab {κ : Ka} {n : Nat} {G : Int → Int} (h : n ≠ 0) : ∃ m, bMin κ [.lst (tab n fun i => .int (G i))] = some (.int m) ∧ (∃ i : Int, 0 ≤ i ∧ i < n ∧ m = G i) ∧ ∀ i : Int, 0 ≤ i → i < n → m ≤ G i := by
  obtain ⟨m, e, h1, h2⟩ := bMin_ok (κ := κ) (b := false) (l := (List.range n).map fun (k : Nat) => G (k : Int)) (by simpa using h)
  refine ⟨m, by rw [tab_ints]; exact e, ?_, ?_⟩
  · obtain ⟨k, hk, rfl⟩ := List.mem_map.mp h1
    exact ⟨k, by omega, by have := List.mem_range.mp hk; omega, rfl⟩
  · intro i h0 h1
    exact h2 _ (List.mem_map.mpr ⟨i.toNat, List.mem_range.mpr (by omega), by rw [Int.toNat_of_nonneg h0]⟩)
section
variable {p q r s a b c : Int} {n : Nat} {F : Int → Int}
theorem Good.cross (g : Good p q r s n F) (k : Ki p q r s) (a0 : 0 ≤ a) (a1 : a < n) (b0 : 0 ≤ b) (b1 : b < n) (hc : c = n) : F a + lo p q (c - a) ≤ F b + hi r s (c - b) := by
  rcases Int.lt_trichotomy a b with h | h | h
  · have h1 := (g a b a0 h b1).1
    have h2 := k.lo_add_hi (a := b - a) (b := c - b) (by omega) (by omega)
    rw [show b - a + (c - b) = c - a by omega] at h2
    omega
  · subst h
    have := k.lo_hi (a := c - a) (by omega)
    omega
  · have h1 := (g b a b0 h a1).2
    have h2 := k.hi_lo (a := a - b) (b := c - a) (by omega) (by omega)
    rw [show a - b + (c - a) = c - b by omega] at h2
    omega
theorem Good.snoc {x : Int} (g : Good p q r s n F) (h1 : ∀ a : Int, 0 ≤ a → a < n → F a + lo p q (n - a) ≤ x) (h2 : ∀ a : Int, 0 ≤ a → a < n → x ≤ F a + hi r s (n - a)) : Good p q r s (n + 1) fun i => if i = n then x else F i := by
  intro a b a0 ab bn
  unfold Ok
  have ha : ¬ a = n := by omega
  simp only [if_neg ha]
  by_cases hb : b = n
  · subst hb
    have := h1 a a0 (by omega); have := h2 a a0 (by omega)
    simp only [if_true]
    omega
  · simp only [if_neg hb]
    exact g a b a0 ab (by omega)
theorem tab_snoc {x : Int} : (tab (n + 1) fun i => D.int (if i = n then x else F i)) = (tab n fun i => D.int (F i)) ++ [.int x] := by
  rw [tab_succ]
  congr 1
  · refine tab_congr fun i h0 h1 => ?_
    rw [if_neg (by omega)]
  · simp
theorem clock_step1 {κ : Ka} {DD' KK : D} {L way c m : Int} {ds : List D} {s6 s7 s8 : Sl} {T : List D} (e : eComp [8] (iRange1 (aCons (eVar 5) aNil)) (gNm 8) bYes (eOp oAdd (eIdx (eVar 3) (eVar 8)) (eCall 2 f__law_low (aCons (eVar 1) (aCons (eOp oSub (eVar 5) (eVar 8)) aNil)))) [.val DD', .val KK, .val (.int L), .own ds, .val (.int way), .val (.int c), s6, s7, s8] κ = some (.ok T, κ)) (f : bMax κ [.lst T] = some (.int m)) :
    sAsg (gNm 6) (eBi bMax (aCons (eFr (eComp [8] (iRange1 (aCons (eVar 5) aNil)) (gNm 8) bYes (eOp oAdd (eIdx (eVar 3) (eVar 8)) (eCall 2 f__law_low (aCons (eVar 1) (aCons (eOp oSub (eVar 5) (eVar 8)) aNil)))))) aNil)) [.val DD', .val KK, .val (.int L), .own ds, .val (.int way), .val (.int c), s6, s7, s8] κ = some (.nx [.val DD', .val KK, .val (.int L), .own ds, .val (.int way), .val (.int c), .val (.int m), s7, s8], κ) := by
  rw [sAsg_def, eBi_def, aCons_def, eFr_def, e]
  simp [f]
theorem clock_step2 {κ : Ka} {DD' KK : D} {L way c m : Int} {ds : List D} {s6 s7 s8 : Sl} {T : List D} (e : eComp [8] (iRange1 (aCons (eVar 5) aNil)) (gNm 8) bYes (eOp oAdd (eIdx (eVar 3) (eVar 8)) (eCall 2 f__law_high (aCons (eVar 1) (aCons (eOp oSub (eVar 5) (eVar 8)) aNil)))) [.val DD', .val KK, .val (.int L), .own ds, .val (.int way), .val (.int c), s6, s7, s8] κ = some (.ok T, κ)) (f : bMin κ [.lst T] = some (.int m)) :
    sAsg (gNm 7) (eBi bMin (aCons (eFr (eComp [8] (iRange1 (aCons (eVar 5) aNil)) (gNm 8) bYes (eOp oAdd (eIdx (eVar 3) (eVar 8)) (eCall 2 f__law_high (aCons (eVar 1) (aCons (eOp oSub (eVar 5) (eVar 8)) aNil)))))) aNil)) [.val DD', .val KK, .val (.int L), .own ds, .val (.int way), .val (.int c), s6, s7, s8] κ = some (.nx [.val DD', .val KK, .val (.int L), .own ds, .val (.int way), .val (.int c), s6, .val (.int m), s8], κ) := by
  rw [sAsg_def, eBi_def, aCons_def, eFr_def, e]
  simp [f]
theorem clock_ok (R : List Int) (T i L : Int) (h0 : 0 ≤ i) (k : Ki p q r s) (l0 : 0 ≤ L) (l1 : L ≤ 100) : ∃ F j, f__law_clock [dealD R T, kd p q r s, .int L] (at_ i) = some (.ok (clk (L + 1).toNat F), at_ j) ∧ Clock p q r s (L + 1).toNat F ∧ 0 ≤ j := by
  suffices h : wpE (f__law_clock [dealD R T, kd p q r s, .int L] (at_ i)) fun d κ => ∃ F j, d = clk (L + 1).toNat F ∧ κ = at_ j ∧ Clock p q r s (L + 1).toNat F ∧ 0 ≤ j by
    obtain ⟨d, κ, e, F, j, rfl, rfl, h1, h2⟩ := wpE_eq.mp h
    exact ⟨F, j, e, h1, h2⟩
  unfold f__law_clock
  refine mean_wp ?_
  show wpS (m__law_clock [.val (dealD R T), .val (kd p q r s), .val (.int L), .no, .no, .no, .no, .no, .no] (at_ i)) _ _ _ _
  unfold m__law_clock
  simp only [wpS_seq]
  obtain ⟨w, e1, w0, w1⟩ := take_ok R T i 3 h0 (by omega)
  refine wpS_atom (ρ' := [.val (dealD R T), .val (kd p q r s), .val (.int L), .own (tab 1 fun i => .int ((fun _ => 0) i)), .no, .no, .no, .no, .no]) (k := at_ i) (by simp [tab]) ?_
  refine wpS_atom (ρ' := [.val (dealD R T), .val (kd p q r s), .val (.int L), .own (tab 1 fun i => .int ((fun _ => 0) i)), .val (.int w), .no, .no, .no, .no]) (k := at_ (i + 1)) (by simp [e1]) ?_
  refine wpS_forE (κ1 := at_ (i + 1)) (rangeD 1 (L + 1)) (range2_ok (by omega) (by omega) (by simp)) (fun m ρ κ => ∃ F j s5 s6 s7 s8, κ = at_ j ∧ 0 ≤ j ∧ ρ = [.val (dealD R T), .val (kd p q r s), .val (.int L), .own (tab (m + 1) fun i => .int (F i)), .val (.int w), s5, s6, s7, s8] ∧ F 0 = 0 ∧ Good p q r s (m + 1) F) ⟨_, _, _, _, _, _, rfl, by omega, rfl, rfl, fun a b _ _ _ => by omega⟩ ?_ ?_
  · rintro m d ρ κ hd ⟨F, j, s5, s6, s7, s8, rfl, hj, rfl, F0, hG⟩
    obtain ⟨rfl, hm⟩ := mem_range hd
    refine ⟨_, rfl, ?_⟩
    simp only [wpS_seq]
    generalize hC : 1 + (m : Int) = C
    have hC1 : C = ((m + 1 : Nat) : Int) := by omega
    have hC2 : (C - 0).toNat = m + 1 := by omega
    generalize hn : m + 1 = n at *
    have eL := eComp_tab (vs := [8]) (n := iRange1 (aCons (eVar 5) aNil)) (g := gNm 8) (e := eOp oAdd (eIdx (eVar 3) (eVar 8)) (eCall 2 f__law_low (aCons (eVar 1) (aCons (eOp oSub (eVar 5) (eVar 8)) aNil)))) (ρ := [.val (dealD R T), .val (kd p q r s), .val (.int L), .own (tab n fun i => .int (F i)), .val (.int w), .val (.int C), s6, s7, s8]) (κ := at_ j) (κ1 := at_ j) (lo := 0) (hi := C) (fun i => .int (F i + lo p q (C - i))) (range1_ok (by omega) (by simp)) (by omega) (fun a a0 a1 => by
      refine ⟨_, rfl, rfl, ?_⟩
      have f1 := low' (t := C - a) (κ := at_ j) k
      have f2 : atI (tab n fun i => D.int (F i)) a = some (.int (F a)) := tab_at (by omega) (by omega)
      simp only [kd] at f1
      simp [f1, f2])
    rw [hC2] at eL
    obtain ⟨low, eM, ⟨al, al0, al1, rfl⟩, hM⟩ := bMax_tab (κ := at_ j) (n := n) (G := fun i => F (0 + i) + lo p q (C - (0 + i))) (by omega)
    refine wpS_atom (clock_step1 eL eM) ?_
    simp only [Int.zero_add] at *
    generalize hlow : F al + lo p q (C - al) = low at *
    have eH := eComp_tab (vs := [8]) (n := iRange1 (aCons (eVar 5) aNil)) (g := gNm 8) (e := eOp oAdd (eIdx (eVar 3) (eVar 8)) (eCall 2 f__law_high (aCons (eVar 1) (aCons (eOp oSub (eVar 5) (eVar 8)) aNil)))) (ρ := [.val (dealD R T), .val (kd p q r s), .val (.int L), .own (tab n fun i => .int (F i)), .val (.int w), .val (.int C), .val (.int low), s7, s8]) (κ := at_ j) (κ1 := at_ j) (lo := 0) (hi := C) (fun i => .int (F i + hi r s (C - i))) (range1_ok (by omega) (by simp)) (by omega) (fun a a0 a1 => by
      refine ⟨_, rfl, rfl, ?_⟩
      have f1 := high' (t := C - a) (κ := at_ j) k
      have f2 : atI (tab n fun i => D.int (F i)) a = some (.int (F a)) := tab_at (by omega) (by omega)
      simp only [kd] at f1
      simp [f1, f2])
    rw [hC2] at eH
    simp only [Int.zero_add] at eH
    obtain ⟨high, eN, ⟨bl, bl0, bl1, rfl⟩, hN⟩ := bMin_tab (κ := at_ j) (n := n) (G := fun i => F i + hi r s (C - i)) (by omega)
    refine wpS_atom (clock_step2 eH eN) ?_
    have hlh : low ≤ F bl + hi r s (C - bl) := by rw [← hlow]; exact hG.cross k al0 al1 bl0 bl1 hC1
    generalize hhigh : F bl + hi r s (C - bl) = high at *
    clear eL eM eH eN
    obtain ⟨v, e2, v0, v1⟩ := take_ok R T j ((if (900 : Int) < high - low then 900 else high - low) + 1) hj (by split <;> omega)
    have v2 : v ≤ high - low := by split at v1 <;> omega
    have fin : ∀ (x j' : Int), 0 ≤ j' → low ≤ x → x ≤ high → ∃ F' j'' z5 z6 z7 z8, at_ j' = at_ j'' ∧ 0 ≤ j'' ∧ [Sl.val (dealD R T), .val (kd p q r s), .val (.int L), .own ((tab n fun i => .int (F i)) ++ [.int x]), .val (.int w), .val (.int C), .val (.int low), .val (.int high), s8] = [.val (dealD R T), .val (kd p q r s), .val (.int L), .own (tab (n + 1) fun i => .int (F' i)), .val (.int w), z5, z6, z7, z8] ∧ F' 0 = 0 ∧ Good p q r s (n + 1) F' := by
      intro x j' hj' x0 x1
      refine ⟨fun i => if i = n then x else F i, j', _, _, _, _, rfl, hj', by rw [tab_snoc], (if_neg (by omega)).trans F0, hG.snoc (fun a a0 a1 => ?_) (fun a a0 a1 => ?_)⟩
      · have := hM a a0 a1; rw [hC1] at this; omega
      · have := hN a a0 a1; rw [hC1] at this; omega
    have hlen : ¬ (16777216 ≤ (tab n fun i => D.int (F i)).length) := by rw [tab_len]; omega
    rw [tab_len] at hlen
    by_cases hw : w = 0
    · obtain ⟨u, e3, u0, u1⟩ := take_ok R T (j + 1) 3 (by omega) (by omega)
      have hu : u = 0 ∨ u = 1 ∨ u = 2 := by omega
      rcases hu with rfl | rfl | rfl
      · refine wpS_atom (k := at_ (j + 1 + 1)) ?_ (fin low (j + 1 + 1) (by omega) (by omega) (by omega))
        simp [e2, e3, hw, hlen]
      · refine wpS_atom (k := at_ (j + 1 + 1)) ?_ (fin high (j + 1 + 1) (by omega) (by omega) (by omega))
        simp [e2, e3, hw, hlen]
      · refine wpS_atom (k := at_ (j + 1 + 1)) ?_ (fin (low + v) (j + 1 + 1) (by omega) (by omega) (by omega))
        simp [e2, e3, hw, hlen]
    · have hu : w = 1 ∨ w = 2 := by omega
      rcases hu with rfl | rfl
      · refine wpS_atom (k := at_ (j + 1)) ?_ (fin high (j + 1) (by omega) (by omega) (by omega))
        simp [e2, hlen]
      · refine wpS_atom (k := at_ (j + 1)) ?_ (fin (low + v) (j + 1) (by omega) (by omega) (by omega))
        simp [e2, hlen]
  · rintro ρ κ ⟨F, j, s5, s6, s7, s8, rfl, hj, rfl, F0, hG⟩
    rw [range_len] at hG ⊢
    have hn : (L + 1 - 1).toNat + 1 = (L + 1).toNat := by omega
    rw [hn] at hG ⊢
    exact wpS_atomR (d := clk (L + 1).toNat F) (k := at_ j) (by simp [clk]) ⟨F, j, rfl, rfl, ⟨by omega, F0, hG⟩, hj⟩
end
end SH
set_option Elab.async false
set_option linter.all false
set_option maxRecDepth 100000
set_option maxHeartbeats 4000000
/-! SHs: the stamp web. -/
namespace SH
open PySem L2 DL BF K82
/-! ### its rules -/
def pairR (p q r u : Int) (a i : Nat) : List Ru := [⟨a, a + 1 + i, hi r u (i + 1)⟩, ⟨a + 1 + i, a, -lo p q (i + 1)⟩]
def rowR (p q r u : Int) (a m : Nat) : List Ru := (List.range m).flatMap (pairR p q r u a)
def clockRp (p q r u : Int) (last m : Nat) : List Ru := (List.range m).flatMap fun a => rowR p q r u a (last - a)
def clockR (p q r u : Int) (last : Nat) : List Ru := clockRp p q r u last (last + 1)
def endR (last b : Nat) : Option Int → List Ru
  | none => [⟨last + 1 + b, last, -1⟩]
  | some x => [⟨x.toNat, last + 1 + b, 0⟩, ⟨last + 1 + b, x.toNat - 1, -1⟩]
def endD (last b : Nat) : Option Int → List D
  | none => [.tup [.int ((last : Int) + 1 + b), .int last, .int (-1)]]
  | some y => [.tup [.int y, .int ((last : Int) + 1 + b), .int 0], .tup [.int ((last : Int) + 1 + b), .int (y - 1), .int (-1)]]
def linkR (L : List Lk) (s : List (Option Int)) (last b : Nat) (l : Lk) : List Ru :=
  [⟨tmo L s last l.b, last + 1 + b, l.hi⟩, ⟨last + 1 + b, tmo L s last l.b, -l.lo⟩] ++ endR last b (s[l.e]?.getD none)
def pick (Y : List Ru) : Option Int → List Ru
  | none => []
  | some _ => Y
def linkO (L : List Lk) (s : List (Option Int)) (last b : Nat) (l : Lk) : List Ru := pick (linkR L s last b l) (s[l.b]?.getD none)
def linksR (L : List Lk) (s : List (Option Int)) (last m : Nat) : List Ru := ((L.mapIdx fun i l => (i, l)).take m).flatMap fun b => linkO L s last b.1 b.2
def stampR (p q r u : Int) (L : List Lk) (s : List (Option Int)) (last : Nat) : List Ru := clockR p q r u last ++ linksR L s last L.length
section
variable {p q r u : Int} {n : Nat} {R : List Ru} {L : List Lk} {s : List (Option Int)} {last : Nat} {κ : Ka}
theorem rowR_succ {a m : Nat} : rowR p q r u a (m + 1) = rowR p q r u a m ++ pairR p q r u a m := by simp [rowR, List.range_succ]
theorem clockRp_succ {m : Nat} : clockRp p q r u last (m + 1) = clockRp p q r u last m ++ rowR p q r u m (last - m) := by simp [clockRp, List.range_succ]
theorem rowR_len {a m : Nat} : (rowR p q r u a m).length = 2 * m := by
  induction m with
  | zero => rfl
  | succ m ih => rw [rowR_succ, List.length_append, ih]; simp [pairR]; omega
theorem clockRp_len (h : last ≤ 100) {m : Nat} : (clockRp p q r u last m).length ≤ 200 * m := by
  induction m with
  | zero => simp [clockRp]
  | succ m ih => rw [clockRp_succ, List.length_append, rowR_len]; omega
theorem linkO_len {b : Nat} {l : Lk} : (linkO L s last b l).length ≤ 4 := by
  unfold linkO linkR
  cases s[l.b]?.getD none
  · simp [pick]
  · cases s[l.e]?.getD none <;> simp [endR, pick]
theorem linksR_succ {m : Nat} {l : Lk} (h : L[m]? = some l) : linksR L s last (m + 1) = linksR L s last m ++ linkO L s last m l := by
  unfold linksR
  rw [List.take_succ, List.flatMap_append]
  congr 1
  simp [h]
theorem linksR_len {m : Nat} : (linksR L s last m).length ≤ 4 * m := by
  induction m with
  | zero => simp [linksR]
  | succ m ih =>
    cases h : L[m]? with
    | none =>
      have : linksR L s last (m + 1) = linksR L s last m := by
        unfold linksR
        rw [List.take_succ]
        simp [h]
      rw [this]; omega
    | some l => rw [linksR_succ h, List.length_append]; have := linkO_len (L := L) (s := s) (last := last) (b := m) (l := l); omega
theorem pairR_D {a i : Nat} : (pairR p q r u a i).map ruD = [.tup [.int a, .int ((a : Int) + 1 + i), .int (hi r u ((i : Int) + 1))], .tup [.int ((a : Int) + 1 + i), .int a, .int (-lo p q ((i : Int) + 1))]] := by
  simp [pairR, ruD]
theorem clock_rules_ok (k : Ki p q r u) (hl : last ≤ 100) : f_clock_rules [kd p q r u, .int last] κ = some (.ok (.lst ((clockR p q r u last).map ruD)), κ) := by
  refine eq_of_wp ?_
  unfold f_clock_rules
  refine mean_wp ?_
  show wpS (m_clock_rules [.val (kd p q r u), .val (.int last), .no, .no, .no] κ) _ _ _ _
  unfold m_clock_rules
  simp only [wpS_seq]
  have nb : isBor (kd p q r u) = false := rfl
  have f1 := fun t => least' (t := t) (κ := κ) k
  have f2 := fun t => most' (t := t) (κ := κ) k
  generalize kd p q r u = K at *
  refine wpS_atom (ρ' := [.val K, .val (.int last), .val (.lst ((clockRp p q r u last 0).map ruD)), .no, .no]) (k := κ) (by simp [clockRp]) ?_
  refine wpS_forE (κ1 := κ) (rangeD 0 (last + 1)) (range1_ok (by omega) (by simp)) (fun i ρ κ' => κ' = κ ∧ ∃ z3 z4, ρ = [.val K, .val (.int last), .val (.lst ((clockRp p q r u last i).map ruD)), z3, z4]) ⟨rfl, _, _, rfl⟩ ?_ ?_
  · rintro a d ρ κ' hd ⟨rfl, z3, z4, rfl⟩
    obtain ⟨rfl, ha⟩ := mem_range hd
    have ea : (0 : Int) + (a : Int) = (a : Nat) := by omega
    rw [ea]
    refine ⟨_, rfl, ?_⟩
    have h1 := clockRp_len (p := p) (q := q) (r := r) (u := u) hl (m := a)
    refine wpS_forE (κ1 := κ') (rangeD (a + 1) (last + 1)) (range2_ok (by omega) (by omega) (by simp)) (fun i ρ κ'' => κ'' = κ' ∧ ∃ z4, ρ = [.val K, .val (.int last), .val (.lst ((clockRp p q r u last a ++ rowR p q r u a i).map ruD)), .val (.int a), z4]) ⟨rfl, z4, by simp [rowR]⟩ ?_ ?_
    · rintro i d ρ κ'' hd ⟨rfl, z4, rfl⟩
      obtain ⟨rfl, hi⟩ := mem_range hd
      refine ⟨_, rfl, ?_⟩
      refine wpS_atom (ρ' := [.val K, .val (.int last), .val (.lst ((clockRp p q r u last a ++ rowR p q r u a (i + 1)).map ruD)), .val (.int a), .val (.int ((a : Int) + 1 + i))]) (k := κ'') ?_ ⟨rfl, _, rfl⟩
      have e : (a : Int) + 1 + i - a = i + 1 := by omega
      have h2 := rowR_len (p := p) (q := q) (r := r) (u := u) (a := a) (m := i)
      have h3 : ((clockRp p q r u last a ++ rowR p q r u a i).map ruD).length + 2 ≤ 16777216 := by simp; omega
      have h4 : (clockRp p q r u last a ++ rowR p q r u a (i + 1)).map ruD = (clockRp p q r u last a ++ rowR p q r u a i).map ruD ++ (pairR p q r u a i).map ruD := by rw [rowR_succ]; simp
      rw [h4, pairR_D]
      generalize (clockRp p q r u last a ++ rowR p q r u a i).map ruD = X at *
      simp [f1, f2, e, h3]
    · rintro ρ κ'' ⟨rfl, z4, rfl⟩
      rw [range_len, show ((last : Int) + 1 - (a + 1)).toNat = last - a by omega, ← clockRp_succ]
      exact ⟨rfl, _, _, rfl⟩
  · rintro ρ κ' ⟨rfl, z3, z4, rfl⟩
    rw [range_len, show ((last : Int) + 1 - 0).toNat = last + 1 by omega]
    exact wpS_atomR (d := .lst ((clockR p q r u last).map ruD)) (k := κ') (by unfold clockR; simp) ⟨rfl, rfl⟩
theorem link_rules_ok (w : WebOk n R L) (h : StOk n L s last) {b : Nat} {l : Lk} (hb : L[b]? = some l) {x : Int} (hx : s[l.b]? = some (some x)) :
    f_link_rules [sweb n R L, stD s, .int last, .int b] κ = some (.ok (.lst ((linkR L s last b l).map ruD)), κ) := by
  have hm := List.mem_of_getElem? hb
  obtain ⟨l1, l2, _, _⟩ := w.lk l hm
  have x0 := (h.bd x (List.mem_of_getElem? hx)).1
  have e1 := true_moment_ok (n := n) (R := R) (κ := κ) w.ll (last := last) hx x0
  have e2 : ∀ κ : Ka, oIdx κ (sweb n R L) (.int 2) = some (.tup (L.map lkD)) := fun κ => sw_2
  have e3 : ∀ κ : Ka, oIdx κ (.tup (L.map lkD)) (.int b) = some (lkD l) := fun κ => tup_at hb
  obtain ⟨te, hte⟩ : ∃ t, s[l.e]? = some t := ⟨_, List.getElem?_eq_getElem (by have := h.len; omega)⟩
  have e4 := st_at (κ := κ) hte
  have nb2 := st_nb (s := s)
  have hy : ∀ y, te = some y → 1 ≤ y := fun y e => (h.lk l hm y (by rw [hte, e])).1
  have e5 : (linkR L s last b l).map ruD = [.tup [.int (tmo L s last l.b), .int ((last : Int) + 1 + b), .int l.hi], .tup [.int ((last : Int) + 1 + b), .int (tmo L s last l.b), .int (-l.lo)]] ++ endD last b te := by
    unfold linkR
    rw [hte]
    cases te with
    | none => simp [ruD, endR, endD]
    | some y =>
      have := hy y rfl
      have a1 : ((y.toNat : Nat) : Int) = y := by omega
      have a2 : ((y.toNat - 1 : Nat) : Int) = y - 1 := by omega
      simp [ruD, a1, a2, endR, endD]
  rw [e5]
  generalize tmo L s last l.b = tm at *
  refine eq_of_wp ?_
  unfold f_link_rules
  refine mean_wp ?_
  show wpS (m_link_rules [.val (sweb n R L), .val (stD s), .val (.int last), .val (.int b), .no, .no, .no, .no, .no, .no, .no] κ) _ _ _ _
  unfold m_link_rules
  simp only [wpS_seq]
  generalize sweb n R L = W at *
  generalize stD s = S at *
  generalize L.map lkD = LL at *
  clear hb
  refine wpS_atom (ρ' := [.val W, .val S, .val (.int last), .val (.int b), .val (.int l.b), .val (.int l.e), .val (.int l.lo), .val (.int l.hi), .no, .no, .no]) (k := κ) (by rw [sAsg_def]; simp [e2, e3, lk_get, lk_nb]) ?_
  refine wpS_atom (ρ' := [.val W, .val S, .val (.int last), .val (.int b), .val (.int l.b), .val (.int l.e), .val (.int l.lo), .val (.int l.hi), .val (.int tm), .val (.int ((last : Int) + 1 + b)), .no]) (k := κ) (by simp [e1]) ?_
  refine wpS_atom (ρ' := [.val W, .val S, .val (.int last), .val (.int b), .val (.int l.b), .val (.int l.e), .val (.int l.lo), .val (.int l.hi), .val (.int tm), .val (.int ((last : Int) + 1 + b)), .val (.lst [.tup [.int tm, .int ((last : Int) + 1 + b), .int l.hi], .tup [.int ((last : Int) + 1 + b), .int tm, .int (-l.lo)]])]) (k := κ) (by simp) ?_
  cases te with
  | none => exact wpS_atomR (k := κ) (by simp [e4, optI, endD]) ⟨rfl, rfl⟩
  | some y =>
    rw [wpS_if]
    refine wpE_atom (a := false) (k := κ) (by simp [e4, optI]) ?_
    rw [if_neg (by simp), wpS_next]
    exact wpS_atomR (k := κ) (by simp [e4, optI, endD]) ⟨rfl, rfl⟩
theorem stamp_web_ok (w : WebOk n R L) (h : StOk n L s last) (k : Ki p q r u) (hl : last ≤ 100) :
    f_stamp_web [sweb n R L, kd p q r u, stD s, .int last] κ = some (.ok (webD (last + 1 + L.length) (stampR p q r u L s last) []), κ) := by
  have e1 := clock_rules_ok (κ := κ) k hl
  have e2 : ∀ κ : Ka, oIdx κ (sweb n R L) (.int 2) = some (.tup (L.map lkD)) := fun κ => sw_2
  have e3 := fun (b : Nat) (l : Lk) (hb : L[b]? = some l) (x : Int) (hx : s[l.b]? = some (some x)) => link_rules_ok (κ := κ) w h hb hx
  have hlen := h.len
  have l1 := clockRp_len (p := p) (q := q) (r := r) (u := u) hl (m := last + 1)
  have hL := w.ll
  refine eq_of_wp ?_
  unfold f_stamp_web
  refine mean_wp ?_
  show wpS (m_stamp_web [.val (sweb n R L), .val (kd p q r u), .val (stD s), .val (.int last), .no, .no, .no] κ) _ _ _ _
  unfold m_stamp_web
  simp only [wpS_seq]
  have nb : isBor (kd p q r u) = false := rfl
  have nb1 := sw_nb (n := n) (R := R) (L := L)
  have nb2 := st_nb (s := s)
  have es := fun (k : Nat) t (hk : s[k]? = some t) => st_at (κ := κ) hk
  generalize kd p q r u = K at *
  generalize sweb n R L = W at *
  generalize stD s = S at *
  refine wpS_atom (ρ' := [.val W, .val K, .val S, .val (.int last), .val (.lst ((clockR p q r u last ++ linksR L s last 0).map ruD)), .no, .no]) (k := κ) (by simp [e1, linksR]) ?_
  refine wpS_forE (κ1 := κ) ((L.mapIdx fun i a => (i, a)).map fun (p : Nat × Lk) => .tup [.int p.1, lkD p.2]) (by simp [e2, enumL_map]) (fun i ρ κ' => κ' = κ ∧ ∃ z5 z6, ρ = [.val W, .val K, .val S, .val (.int last), .val (.lst ((clockR p q r u last ++ linksR L s last i).map ruD)), z5, z6]) ⟨rfl, _, _, rfl⟩ ?_ ?_
  · rintro i d ρ κ' hd ⟨rfl, z5, z6, rfl⟩
    rw [List.getElem?_map, List.getElem?_mapIdx] at hd
    simp only [Option.map_map, Option.map_eq_some_iff, Function.comp] at hd
    obtain ⟨l, hl', rfl⟩ := hd
    refine ⟨[.val W, .val K, .val S, .val (.int last), .val (.lst ((clockR p q r u last ++ linksR L s last i).map ruD)), .val (.int i), .val (lkD l)], by simp [lk_nb], ?_⟩
    have hm := List.mem_of_getElem? hl'
    obtain ⟨q1, q2, _, _⟩ := w.lk l hm
    obtain ⟨tb, htb⟩ : ∃ t, s[l.b]? = some t := ⟨_, List.getElem?_eq_getElem (by omega)⟩
    have hil : i < L.length := (List.getElem?_eq_some_iff.mp hl').1
    have l2 := linksR_len (L := L) (s := s) (last := last) (m := i)
    have l3 := linkO_len (L := L) (s := s) (last := last) (b := i) (l := l)
    have l4 : ((clockR p q r u last ++ linksR L s last i).map ruD).length + ((linkO L s last i l).map ruD).length ≤ 16777216 := by unfold clockR; simp; omega
    have es := es l.b tb htb
    have l5 : (clockR p q r u last ++ linksR L s last (i + 1)).map ruD = (clockR p q r u last ++ linksR L s last i).map ruD ++ (linkO L s last i l).map ruD := by rw [linksR_succ hl']; simp
    refine wpS_atom (ρ' := [.val W, .val K, .val S, .val (.int last), .val (.lst ((clockR p q r u last ++ linksR L s last (i + 1)).map ruD)), .val (.int i), .val (lkD l)]) (k := κ') ?_ ⟨rfl, _, _, rfl⟩
    rw [l5]
    have l6 : linkO L s last i l = pick (linkR L s last i l) tb := by unfold linkO; rw [htb]; rfl
    rw [l6] at l4 ⊢
    generalize (clockR p q r u last ++ linksR L s last i).map ruD = X at *
    cases tb with
    | none => simp [lk_0, es, optI, pick]
    | some x =>
      have e3 := e3 i l hl' x htb
      simp only [pick] at l4 ⊢
      generalize (linkR L s last i l).map ruD = Y at *
      simp [lk_0, es, optI, e3, l4]
  · rintro ρ κ' ⟨rfl, z5, z6, rfl⟩
    refine wpS_atomR (d := webD (last + 1 + L.length) (stampR p q r u L s last) []) (k := κ') ?_ ⟨rfl, rfl⟩
    simp only [List.length_map, List.length_mapIdx]
    show _ = some (Out.rt (webD (last + 1 + L.length) (clockR p q r u last ++ linksR L s last L.length) []), κ')
    generalize clockR p q r u last ++ linksR L s last L.length = X at *
    simp [e2, webD]
end
end SH
set_option Elab.async false
set_option linter.all false
set_option maxRecDepth 100000
set_option maxHeartbeats 4000000
/-! SHt: cuts, rings told, times that keep rules. -/
namespace SH
open PySem L2 DL BF
section
variable {α : Type} {enc : α → D} {l : List α} {κ : Ka}
theorem cutF {v : Int} (h : 0 ≤ v) : cutD (l.map enc) (some v) none = (l.drop v.toNat).map enc := by
  unfold cutD
  have e : HT.sIx (l.map enc).length 0 (some v) = min v.toNat l.length := by
    have := HT.sIx_nat l.length 0 v.toNat
    rw [Int.toNat_of_nonneg h] at this
    simpa using this
  rw [e, HT.sIx_none, ← List.map_drop, ← List.map_take]
  congr 1
  rw [List.take_of_length_le (by simp)]
  by_cases q : v.toNat ≤ l.length
  · rw [Nat.min_eq_left q]
  · rw [Nat.min_eq_right (by omega), List.drop_length, List.drop_of_length_le (by omega)]
theorem cutT {v : Int} (h : 0 ≤ v) : cutD (l.map enc) none (some v) = (l.take v.toNat).map enc := by
  unfold cutD
  have e : HT.sIx (l.map enc).length (l.map enc).length (some v) = min v.toNat l.length := by
    have := HT.sIx_nat l.length l.length v.toNat
    rw [Int.toNat_of_nonneg h] at this
    simpa using this
  rw [e, HT.sIx_none, Nat.sub_zero, List.drop_zero, ← List.map_take]
  congr 1
  by_cases q : v.toNat ≤ l.length
  · rw [Nat.min_eq_left q]
  · rw [Nat.min_eq_right (by omega), List.take_length, List.take_of_length_le (by omega)]
theorem cutL : cutD (l.map enc) (some (-1)) none = (l.drop (l.length - 1)).map enc := by
  unfold cutD
  have e : HT.sIx (l.map enc).length 0 (some (-1)) = l.length - 1 := by
    unfold HT.sIx
    simp; omega
  rw [e, HT.sIx_none, ← List.map_drop, ← List.map_take, List.take_of_length_le (by simp)]
theorem cEqS {x y : Str} (hx : PyData.strOk x = true) (hy : PyData.strOk y = true) : cEq (.str x) (.str y) = some (x == y) := by
  have ox : okD 60 (.str x) := ⟨by simp [D.nob], by simpa [D.py, PyData.canLay0] using hx, by simp [D.py, PyData.depth]⟩
  have oy : okD 60 (.str y) := ⟨by simp [D.nob], by simpa [D.py, PyData.canLay0] using hy, by simp [D.py, PyData.depth]⟩
  rw [cEq_of ox oy, D.py, D.py, PyData.eqv]
theorem cNeS {x y : Str} (hx : PyData.strOk x = true) (hy : PyData.strOk y = true) : cNe (.str x) (.str y) = some (!(x == y)) := by
  have := cEqS hx hy
  unfold cEq at this
  unfold cNe; rw [this]; rfl
theorem tup_last {a : α} (h : l.getLast? = some a) : oIdx κ (.tup (l.map enc)) (.int (-1)) = some (enc a) := by
  rw [List.getLast?_eq_getElem?] at h
  obtain ⟨h1, h2⟩ := List.getElem?_eq_some_iff.mp h
  rw [oIdx_tup]
  unfold atI ixN
  rw [if_neg (by omega), if_pos (by simp; omega)]
  have : (-1 + ((l.map enc).length : Int)).toNat = l.length - 1 := by simp; omega
  simp only [this, Option.bind_some, List.getElem?_map, h, Option.map_some]
theorem bSum_ints {l : List Int} : bSum κ [.lst (l.map D.int)] = some (.int l.sum) := by simp [bSum, listK, intsOf_map]
end
def gI (l : List Int) (p : Nat) : Int := l.getD p 0
theorem gI_eq {l : List Int} {p : Nat} : gI l p = l[p]?.getD 0 := by unfold gI; rw [List.getD_eq_getElem?_getD]
/-! ### a ring below 0, by numbers -/
def ruA (R : List Ru) (k : Int) : Ru := R[k.toNat]?.getD ⟨0, 0, 0⟩
structure BadR (R : List Ru) (ks : List Int) : Prop where
  ne : ks ≠ []
  rg : ∀ k ∈ ks, 0 ≤ k ∧ k < R.length
  ch : ∀ p, p < ks.length → (ruA R (gI ks p)).j = (ruA R (gI ks ((p + 1) % ks.length))).i
  sm : (ks.map fun k => (ruA R k).w).sum < 0
section
variable {n : Nat} {R : List Ru} {rest : List D} {ks : List Int} {κ : Ka}
theorem isRing_bad (h : IsRing R ks) : BadR R ks := by
  obtain ⟨rs, hl, h0, hg, hc, hs⟩ := h.ex
  have key : ∀ p, p < ks.length → ∃ r, rs[p]? = some r ∧ ruA R (gI ks p) = r ∧ 0 ≤ gI ks p ∧ gI ks p < R.length := fun p hp => by
    have e : rs[p]? = some rs[p] := List.getElem?_eq_getElem (by omega)
    obtain ⟨k, h1, h2⟩ := hg p _ e
    refine ⟨_, e, ?_, ?_⟩
    · unfold ruA; rw [gI_eq, h1]; simp [h2]
    · rw [gI_eq, h1]
      have := (List.getElem?_eq_some_iff.mp h2).1
      simp; omega
  refine ⟨fun q => by simp [q] at h0, fun k hk => ?_, fun p hp => ?_, ?_⟩
  · obtain ⟨p, hp⟩ := List.mem_iff_getElem?.mp hk
    obtain ⟨r, _, _, h3⟩ := key p (List.getElem?_eq_some_iff.mp hp).1
    rw [gI_eq, hp] at h3; exact h3
  · obtain ⟨r, h1, h2, _⟩ := key p hp
    obtain ⟨r', h1', h2', _⟩ := key ((p + 1) % ks.length) (Nat.mod_lt _ h0)
    rw [h2, h2']
    exact hc p r r' h1 (by rw [hl]; exact h1')
  · have : (ks.map fun k => (ruA R k).w) = rs.map Ru.w := by
      apply List.ext_getElem
      · simp [hl]
      · intro p h1 h2
        have hp : p < ks.length := by simpa using h1
        obtain ⟨r, q1, q2, _⟩ := key p hp
        simp only [List.getElem_map]
        rw [gI_eq, List.getElem?_eq_getElem hp] at q2
        simp only [Option.getD_some] at q2
        rw [q2, (List.getElem?_eq_some_iff.mp q1).2]
    rw [this]; exact hs
theorem bad_bad (hR : ∀ r ∈ R, r.i < n ∧ r.j < n) (h : BadR R ks) : Bad n R := by
  refine ring_bad hR (ks := ks) ⟨ks.map (ruA R), by simp, List.length_pos_iff.mpr h.ne, fun p r hp => ?_, fun p r r' hp hp' => ?_, ?_⟩
  · rw [List.getElem?_map] at hp
    obtain ⟨k, hk, rfl⟩ := Option.map_eq_some_iff.mp hp
    have := h.rg k (List.mem_of_getElem? hk)
    refine ⟨k.toNat, by rw [hk]; congr 1; omega, ?_⟩
    unfold ruA
    rw [List.getElem?_eq_getElem (by omega)]; rfl
  · rw [List.getElem?_map] at hp hp'
    obtain ⟨k, hk, rfl⟩ := Option.map_eq_some_iff.mp hp
    obtain ⟨k', hk', rfl⟩ := Option.map_eq_some_iff.mp hp'
    have := h.ch p (List.getElem?_eq_some_iff.mp hk).1
    simp only [List.length_map] at hk'
    rw [gI_eq, gI_eq, hk, hk'] at this
    exact this
  · simpa [List.map_map, Function.comp_def] using h.sm
theorem ru_at {k : Int} (h0 : 0 ≤ k) (h1 : k < R.length) : atI (R.map ruD) k = some (ruD (ruA R k)) := by
  have e : R[k.toNat]? = some (ruA R k) := by unfold ruA; rw [List.getElem?_eq_getElem (by omega)]; rfl
  have := tup_at (κ := []) (enc := ruD) e
  rw [oIdx_tup] at this
  rwa [Int.toNat_of_nonneg h0] at this
theorem is_walk_ok (hk : ks.length ≤ 1000000) : Tells (f_is_walk [webD n R rest, .tup (ks.map D.int)] κ) κ ((∀ k ∈ ks, 0 ≤ k ∧ k < R.length) ∧ ∀ p, p + 1 < ks.length → (ruA R (gI ks p)).j = (ruA R (gI ks (p + 1))).i) := by
  refine tells_wp ?_
  unfold f_is_walk
  refine mean_wp ?_
  show wpS (m_is_walk [.val (webD n R rest), .val (.tup (ks.map D.int)), .no, .no, .no] κ) _ _ _ _
  unfold m_is_walk
  have w1 : ∀ κ : Ka, oIdx κ (webD n R rest) (.int 1) = some (.tup (R.map ruD)) := fun κ => web_1
  generalize webD n R rest = W at *
  rw [wpS_seq, wpS_if, cnt_gt (κ1 := κ) D.int ks (fun k => !(decide (0 ≤ k) && decide (k < R.length))) (by simp) (by omega) (fun k _ => ⟨_, gNm_ok rfl, by by_cases q : 0 ≤ k <;> simp [w1, q]⟩), wpE_ok]
  by_cases h1 : (ks.any fun k => !(decide (0 ≤ k) && decide (k < R.length))) = true
  · rw [if_pos h1]
    refine wpS_atomR (d := .bl false) (k := κ) (by simp) ⟨_, rfl, rfl, ⟨fun h => by simp at h, fun h => ?_⟩⟩
    obtain ⟨k, hk, h2⟩ := List.any_eq_true.mp h1
    have := h.1 k hk
    simp [this.1, this.2] at h2
  rw [if_neg h1, wpS_next]
  have hr : ∀ k ∈ ks, 0 ≤ k ∧ k < R.length := fun k hk => by
    have : ¬ (!(decide (0 ≤ k) && decide (k < R.length))) = true := fun q => h1 (List.any_eq_true.mpr ⟨k, hk, q⟩)
    simpa using this
  have hz : zipL (ks.map D.int) ((ks.drop 1).map D.int) = (ks.zip (ks.drop 1)).map fun (p : Int × Int) => .tup [.int p.1, .int p.2] := by
    unfold zipL List.zip
    rw [List.zipWith_map, List.map_zipWith]
  refine wpS_atomR (d := .bl (!((ks.zip (ks.drop 1)).any fun p => !((ruA R p.1).j == (ruA R p.2).i)))) (k := κ) ?_ ⟨_, rfl, rfl, ?_⟩
  · rw [sRet_def, cnt_eq (κ1 := κ) (fun (p : Int × Int) => .tup [.int p.1, .int p.2]) (ks.zip (ks.drop 1)) (fun p => !((ruA R p.1).j == (ruA R p.2).i)) (by simp [cutF] at hz ⊢; exact hz) (by simp; omega) (fun p hp => ?_)]
    · simp
    · obtain ⟨a, b⟩ := p
      have ha := hr a (List.of_mem_zip hp).1
      have hb := hr b (List.mem_of_mem_drop (List.of_mem_zip hp).2)
      have e1 := ru_at ha.1 ha.2
      have e2 := ru_at hb.1 hb.2
      refine ⟨[.val W, .val (.tup (ks.map D.int)), .no, .val (.int a), .val (.int b)], by simp, ?_⟩
      simp [w1, e1, e2, ru_0, ru_1]
      rw [Bool.eq_iff_iff]; simp; omega
  · rw [Bool.not_eq_true', List.any_eq_false]
    constructor
    · intro h
      refine ⟨hr, fun p hp => ?_⟩
      have := h (gI ks p, gI ks (p + 1)) (by
        rw [List.mem_iff_getElem?]
        refine ⟨p, ?_⟩
        rw [List.getElem?_zip_eq_some]
        simp only [List.getElem?_drop, gI_eq]
        rw [Nat.add_comm 1 p, List.getElem?_eq_getElem hp, List.getElem?_eq_getElem (by omega)]
        exact ⟨rfl, rfl⟩)
      simpa using this
    · rintro ⟨_, h⟩ ⟨a, b⟩ hp
      obtain ⟨p, hp⟩ := List.mem_iff_getElem?.mp hp
      rw [List.getElem?_zip_eq_some] at hp
      simp only [List.getElem?_drop] at hp
      have q := (List.getElem?_eq_some_iff.mp hp.2).1
      have := h p (by omega)
      rw [gI_eq, gI_eq, hp.1, Nat.add_comm p 1, hp.2] at this
      simpa using this
theorem is_bad_ring_ok (hk : ks.length ≤ 1000000) : Tells (f_is_bad_ring [webD n R rest, .tup (ks.map D.int)] κ) κ (BadR R ks) := by
  obtain ⟨b, e1, hb⟩ := is_walk_ok (n := n) (R := R) (rest := rest) (κ := κ) hk
  have e2 := cEq_tup0 ks
  refine tells_wp ?_
  unfold f_is_bad_ring
  refine mean_wp ?_
  show wpS (m_is_bad_ring [.val (webD n R rest), .val (.tup (ks.map D.int)), .no, .no] κ) _ _ _ _
  unfold m_is_bad_ring
  have w1 : ∀ κ : Ka, oIdx κ (webD n R rest) (.int 1) = some (.tup (R.map ruD)) := fun κ => web_1
  have nw : isBor (webD n R rest) = false := rfl
  simp only [wpS_seq]
  by_cases h0 : ks = []
  · exact wpS_atomR (d := .bl false) (k := κ) (by rw [h0] at e2; simp only [List.map_nil] at e2; simp [h0, e2]) ⟨_, rfl, rfl, ⟨fun h => by simp at h, fun h => absurd h0 h.ne⟩⟩
  cases b with
  | false => exact wpS_atomR (d := .bl false) (k := κ) (by simp [e2, h0, e1]) ⟨_, rfl, rfl, ⟨fun h => by simp at h, fun h => hb.mpr ⟨h.rg, fun p hp => by have := h.ch p (by omega); rwa [Nat.mod_eq_of_lt hp] at this⟩⟩⟩
  | true =>
    obtain ⟨hr, hc⟩ := hb.mp rfl
    have hl : 0 < ks.length := List.length_pos_iff.mpr h0
    have g0 : ks[0]? = some (gI ks 0) := by rw [gI_eq, List.getElem?_eq_getElem hl]; rfl
    have gl : ks.getLast? = some (gI ks (ks.length - 1)) := by rw [List.getLast?_eq_getElem?, gI_eq, List.getElem?_eq_getElem (by omega)]; rfl
    have r0 := hr _ (List.mem_of_getElem? g0)
    have rl := hr _ (List.mem_of_getLast? gl)
    have t0 := tup_at (κ := κ) (enc := D.int) g0
    rw [Int.natCast_zero, oIdx_tup] at t0
    have tl := tup_last (κ := κ) (enc := D.int) gl
    rw [oIdx_tup] at tl
    have u0 := ru_at r0.1 r0.2
    have ul := ru_at rl.1 rl.2
    have eE : f_ends_of [webD n R rest, .tup (ks.map D.int)] κ = some (.ok (.tup [.int (ruA R (gI ks 0)).i, .int (ruA R (gI ks (ks.length - 1))).j]), κ) := by
      unfold f_ends_of
      generalize webD n R rest = W at *
      generalize ks.map D.int = KS at *
      simp [m_ends_of, mean, slots, List.replicate, w1, t0, tl, u0, ul, ru_0, ru_1]
    have eL : f_length [webD n R rest, .tup (ks.map D.int)] κ = some (.ok (.int (ks.map fun k => (ruA R k).w).sum), κ) := by
      unfold f_length mean
      show noEr (match m_length [.val (webD n R rest), .val (.tup (ks.map D.int)), .no] κ with | some (.nx _, κ') => some (.ok .non, κ') | some (.rt d, κ') => some (.ok d, κ') | some (.er c, κ') => some (.er c, κ') | _ => none) = _
      unfold m_length
      rw [sRet_def, eBi_def, aCons_def, eFr_def, eComp_tyM D.int ks (fun k => .int (ruA R k).w) (κ1 := κ) (by simp) (by omega) (fun k hk => ⟨_, gNm_ok rfl, rfl, ?_⟩)]
      · have := bSum_ints (κ := κ) (l := ks.map fun k => (ruA R k).w)
        rw [List.map_map] at this
        simp only [Function.comp_def] at this
        simp [this]
      · have := ru_at (hr k hk).1 (hr k hk).2
        generalize webD n R rest = W at *
        simp [w1, this, ru_2]
    clear t0 tl u0 ul
    generalize webD n R rest = W at *
    generalize hKS : ks.map D.int = KS at *
    refine wpS_atom (k := κ) (ρ' := [.val W, .val (.tup KS), .no, .no]) (by simp [e2, h0, e1]) ?_
    refine wpS_atom (k := κ) (ρ' := [.val W, .val (.tup KS), .val (.int (ruA R (gI ks 0)).i), .val (.int (ruA R (gI ks (ks.length - 1))).j)]) (by simp [eE]) ?_
    have fin : ((ruA R (gI ks 0)).i = (ruA R (gI ks (ks.length - 1))).j ∧ (ks.map fun k => (ruA R k).w).sum < 0) ↔ BadR R ks := by
      constructor
      · rintro ⟨q1, q2⟩
        refine ⟨h0, hr, fun p hp => ?_, q2⟩
        by_cases q : p + 1 < ks.length
        · rw [Nat.mod_eq_of_lt q]; exact hc p q
        · rw [show p + 1 = ks.length by omega, Nat.mod_self, show p = ks.length - 1 by omega]; exact q1.symm
      · intro h
        refine ⟨?_, h.sm⟩
        have := h.ch (ks.length - 1) (by omega)
        rw [show ks.length - 1 + 1 = ks.length by omega, Nat.mod_self] at this
        exact this.symm
    by_cases q1 : (ruA R (gI ks 0)).i = (ruA R (gI ks (ks.length - 1))).j
    · refine wpS_atomR (d := .bl (decide ((ks.map fun k => (ruA R k).w).sum < 0))) (k := κ) (by simp [q1, eL]) ⟨_, rfl, rfl, ?_⟩
      rw [decide_eq_true_eq, ← fin]; simp [q1]
    · have q1' : ¬ ((ruA R (gI ks 0)).i : Int) = ((ruA R (gI ks (ks.length - 1))).j : Int) := by omega
      have q1'' := beq_eq_false_iff_ne.mpr q1'
      refine wpS_atomR (d := .bl false) (k := κ) (by simp [q1'']) ⟨_, rfl, rfl, ?_⟩
      rw [← fin]; simp [q1]
/-! ### times that keep all rules -/
def tmA (ts : List Int) (v : Nat) : Int := gI ts v
structure Keeps (n : Nat) (R : List Ru) (ts : List Int) : Prop where
  len : ts.length = n
  z : tmA ts 0 = 0
  ru : ∀ r ∈ R, tmA ts r.j - tmA ts r.i ≤ r.w
theorem tm_at {ts : List Int} {v : Nat} (h : v < ts.length) : atI (ts.map D.int) v = some (.int (tmA ts v)) :=
  tup_at (κ := []) (enc := D.int) (by unfold tmA; rw [gI_eq, List.getElem?_eq_getElem h]; rfl)
theorem keeps_ok {ts : List Int} (hR : ∀ r ∈ R, r.i < n ∧ r.j < n) (hn : 0 < n) (hl : R.length ≤ 1000000) : Tells (f_keeps [webD n R rest, .tup (ts.map D.int)] κ) κ (Keeps n R ts) := by
  refine tells_wp ?_
  unfold f_keeps
  refine mean_wp ?_
  show wpS (m_keeps [.val (webD n R rest), .val (.tup (ts.map D.int)), .no] κ) _ _ _ _
  unfold m_keeps
  have w0 : ∀ κ : Ka, oIdx κ (webD n R rest) (.int 0) = some (.int n) := fun κ => web_0
  have w1 : ∀ κ : Ka, oIdx κ (webD n R rest) (.int 1) = some (.tup (R.map ruD)) := fun κ => web_1
  have nw : isBor (webD n R rest) = false := rfl
  have bl : bLen κ [.tup (ts.map D.int)] = some (.int ts.length) := by simp
  have tm := fun v (h : v < ts.length) => tm_at h
  generalize webD n R rest = W at *
  generalize ts.map D.int = TS at *
  simp only [wpS_seq]
  by_cases h1 : ts.length = n
  case neg =>
    have h1' : ¬ (ts.length : Int) = n := by omega
    exact wpS_atomR (d := .bl false) (k := κ) (by simp [w0, bl, h1']) ⟨_, rfl, rfl, ⟨fun h => by simp at h, fun h => absurd h.len h1⟩⟩
  have h1' : (ts.length : Int) = n := by omega
  have t0 := tm 0 (by omega)
  rw [Int.natCast_zero] at t0
  by_cases h2 : tmA ts 0 = 0
  case neg =>
    exact wpS_atomR (d := .bl false) (k := κ) (by simp [w0, bl, h1', t0, h2]) ⟨_, rfl, rfl, ⟨fun h => by simp at h, fun h => absurd h.z h2⟩⟩
  refine wpS_atom (ρ' := [.val W, .val (.tup TS), .no]) (k := κ) (by simp [w0, bl, h1', t0, h2]) ?_
  refine wpS_atomR (d := .bl (!(R.any fun r => !(decide (tmA ts r.j - tmA ts r.i ≤ r.w))))) (k := κ) ?_ ⟨_, rfl, rfl, ?_⟩
  · rw [sRet_def, cnt_eq (κ1 := κ) ruD R (fun r => !(decide (tmA ts r.j - tmA ts r.i ≤ r.w))) (by simp [w1]) (by omega) (fun r hr => ⟨_, gNm_ok ru_nb, ?_⟩)]
    · simp
    · have hm := hR r hr
      have a1 := tm r.i (by omega)
      have a2 := tm r.j (by omega)
      have e : f_keeps_rule [.tup TS, ruD r] κ = some (.ok (.bl (decide (tmA ts r.j - tmA ts r.i ≤ r.w))), κ) := by
        unfold f_keeps_rule
        have c0 : ∀ κ : Ka, oIdx κ (ruD r) (.int 0) = some (.int r.i) := fun κ => ru_0
        have c1 : ∀ κ : Ka, oIdx κ (ruD r) (.int 1) = some (.int r.j) := fun κ => ru_1
        have c2 : ∀ κ : Ka, oIdx κ (ruD r) (.int 2) = some (.int r.w) := fun κ => ru_2
        generalize ruD r = RD at *
        simp [m_keeps_rule, mean, slots, List.replicate, c0, c1, c2, a1, a2]
      simp [e]
  · rw [Bool.not_eq_true', List.any_eq_false]
    constructor
    · intro h
      exact ⟨h1, h2, fun r hr => by simpa using h r hr⟩
    · intro h r hr
      simpa using h.ru r hr
end
end SH
set_option Elab.async false
set_option linter.all false
set_option maxRecDepth 100000
set_option maxHeartbeats 4000000
/-! SHv: what is told of stamps, and its judge. -/
namespace SH
open PySem L2 DL BF K82
@[simp] theorem cNe_bl {i j : Bool} : cNe (.bl i) (.bl j) = some (!(i == j)) := by simp [cNe, eqD, D.py, PyData.eqv]
inductive Ans where
  | S (w : Str) (ks : List Int)
  | X (w : Str) (c : List Int) (e : List (Option Int))
def ansD : Ans → D
  | .S w ks => .tup [.str w, .tup (ks.map D.int)]
  | .X w c e => .tup [.str w, .tup (c.map D.int), .tup (e.map optI)]
def AnsOk : Ans → Prop
  | .S w ks => PyData.strOk w = true ∧ w ≠ "explained" ∧ ks.length ≤ 1000000
  | .X w c e => PyData.strOk w = true ∧ w ≠ "strange" ∧ c.length ≤ 1000000 ∧ e.length ≤ 1000000
def zeroed (e : List (Option Int)) : List Int := e.map fun t => t.getD 0
def seenAt (s : List (Option Int)) (k : Nat) : Bool := (s[k]?.getD none).isSome
structure RightX (n : Nat) (R : List Ru) (L : List Lk) (s : List (Option Int)) (last : Nat) (c : List Int) (e : List (Option Int)) : Prop where
  lc : c.length = last + 1
  le : e.length = L.length
  no : ∀ (b : Nat) (l : Lk) (t : Option Int), L[b]? = some l → e[b]? = some t → t.isSome = seenAt s l.b
  kp : Keeps n R (c ++ zeroed e)
def Right (n : Nat) (R : List Ru) (L : List Lk) (s : List (Option Int)) (last : Nat) : Ans → Prop
  | .S w ks => w = "strange" ∧ BadR R ks
  | .X w c e => w = "explained" ∧ RightX n R L s last c e
theorem ok_strange : PyData.strOk "strange" = true := by decide +kernel
theorem ok_explained : PyData.strOk "explained" = true := by decide +kernel
theorem ok_ring : PyData.strOk "ring" = true := by decide +kernel
theorem ok_holds : PyData.strOk "holds" = true := by decide +kernel
section
variable {p q r u : Int} {n : Nat} {R : List Ru} {L : List Lk} {s : List (Option Int)} {last : Nat} {κ : Ka}
theorem lof_some {k c : Nat} (h : lof L k = some c) : ∃ l, L[c]? = some l ∧ l.e = k := by
  unfold lof at h
  obtain ⟨h1, h2, _⟩ := List.findIdx?_eq_some_iff_getElem.mp h
  exact ⟨L[c], List.getElem?_eq_getElem h1, by simpa using h2⟩
theorem lof_none {k : Nat} (h : lof L k = none) : ∀ l ∈ L, l.e ≠ k := by
  unfold lof at h
  intro l hl
  have := List.findIdx?_eq_none_iff.mp h l hl
  simpa using this
theorem lof_nd (hd : (L.map Lk.e).Nodup) {b : Nat} {l : Lk} (h : L[b]? = some l) : lof L l.e = some b := by
  cases h2 : lof L l.e with
  | none => exact absurd rfl (lof_none h2 l (List.mem_of_getElem? h))
  | some c =>
    obtain ⟨l', h3, h4⟩ := lof_some h2
    congr 1
    have a1 : (L.map Lk.e)[b]? = some l.e := by rw [List.getElem?_map, h]; rfl
    have a2 : (L.map Lk.e)[c]? = some l.e := by rw [List.getElem?_map, h3]; simp [h4]
    exact (List.getElem?_inj (List.getElem?_eq_some_iff.mp a2).1 hd).mp (a2.trans a1.symm)
/-- the rules of the stamp web, told apart -/
theorem stamp_mem {x : Ru} : x ∈ stampR p q r u L s last ↔ (∃ a i, a + 1 + i ≤ last ∧ x ∈ pairR p q r u a i) ∨ ∃ b l, L[b]? = some l ∧ seenAt s l.b = true ∧ x ∈ linkR L s last b l := by
  unfold stampR
  rw [List.mem_append]
  constructor
  · rintro (h | h)
    · left
      unfold clockR clockRp at h
      obtain ⟨a, ha, h⟩ := List.mem_flatMap.mp h
      unfold rowR at h
      obtain ⟨i, hi, h⟩ := List.mem_flatMap.mp h
      have := List.mem_range.mp ha; have := List.mem_range.mp hi
      exact ⟨a, i, by omega, h⟩
    · right
      unfold linksR at h
      obtain ⟨⟨b, l⟩, hb, h⟩ := List.mem_flatMap.mp h
      have hb := List.mem_of_mem_take hb
      obtain ⟨b', hb'⟩ := List.mem_iff_getElem?.mp hb
      rw [List.getElem?_mapIdx] at hb'
      obtain ⟨l', h1, h2⟩ := Option.map_eq_some_iff.mp hb'
      cases h2
      refine ⟨b, l, h1, ?_⟩
      unfold linkO at h
      unfold seenAt
      cases ht : s[l.b]?.getD none with
      | none => rw [ht] at h; simp [pick] at h
      | some y => rw [ht] at h; exact ⟨rfl, h⟩
  · rintro (⟨a, i, hi, h⟩ | ⟨b, l, hb, hs, h⟩)
    · left
      unfold clockR clockRp
      refine List.mem_flatMap.mpr ⟨a, List.mem_range.mpr (by omega), ?_⟩
      unfold rowR
      exact List.mem_flatMap.mpr ⟨i, List.mem_range.mpr (by omega), h⟩
    · right
      unfold linksR
      rw [List.take_of_length_le (by simp)]
      refine List.mem_flatMap.mpr ⟨(b, l), List.mem_iff_getElem?.mpr ⟨b, by rw [List.getElem?_mapIdx, hb]; rfl⟩, ?_⟩
      unfold linkO
      unfold seenAt at hs
      cases ht : s[l.b]?.getD none with
      | none => rw [ht] at hs; simp at hs
      | some y => exact h
theorem seen_some {k : Nat} (h : seenAt s k = true) : ∃ x, s[k]? = some (some x) := by
  unfold seenAt at h
  cases ht : s[k]? with
  | none => rw [ht] at h; simp at h
  | some t => cases t with
    | none => rw [ht] at h; simp at h
    | some x => exact ⟨x, rfl⟩
theorem seen_of {k : Nat} {x : Int} (h : s[k]? = some (some x)) : seenAt s k = true := by unfold seenAt; rw [h]; rfl
theorem tmo_lt (h : StOk n L s last) {k : Nat} (hk : seenAt s k = true) : tmo L s last k < last + 1 + L.length := by
  obtain ⟨x, hx⟩ := seen_some hk
  have := h.bd x (List.mem_of_getElem? hx)
  unfold tmo
  cases h1 : lof L k with
  | none => simp only [hx, Option.getD_some]; omega
  | some c =>
    obtain ⟨l, h2, _⟩ := lof_some h1
    have := (List.getElem?_eq_some_iff.mp h2).1
    simp only; omega
theorem stamp_bd (w : WebOk n R L) (h : StOk n L s last) : ∀ x ∈ stampR p q r u L s last, x.i < last + 1 + L.length ∧ x.j < last + 1 + L.length ∧ x.i ≠ x.j := by
  intro x hx
  rcases stamp_mem.mp hx with ⟨a, i, hi, hx⟩ | ⟨b, l, hb, hs, hx⟩
  · unfold pairR at hx
    simp only [List.mem_cons, List.not_mem_nil, or_false] at hx
    rcases hx with rfl | rfl <;> simp <;> omega
  · have hbl := (List.getElem?_eq_some_iff.mp hb).1
    have t1 := tmo_lt h hs
    have hm := List.mem_of_getElem? hb
    have t2 : tmo L s last l.b ≠ last + 1 + b := by
      obtain ⟨y, hy⟩ := seen_some hs
      have := h.bd y (List.mem_of_getElem? hy)
      unfold tmo
      cases h1 : lof L l.b with
      | none => simp only [hy, Option.getD_some]; omega
      | some c =>
        obtain ⟨l', h2, h3⟩ := lof_some h1
        have := (w.lk l hm).1
        simp only
        intro e
        have : c = b := by omega
        subst this
        rw [hb] at h2; cases h2; omega
    unfold linkR at hx
    simp only [List.mem_append, List.mem_cons, List.not_mem_nil, or_false] at hx
    rcases hx with (rfl | rfl) | hx
    · exact ⟨t1, by simp; omega, t2⟩
    · exact ⟨by simp; omega, t1, t2.symm⟩
    · cases ht : s[l.e]?.getD none with
      | none =>
        rw [ht] at hx
        simp [endR] at hx
        subst hx; simp; omega
      | some y =>
        have hy : s[l.e]? = some (some y) := by
          cases h4 : s[l.e]? with
          | none => rw [h4] at ht; simp at ht
          | some t => rw [h4] at ht; simp at ht; rw [ht]
        have := h.bd y (List.mem_of_getElem? hy)
        have := (h.lk l hm y hy).1
        rw [ht] at hx
        simp [endR] at hx
        rcases hx with rfl | rfl <;> simp <;> omega
theorem stamp_len (w : WebOk n R L) (hl : last ≤ 100) : (stampR p q r u L s last).length ≤ 100000 := by
  unfold stampR clockR
  rw [List.length_append]
  have := clockRp_len (p := p) (q := q) (r := r) (u := u) hl (m := last + 1)
  have := linksR_len (L := L) (s := s) (last := last) (m := L.length)
  have := w.ll
  omega
theorem ans_0 {a : Ans} : oIdx κ (ansD a) (.int 0) = some (.str (match a with | .S w _ => w | .X w _ _ => w)) := by
  cases a <;> (unfold ansD; rw [oIdx_tup, atI_0])
theorem opt_none {t : Option Int} : _root_.DL.isNon (optI t) = !t.isSome := by cases t <;> rfl
theorem zip_optI {L : List Lk} {e : List (Option Int)} : zipL (L.map lkD) (e.map optI) = (L.zip e).map fun (p : Lk × Option Int) => .tup [lkD p.1, optI p.2] := by
  unfold zipL List.zip
  rw [List.zipWith_map, List.map_zipWith]
theorem shows_explained_ok (w : WebOk n R L) (h : StOk n L s last) (k : Ki p q r u) (hl : last ≤ 100) {a : Ans} (ha : AnsOk a) :
    Tells (f_shows_explained [sweb n R L, kd p q r u, stD s, .int last, ansD a] κ) κ (Right (last + 1 + L.length) (stampR p q r u L s last) L s last a) := by
  have eW := stamp_web_ok (κ := κ) w h k hl
  have hR := stamp_bd (p := p) (q := q) (r := r) (u := u) w h
  have hRl := stamp_len (p := p) (q := q) (r := r) (u := u) (s := s) w hl
  have e2 : ∀ κ : Ka, oIdx κ (sweb n R L) (.int 2) = some (.tup (L.map lkD)) := fun κ => sw_2
  have hL := w.ll
  have hlen := h.len
  have es := fun (k : Nat) t (hk : s[k]? = some t) => st_at (κ := κ) hk
  have a0 := fun κ : Ka => ans_0 (κ := κ) (a := a)
  refine tells_wp ?_
  unfold f_shows_explained
  refine mean_wp ?_
  show wpS (m_shows_explained [.val (sweb n R L), .val (kd p q r u), .val (stD s), .val (.int last), .val (ansD a), .no, .no, .no] κ) _ _ _ _
  unfold m_shows_explained
  have nb1 := sw_nb (n := n) (R := R) (L := L)
  have nb2 := st_nb (s := s)
  have nbk : isBor (kd p q r u) = false := rfl
  have nbw : isBor (webD (last + 1 + L.length) (stampR p q r u L s last) []) = false := rfl
  generalize sweb n R L = W at *
  generalize stD s = S at *
  generalize kd p q r u = K at *
  generalize stampR p q r u L s last = T at *
  simp only [wpS_seq]
  cases a with
  | S wd ks =>
    obtain ⟨h1, h2, h3⟩ := ha
    obtain ⟨b, e5, hb⟩ := is_bad_ring_ok (n := last + 1 + L.length) (R := T) (rest := []) (κ := κ) h3
    have a1 : ∀ κ : Ka, oIdx κ (ansD (.S wd ks)) (.int 1) = some (.tup (ks.map D.int)) := fun κ => by unfold ansD; rw [oIdx_tup, atI_1]
    have c1 := cEqS h1 ok_strange
    have c2 := cNeS h1 ok_explained
    generalize ansD (.S wd ks) = A at *
    generalize webD (last + 1 + L.length) T [] = TW at *
    simp only at a0
    refine wpS_atom (ρ' := [.val W, .val K, .val S, .val (.int last), .val A, .val TW, .no, .no]) (k := κ) (by simp [eW, nbw]) ?_
    by_cases q1 : wd = "strange"
    · have c1' : cEq (.str wd) (.str "strange") = some true := by rw [c1, q1, beq_self_eq_true]
      refine wpS_atomR (d := .bl b) (k := κ) (by simp [a0, a1, c1', e5]) ⟨_, rfl, rfl, ?_⟩
      rw [hb]
      unfold Right
      simp [q1]
    · refine wpS_atom (k := κ) (ρ' := [.val W, .val K, .val S, .val (.int last), .val A, .val TW, .no, .no]) (by simp [a0, c1, q1]) ?_
      refine wpS_atomR (d := .bl false) (k := κ) (by simp [a0, c2, h2]) ⟨_, rfl, rfl, ?_⟩
      unfold Right
      simp [q1]
  | X wd c e =>
    obtain ⟨h1, h2, h3, h4⟩ := ha
    obtain ⟨b, e5, hb⟩ := keeps_ok (n := last + 1 + L.length) (R := T) (rest := []) (κ := κ) (ts := c ++ zeroed e) (fun x hx => ⟨(hR x hx).1, (hR x hx).2.1⟩) (by omega) (by omega)
    have a1 : ∀ κ : Ka, oIdx κ (ansD (.X wd c e)) (.int 1) = some (.tup (c.map D.int)) := fun κ => by unfold ansD; rw [oIdx_tup, atI_1]
    have a2 : ∀ κ : Ka, oIdx κ (ansD (.X wd c e)) (.int 2) = some (.tup (e.map optI)) := fun κ => by unfold ansD; rw [oIdx_tup, atI_2]
    have c1 := cEqS h1 ok_strange
    have c2 := cNeS h1 ok_explained
    generalize ansD (.X wd c e) = A at *
    generalize webD (last + 1 + L.length) T [] = TW at *
    simp only at a0
    refine wpS_atom (ρ' := [.val W, .val K, .val S, .val (.int last), .val A, .val TW, .no, .no]) (k := κ) (by simp [eW, nbw]) ?_
    refine wpS_atom (k := κ) (ρ' := [.val W, .val K, .val S, .val (.int last), .val A, .val TW, .no, .no]) (by simp [a0, c1, h2]) ?_
    by_cases q1 : wd = "explained"
    case neg =>
      refine wpS_atomR (d := .bl false) (k := κ) (by simp [a0, c2, q1]) ⟨_, rfl, rfl, ?_⟩
      unfold Right
      simp [q1]
    have c2' : cNe (.str wd) (.str "explained") = some false := by rw [c2, q1, beq_self_eq_true]; rfl
    by_cases q2 : c.length = last + 1
    case neg =>
      have q2' : ¬ ((c.length : Int) = (last : Int) + 1) := by omega
      refine wpS_atomR (d := .bl false) (k := κ) (by simp [a0, a1, c2', q2']) ⟨_, rfl, rfl, ⟨fun h => by simp at h, fun h => ?_⟩⟩
      exact absurd h.2.lc q2
    have q2' : (c.length : Int) = (last : Int) + 1 := by omega
    by_cases q3 : e.length = L.length
    case neg =>
      have q3' : ¬ ((e.length : Int) = (L.length : Int)) := by omega
      refine wpS_atomR (d := .bl false) (k := κ) (by simp [a0, a1, a2, e2, c2', q2', q3']) ⟨_, rfl, rfl, ⟨fun h => by simp at h, fun h => ?_⟩⟩
      exact absurd h.2.le q3
    have q3' : (e.length : Int) = (L.length : Int) := by omega
    refine wpS_atom (k := κ) (ρ' := [.val W, .val K, .val S, .val (.int last), .val A, .val TW, .no, .no]) (by simp [a0, a1, a2, e2, c2', q2', q3']) ?_
    rw [wpS_if, cnt_gt (κ1 := κ) (fun (p : Lk × Option Int) => .tup [lkD p.1, optI p.2]) (L.zip e) (fun p => !((!p.2.isSome) == !seenAt s p.1.b)) (by simp [e2, a2, zip_optI]) (by simp; omega) (fun p hp => ?_), wpE_ok]
    rotate_left
    · obtain ⟨l, t⟩ := p
      have hm := (List.of_mem_zip hp).1
      obtain ⟨l1, l2, _, _⟩ := w.lk l hm
      obtain ⟨tb, htb⟩ : ∃ t, s[l.b]? = some t := ⟨_, List.getElem?_eq_getElem (by omega)⟩
      have e1 := es l.b tb htb
      refine ⟨[.val W, .val K, .val S, .val (.int last), .val A, .val TW, .val (lkD l), .val (optI t)], by simp [lk_nb, optI_nb], ?_⟩
      have : seenAt s l.b = tb.isSome := by unfold seenAt; rw [htb]; rfl
      simp [lk_0, e1, opt_none, this]
    have no_iff : ((L.zip e).any fun p => !((!p.2.isSome) == !seenAt s p.1.b)) = true ↔ ¬ ∀ (b : Nat) (l : Lk) (t : Option Int), L[b]? = some l → e[b]? = some t → t.isSome = seenAt s l.b := by
      rw [List.any_eq_true]
      constructor
      · rintro ⟨⟨l, t⟩, hp, h5⟩ h6
        obtain ⟨b, hb'⟩ := List.mem_iff_getElem?.mp hp
        rw [List.getElem?_zip_eq_some] at hb'
        have := h6 b l t hb'.1 hb'.2
        simp only [this] at h5
        simp at h5
      · intro h6
        refine Classical.byContradiction fun h7 => h6 fun b l t hb1 hb2 => Classical.byContradiction fun h8 => h7 ⟨(l, t), List.mem_iff_getElem?.mpr ⟨b, by rw [List.getElem?_zip_eq_some]; exact ⟨hb1, hb2⟩⟩, ?_⟩
        cases h9 : t.isSome <;> cases h10 : seenAt s l.b <;> simp [h9, h10] at h8 ⊢
    by_cases q4 : ((L.zip e).any fun p => !((!p.2.isSome) == !seenAt s p.1.b)) = true
    · rw [if_pos q4]
      refine wpS_atomR (d := .bl false) (k := κ) (by simp) ⟨_, rfl, rfl, ⟨fun h => by simp at h, fun h => ?_⟩⟩
      exact absurd h.2.no (no_iff.mp q4)
    · rw [if_neg q4, wpS_next]
      have q5 := Classical.not_not.mp (fun h => q4 (no_iff.mpr h))
      refine wpS_atomR (d := .bl b) (k := κ) ?_ ⟨_, rfl, rfl, ?_⟩
      · have e6 := eComp_tyM (vs := [7]) (n := iAny true (eIdx (eVar 4) (eC (.int 2)))) (g := gNm 7) (e := eIf (bCmp cIs (eVar 7) (eC .non)) (eC (.int 0)) (eVar 7)) (ρ := [.val W, .val K, .val S, .val (.int last), .val A, .val TW, .no, .no]) (κ := κ) (κ1 := κ) optI e (fun t => .int (t.getD 0)) (by simp [a2]) (by omega) (fun t _ => ⟨_, gNm_ok optI_nb, rfl, by cases t <;> simp [optI]⟩)
        have e7 : (e.map fun t => D.int (t.getD 0)) = (zeroed e).map D.int := by simp [zeroed]
        rw [e7] at e6
        have e8 : c.map D.int ++ (zeroed e).map D.int = (c ++ zeroed e).map D.int := by rw [List.map_append]
        have e9 : (c.map D.int).length + ((zeroed e).map D.int).length ≤ 16777216 := by simp [zeroed]; omega
        rw [← e8] at e5
        generalize c.map D.int = C at *
        generalize (zeroed e).map D.int = E at *
        simp [a1, e6, e9, e5]
      · rw [hb]
        unfold Right
        exact ⟨fun h => ⟨q1, q2, q3, q5, h⟩, fun h => h.2.kp⟩
end
end SH
set_option Elab.async false
set_option linter.all false
set_option maxRecDepth 100000
set_option maxHeartbeats 4000000
/-! SHw: explain_answer. -/
namespace SH
open PySem L2 DL BF K82
section
variable {p q r u : Int} {n : Nat} {R : List Ru} {L : List Lk} {s : List (Option Int)} {last : Nat} {κ : Ka}
theorem seen_begin (w : WebOk n R L) (h : StOk n L s last) {b c : Nat} {l l' : Lk} (hb : L[b]? = some l) (hs : seenAt s l.b = true) (hc : lof L l.b = some c) (hl' : L[c]? = some l') : seenAt s l'.b = true := by
  obtain ⟨l2, h2, h3⟩ := lof_some hc
  rw [hl'] at h2; cases h2
  obtain ⟨x, hx⟩ := seen_some hs
  have hm := List.mem_of_getElem? hl'
  have h5 := (h.lk l' hm x (by rw [h3]; exact hx)).2
  have h6 := w.lk l' hm
  obtain ⟨t, ht⟩ : ∃ t, s[l'.b]? = some t := ⟨_, List.getElem?_eq_getElem (by have := h.len; omega)⟩
  cases t with
  | none => exact absurd ht h5
  | some y => exact seen_of ht
/-- the ends that a rule speaks of have begun -/
theorem stamp_touch (w : WebOk n R L) (h : StOk n L s last) {x : Ru} (hx : x ∈ stampR p q r u L s last) {b : Nat} {l : Lk} (hb : L[b]? = some l) (e : x.i = last + 1 + b ∨ x.j = last + 1 + b) : seenAt s l.b = true := by
  rcases stamp_mem.mp hx with ⟨a, i, hi, hx⟩ | ⟨b', l', hb', hs, hx⟩
  · unfold pairR at hx
    simp only [List.mem_cons, List.not_mem_nil, or_false] at hx
    rcases hx with rfl | rfl <;> simp at e <;> omega
  · have t1 : ∀ c, tmo L s last l'.b = last + 1 + c → lof L l'.b = some c := fun c hc => by
      obtain ⟨y, hy⟩ := seen_some hs
      have := h.bd y (List.mem_of_getElem? hy)
      unfold tmo at hc
      cases h1 : lof L l'.b with
      | none => rw [h1] at hc; simp only [hy, Option.getD_some] at hc; omega
      | some d => rw [h1] at hc; simp only at hc; congr 1; omega
    have k1 : tmo L s last l'.b = last + 1 + b → seenAt s l.b = true := fun hc => seen_begin w h hb' hs (t1 b hc) hb
    have k2 : last + 1 + b' = last + 1 + b → seenAt s l.b = true := fun hc => by
      have : b' = b := by omega
      subst this
      rw [hb'] at hb; cases hb; exact hs
    unfold linkR at hx
    simp only [List.mem_append, List.mem_cons, List.not_mem_nil, or_false] at hx
    rcases hx with (rfl | rfl) | hx
    · rcases e with e | e
      · exact k1 e
      · exact k2 e
    · rcases e with e | e
      · exact k2 e
      · exact k1 e
    · cases ht : s[l'.e]?.getD none with
      | none =>
        rw [ht] at hx
        simp [endR] at hx
        subst hx
        rcases e with e | e
        · exact k2 e
        · simp at e; omega
      | some y =>
        have hy : s[l'.e]? = some (some y) := by
          cases h4 : s[l'.e]? with
          | none => rw [h4] at ht; simp at ht
          | some t => rw [h4] at ht; simp at ht; rw [ht]
        have := h.bd y (List.mem_of_getElem? hy)
        rw [ht] at hx
        simp [endR] at hx
        rcases hx with rfl | rfl <;> rcases e with e | e <;> first | exact k2 e | (simp at e; omega)
/-- what is told from times -/
def endsT (L : List Lk) (s : List (Option Int)) (ts : List Int) : List (Option Int) := (L.zip ts).map fun p => if seenAt s p.1.b = true then some p.2 else none
theorem right_of (w : WebOk n R L) (h : StOk n L s last) (T : Nat → Int) (hT : ∀ x ∈ stampR p q r u L s last, T x.j ≤ T x.i + x.w) :
    RightX (last + 1 + L.length) (stampR p q r u L s last) L s last (((List.range (last + 1 + L.length)).map fun v => T v - T 0).take (last + 1)) (endsT L s (((List.range (last + 1 + L.length)).map fun v => T v - T 0).drop (last + 1))) := by
  have lc : (((List.range (last + 1 + L.length)).map fun v => T v - T 0).take (last + 1)).length = last + 1 := by simp
  have le : (endsT L s (((List.range (last + 1 + L.length)).map fun v => T v - T 0).drop (last + 1))).length = L.length := by simp [endsT]
  have ge : ∀ b l, L[b]? = some l → (endsT L s (((List.range (last + 1 + L.length)).map fun v => T v - T 0).drop (last + 1)))[b]? = some (if seenAt s l.b = true then some (T (last + 1 + b) - T 0) else none) := fun b l hb => by
    have hbl := (List.getElem?_eq_some_iff.mp hb).1
    unfold endsT
    rw [List.getElem?_map]
    have : (L.zip (((List.range (last + 1 + L.length)).map fun v => T v - T 0).drop (last + 1)))[b]? = some (l, T (last + 1 + b) - T 0) := by
      rw [List.getElem?_zip_eq_some]
      refine ⟨hb, ?_⟩
      rw [List.getElem?_drop, List.getElem?_map, List.getElem?_range (by omega)]; rfl
    rw [this]; rfl
  refine ⟨lc, le, fun b l t hb ht => ?_, ⟨by simp [zeroed, endsT], ?_, fun x hx => ?_⟩⟩
  · rw [ge b l hb] at ht
    cases ht
    split
    · rename_i q; simp [q]
    · rename_i q; simp [q]
  · unfold tmA gI
    rw [List.getD_eq_getElem?_getD, List.getElem?_append_left (by rw [lc]; omega), List.getElem?_take_of_lt (by omega), List.getElem?_map, List.getElem?_range (by omega)]
    simp
  · have key : ∀ v, (x.i = v ∨ x.j = v) → v < last + 1 + L.length → tmA ((((List.range (last + 1 + L.length)).map fun v => T v - T 0).take (last + 1)) ++ zeroed (endsT L s (((List.range (last + 1 + L.length)).map fun v => T v - T 0).drop (last + 1)))) v = T v - T 0 := fun v hv hlt => by
      unfold tmA gI
      rw [List.getD_eq_getElem?_getD]
      by_cases q1 : v < last + 1
      · rw [List.getElem?_append_left (by rw [lc]; omega), List.getElem?_take_of_lt q1, List.getElem?_map, List.getElem?_range hlt]
        rfl
      · rw [List.getElem?_append_right (by rw [lc]; omega), lc]
        have hb : L[v - (last + 1)]? = some (L[v - (last + 1)]'(by omega)) := List.getElem?_eq_getElem (by omega)
        have hs := stamp_touch w h hx hb (hv.imp (fun e => by omega) (fun e => by omega))
        unfold zeroed
        rw [List.getElem?_map, ge _ _ hb, if_pos hs]
        simp only [Option.map_some, Option.getD_some]
        rw [show last + 1 + (v - (last + 1)) = v by omega]
    obtain ⟨b1, b2, _⟩ := stamp_bd w h x hx
    rw [key x.j (.inr rfl) b2, key x.i (.inl rfl) b1]
    have := hT x hx
    omega
/-- explain_answer tells a right paper -/
theorem explain_ok (c : Nat) (w : WebOk n R L) (h : StOk n L s last) (k : Ki p q r u) (hl : last ≤ 100) (κ : Ka) :
    ∃ (t : Ka) (a : Ans), f_explain_answer c [sweb n R L, kd p q r u, stD s, .int last] κ = some (.ok (ansD a), κ ++ t) ∧ AnsOk a ∧ Right (last + 1 + L.length) (stampR p q r u L s last) L s last a ∧
      ((∃ ks, a = .S "strange" ks ∧ 0 < ks.length ∧ ks.length ≤ 2000) ∨ ∃ c e, a = .X "explained" c e) := by
  have hR := stamp_bd (p := p) (q := q) (r := r) (u := u) w h
  have eW := stamp_web_ok (κ := κ) w h k hl
  have hL := w.ll
  have hlen := h.len
  obtain ⟨t, hh⟩ := holds_ok (c := c) (rest := []) (fun x hx => ⟨(hR x hx).1, (hR x hx).2.1⟩) (fun x hx => (hR x hx).2.2) (by omega) (by omega) κ
  refine ⟨t, ?_⟩
  have e2 : ∀ κ : Ka, oIdx κ (sweb n R L) (.int 2) = some (.tup (L.map lkD)) := fun κ => sw_2
  have es := fun (k : Nat) t (hk : s[k]? = some t) (κ : Ka) => st_at (κ := κ) hk
  have nb1 := sw_nb (n := n) (R := R) (L := L)
  have nb2 := st_nb (s := s)
  have nbk : isBor (kd p q r u) = false := rfl
  have nbw : isBor (webD (last + 1 + L.length) (stampR p q r u L s last) []) = false := rfl
  have run : ∀ A κ', f_holds_answer c [webD (last + 1 + L.length) (stampR p q r u L s last) []] κ = some (.ok A, κ') → isBor A = false → ∀ (Q : D → Ka → Prop),
      wpS (((sSeq (sIf (bCmp cEq (eIdx (eVar 4) (eC (.int 0))) (eC (.str "ring"))) (sRet (eTup (aCons (eC (.str "strange")) (aCons (eIdx (eVar 4) (eC (.int 1))) aNil)))) sNext)
      (sSeq (sAsg (gNm 5) (eCut (eIdx (eVar 4) (eC (.int 1))) (sSome (eOp oAdd (eVar 3) (eC (.int 1)))) sNone))
      (sSeq (sAsg (gNm 6) (eFr (eComp [7, 8] (iZip2 true (eIdx (eVar 0) (eC (.int 2))) (eVar 5)) (gTu 2 (gsCons (gNm 7) (gsCons (gNm 8) gsNil))) bYes (eIf (bCmp cIs (eIdx (eVar 2) (eIdx (eVar 7) (eC (.int 0)))) (eC .non)) (eC .non) (eVar 8)))))
      (sRet (eTup (aCons (eC (.str "explained")) (aCons (eCut (eIdx (eVar 4) (eC (.int 1))) sNone (sSome (eOp oAdd (eVar 3) (eC (.int 1))))) (aCons (eBi bTuple (aCons (eVar 6) aNil)) aNil))))))))) [.val (sweb n R L), .val (kd p q r u), .val (stD s), .val (.int last), .val A, .no, .no, .no, .no] κ') (fun _ κ => Q .non κ) Q (fun _ _ => False) (fun _ _ => False) → wpE (f_explain_answer c [sweb n R L, kd p q r u, stD s, .int last] κ) Q := fun A κ' hA nA Q hq => by
    unfold f_explain_answer
    refine mean_wp ?_
    show wpS (m_explain_answer c [.val (sweb n R L), .val (kd p q r u), .val (stD s), .val (.int last), .no, .no, .no, .no, .no] κ) _ _ _ _
    unfold m_explain_answer
    rw [wpS_seq]
    generalize sweb n R L = W at *
    generalize stD s = S at *
    generalize kd p q r u = K at *
    generalize webD (last + 1 + L.length) (stampR p q r u L s last) [] = TW at *
    exact wpS_atom (k := κ') (ρ' := [.val W, .val K, .val S, .val (.int last), .val A, .no, .no, .no, .no]) (by simp [eW, nbw, hA, nA]) hq
  rcases hh with ⟨T, e1, hT⟩ | ⟨ks, e1, hr, hkl⟩
  · have ets : (tabN (last + 1 + L.length) fun v => D.int (T v - T 0)) = ((List.range (last + 1 + L.length)).map fun v => T v - T 0).map D.int := by simp [tabN]
    rw [ets] at e1
    have hX := right_of w h T hT
    have tsl : ((List.range (last + 1 + L.length)).map fun v => T v - T 0).length = last + 1 + L.length := by simp
    generalize hts : ((List.range (last + 1 + L.length)).map fun v => T v - T 0) = ts at *
    refine ⟨.X "explained" (ts.take (last + 1)) (endsT L s (ts.drop (last + 1))), ?_, ⟨ok_explained, by decide +kernel, by simp; omega, by simp [endsT]; omega⟩, ⟨rfl, hX⟩, .inr ⟨_, _, rfl⟩⟩
    refine eq_of_wp (run _ _ e1 rfl _ ?_)
    clear run e1
    generalize sweb n R L = W at *
    generalize kd p q r u = K at *
    generalize hS : stD s = S at *
    have cr : cEq (.str "holds") (.str "ring") = some false := by rw [cEqS ok_holds ok_ring]; congr 1
    simp only [wpS_seq]
    have c1 := cutF (enc := D.int) (l := ts) (v := (last : Int) + 1) (by omega)
    have c2 := cutT (enc := D.int) (l := ts) (v := (last : Int) + 1) (by omega)
    rw [show ((last : Int) + 1).toNat = last + 1 by omega] at c1 c2
    generalize hA : D.tup [.str "holds", .tup (ts.map D.int)] = A at *
    have a0 : ∀ κ : Ka, oIdx κ A (.int 0) = some (.str "holds") := fun κ => by rw [← hA, oIdx_tup, atI_0]
    have a1 : ∀ κ : Ka, oIdx κ A (.int 1) = some (.tup (ts.map D.int)) := fun κ => by rw [← hA, oIdx_tup, atI_1]
    refine wpS_atom (k := κ ++ t) (ρ' := [.val W, .val K, .val S, .val (.int last), .val A, .no, .no, .no, .no]) (by simp [a0, cr]) ?_
    refine wpS_atom (k := κ ++ t) (ρ' := [.val W, .val K, .val S, .val (.int last), .val A, .val (.tup ((ts.drop (last + 1)).map D.int)), .no, .no, .no]) (by simp only [sAsg_def, eCut_def, eIdx_def]; simp [a1]; simpa using c1) ?_
    have hz : zipL (L.map lkD) ((ts.drop (last + 1)).map D.int) = (L.zip (ts.drop (last + 1))).map fun (p : Lk × Int) => .tup [lkD p.1, .int p.2] := by
      unfold zipL List.zip
      rw [List.zipWith_map, List.map_zipWith]
    have e6 := eComp_tyM (vs := [7, 8]) (n := iZip2 true (eIdx (eVar 0) (eC (.int 2))) (eVar 5)) (g := gTu 2 (gsCons (gNm 7) (gsCons (gNm 8) gsNil))) (e := eIf (bCmp cIs (eIdx (eVar 2) (eIdx (eVar 7) (eC (.int 0)))) (eC .non)) (eC .non) (eVar 8)) (ρ := [.val W, .val K, .val S, .val (.int last), .val A, .val (.tup ((ts.drop (last + 1)).map D.int)), .no, .no, .no]) (κ := κ ++ t) (κ1 := κ ++ t) (fun (p : Lk × Int) => .tup [lkD p.1, .int p.2]) (L.zip (ts.drop (last + 1))) (fun p => optI (if seenAt s p.1.b = true then some p.2 else none)) (by
        generalize (ts.drop (last + 1)).map D.int = Z at *
        simp [e2, hz]) (by simp; omega) (fun p hp => by
      obtain ⟨l, x⟩ := p
      have hm := (List.of_mem_zip hp).1
      obtain ⟨l1, l2, _, _⟩ := w.lk l hm
      obtain ⟨tb, htb⟩ : ∃ t, s[l.b]? = some t := ⟨_, List.getElem?_eq_getElem (by omega)⟩
      have e1 := es l.b tb htb
      refine ⟨[.val W, .val K, .val S, .val (.int last), .val A, .val (.tup ((ts.drop (last + 1)).map D.int)), .no, .val (lkD l), .val (.int x)], by simp [lk_nb], optI_nb, ?_⟩
      have : seenAt s l.b = tb.isSome := by unfold seenAt; rw [htb]; rfl
      cases tb <;> simp [lk_0, e1, this, optI])
    have e7 : (L.zip (ts.drop (last + 1))).map (fun p => optI (if seenAt s p.1.b = true then some p.2 else none)) = (endsT L s (ts.drop (last + 1))).map optI := by unfold endsT; rw [List.map_map]; rfl
    rw [e7] at e6
    refine wpS_atom (k := κ ++ t) (ρ' := [.val W, .val K, .val S, .val (.int last), .val A, .val (.tup ((ts.drop (last + 1)).map D.int)), .val (.lst ((endsT L s (ts.drop (last + 1))).map optI)), .no, .no]) (by rw [sAsg_def, eFr_def, e6]; simp) ?_
    refine wpS_atomR (d := ansD (.X "explained" (ts.take (last + 1)) (endsT L s (ts.drop (last + 1))))) (k := κ ++ t) ?_ ⟨rfl, rfl⟩
    show _ = some (Out.rt (.tup [.str "explained", .tup ((ts.take (last + 1)).map D.int), .tup ((endsT L s (ts.drop (last + 1))).map optI)]), κ ++ t)
    generalize (endsT L s (ts.drop (last + 1))).map optI = E at *
    generalize (ts.take (last + 1)).map D.int = Z at *
    generalize (ts.drop (last + 1)).map D.int = Z' at *
    generalize ts.map D.int = Z'' at *
    simp [a1, c2]
  · refine ⟨.S "strange" ks, ?_, ⟨ok_strange, by decide +kernel, by omega⟩, ⟨rfl, isRing_bad hr⟩, .inl ⟨ks, rfl, hr.ex.elim fun rs h => h.2.1, by omega⟩⟩
    refine eq_of_wp (run _ _ e1 rfl _ ?_)
    rw [wpS_seq]
    have cr : cEq (.str "ring") (.str "ring") = some true := by rw [cEqS ok_ring ok_ring, beq_self_eq_true]
    refine wpS_atomR (d := ansD (.S "strange" ks)) (k := κ ++ t) (by unfold ansD; simp [cr]) ⟨rfl, rfl⟩
end
end SH
set_option Elab.async false
set_option linter.all false
set_option maxRecDepth 100000
set_option maxHeartbeats 4000000
/-! SHx: the drawn seen web. -/
namespace SH
open PySem L2 DL BF K82
theorem take_at (r : List Int) (t i many : Int) (h0 : 0 ≤ i) (hm : 0 < many) : ∃ v : Nat, f__law_take [dealD r t, .int many] (at_ i) = some (.ok (.int v), at_ (i + 1)) ∧ (v : Int) < many := by
  obtain ⟨v, e, v0, v1⟩ := take_ok r t i many h0 hm
  obtain ⟨k, rfl⟩ := Int.eq_ofNat_of_zero_le v0
  exact ⟨k, e, v1⟩
theorem seen_web_ok (r : List Int) (t i : Int) (hi : 0 ≤ i) {m : Nat} (m2 : 2 ≤ m) (m6 : m ≤ 100) : ∃ (R : List Ru) (L : List Lk) (j : Int), f__law_seen_web [dealD r t, .int m] (at_ i) = some (.ok (sweb m R L), at_ j) ∧ WebOk m R L ∧ 0 ≤ j ∧ L.length ≤ 3 ∧ R.length ≤ 5 := by
  suffices h : wpE (f__law_seen_web [dealD r t, .int m] (at_ i)) fun d κ => ∃ (R : List Ru) (L : List Lk) (j : Int), d = sweb m R L ∧ κ = at_ j ∧ WebOk m R L ∧ 0 ≤ j ∧ L.length ≤ 3 ∧ R.length ≤ 5 by
    obtain ⟨d, κ, e, R, L, j, rfl, rfl, h⟩ := wpE_eq.mp h
    exact ⟨R, L, j, e, h⟩
  unfold f__law_seen_web
  refine mean_wp ?_
  show wpS (m__law_seen_web [.val (dealD r t), .val (.int m), .no, .no, .no, .no, .no, .no, .no, .no, .no] (at_ i)) _ _ _ _
  unfold m__law_seen_web
  simp only [wpS_seq]
  have take := fun i many h0 hm => take_at r t i many h0 hm
  have nbd : isBor (dealD r t) = false := rfl
  generalize dealD r t = DD at *
  obtain ⟨w, e1, w1⟩ := take i 4 hi (by omega)
  refine wpS_atom (k := at_ i) (ρ' := [.val DD, .val (.int m), .own [], .no, .no, .no, .no, .no, .no, .no, .no]) (by simp) ?_
  refine wpS_atom (k := at_ i) (ρ' := [.val DD, .val (.int m), .own [], .own [], .no, .no, .no, .no, .no, .no, .no]) (by simp) ?_
  refine wpS_forE (κ1 := at_ (i + 1)) (rangeD 0 w) (by
    have : okR (w : Int) := ⟨by omega, by omega⟩
    simp [e1, bRange1, this]) (fun a ρ κ => ∃ (L : List Lk) (j : Int) (z4 z5 z6 z7 : Sl), κ = at_ j ∧ 0 ≤ j ∧ ρ = [.val DD, .val (.int m), .own (L.map lkD), .own ((L.map fun l => (l.e : Int)).map D.int), z4, z5, z6, z7, .no, .no, .no] ∧ L.length ≤ a ∧ (∀ l ∈ L, l.b < l.e ∧ l.e < m ∧ 1 ≤ l.lo ∧ l.lo ≤ l.hi) ∧ (L.map Lk.e).Nodup) ⟨[], i + 1, .no, .no, .no, .no, rfl, by omega, rfl, by simp, by simp, by simp⟩ ?_ ?_
  · rintro a d ρ κ hd ⟨L, j, z4, z5, z6, z7, rfl, hj, rfl, hl, hL, hn⟩
    obtain ⟨rfl, ha⟩ := mem_range hd
    refine ⟨_, rfl, ?_⟩
    simp only [wpS_seq]
    obtain ⟨x1, f1, g1⟩ := take j ((m : Int) - 1) hj (by omega)
    obtain ⟨x2, f2, g2⟩ := take (j + 1) (1 + (x1 : Int)) (by omega) (by omega)
    obtain ⟨x3, f3, g3⟩ := take (j + 1 + 1) 4 (by omega) (by omega)
    obtain ⟨x4, f4, g4⟩ := take (j + 1 + 1 + 1) 4 (by omega) (by omega)
    refine wpS_atom (k := at_ (j + 1)) (ρ' := [.val DD, .val (.int m), .own (L.map lkD), .own ((L.map fun l => (l.e : Int)).map D.int), .val (.int (0 + (a : Int))), .val (.int (1 + (x1 : Int))), z6, z7, .no, .no, .no]) (by simp [f1]) ?_
    refine wpS_atom (k := at_ (j + 1 + 1)) (ρ' := [.val DD, .val (.int m), .own (L.map lkD), .own ((L.map fun l => (l.e : Int)).map D.int), .val (.int (0 + (a : Int))), .val (.int (1 + (x1 : Int))), .val (.int x2), z7, .no, .no, .no]) (by simp [f2]) ?_
    have ec : cNotIn (.int (1 + (x1 : Int))) (.bor ((L.map fun l => (l.e : Int)).map D.int)) = some (!((L.map fun l => (l.e : Int)).any fun e => e == 1 + (x1 : Int))) := by
      have := cIn_ints (1 + (x1 : Int)) (L.map fun l => (l.e : Int))
      unfold cNotIn
      have e2 : cIn (.int (1 + (x1 : Int))) (.bor ((L.map fun l => (l.e : Int)).map D.int)) = cIn (.int (1 + (x1 : Int))) (.lst ((L.map fun l => (l.e : Int)).map D.int)) := rfl
      rw [e2, this]; rfl
    rw [wpS_if]
    refine wpE_atom (a := !((L.map fun l => (l.e : Int)).any fun e => e == 1 + (x1 : Int))) (k := at_ (j + 1 + 1)) (by
      generalize ((L.map fun l => (l.e : Int)).any fun e => e == 1 + (x1 : Int)) = B at *
      generalize (L.map fun l => (l.e : Int)).map D.int = Z at *
      simp [ec]) ?_
    by_cases q : ((L.map fun l => (l.e : Int)).any fun e => e == 1 + (x1 : Int)) = true
    · rw [if_neg (by rw [q]; simp), wpS_next]
      exact ⟨L, j + 1 + 1, _, _, _, _, rfl, by omega, rfl, by omega, hL, hn⟩
    · rw [if_pos (by simpa using q)]
      simp only [wpS_seq]
      have hl2 : ¬ 16777216 ≤ L.length := by omega
      have hl3 : ((L.map fun l => (l.e : Int)).map D.int).length = L.length := by simp
      have hl4 : (L.map lkD).length = L.length := by simp
      generalize hZ : (L.map fun l => (l.e : Int)).map D.int = Z at *
      generalize hY : L.map lkD = Y at *
      refine wpS_atom (k := at_ (j + 1 + 1)) (ρ' := [.val DD, .val (.int m), .own Y, .own (Z ++ [.int (1 + (x1 : Int))]), .val (.int (0 + (a : Int))), .val (.int (1 + (x1 : Int))), .val (.int x2), z7, .no, .no, .no]) (by simp [hl3, hl2]) ?_
      refine wpS_atom (k := at_ (j + 1 + 1 + 1)) (ρ' := [.val DD, .val (.int m), .own Y, .own (Z ++ [.int (1 + (x1 : Int))]), .val (.int (0 + (a : Int))), .val (.int (1 + (x1 : Int))), .val (.int x2), .val (.int (1 + (x3 : Int))), .no, .no, .no]) (by simp [f3]) ?_
      refine wpS_atom (k := at_ (j + 1 + 1 + 1 + 1)) (ρ' := [.val DD, .val (.int m), .own (Y ++ [.tup [.int x2, .int (1 + (x1 : Int)), .int (1 + (x3 : Int)), .int (1 + (x3 : Int) + x4)]]), .own (Z ++ [.int (1 + (x1 : Int))]), .val (.int (0 + (a : Int))), .val (.int (1 + (x1 : Int))), .val (.int x2), .val (.int (1 + (x3 : Int))), .no, .no, .no]) (by simp [f4, hl4, hl2]) ?_
      refine ⟨L ++ [⟨x2, 1 + x1, 1 + (x3 : Int), 1 + (x3 : Int) + x4⟩], j + 1 + 1 + 1 + 1, .val (.int (0 + (a : Int))), .val (.int (1 + (x1 : Int))), .val (.int x2), .val (.int (1 + (x3 : Int))), rfl, by omega, ?_, by simp; omega, ?_, ?_⟩
      · rw [← hZ, ← hY]
        simp [lkD]
      · intro l hlm
        rcases List.mem_append.mp hlm with h | h
        · exact hL l h
        · simp at h
          subst h
          simp
          omega
      · rw [List.map_append, List.nodup_append]
        refine ⟨hn, by simp, ?_⟩
        intro x hx y hy
        simp at hy
        subst hy
        intro e
        obtain ⟨l, hl5, hle⟩ := List.mem_map.mp hx
        apply q
        rw [List.any_eq_true]
        exact ⟨(l.e : Int), List.mem_map.mpr ⟨l, hl5, rfl⟩, by simp; omega⟩
  · rintro ρ κ ⟨L, j, z4, z5, z6, z7, rfl, hj, rfl, hl, hL, hn⟩
    rw [range_len] at hl
    have hl3 : L.length ≤ 3 := by omega
    obtain ⟨w, e1, w1⟩ := take j 6 hj (by omega)
    refine wpS_atom (k := at_ j) (ρ' := [.val DD, .val (.int m), .own (L.map lkD), .own ((L.map fun l => (l.e : Int)).map D.int), z4, z5, z6, z7, .own [], .no, .no]) (by simp) ?_
    generalize hZ : (L.map fun l => (l.e : Int)).map D.int = Z at *
    generalize hY : L.map lkD = Y at *
    refine wpS_forE (κ1 := at_ (j + 1)) (rangeD 0 w) (by
      have : okR (w : Int) := ⟨by omega, by omega⟩
      simp [e1, bRange1, this]) (fun a ρ κ => ∃ (R : List Ru) (j : Int) (z4 z9 z10 : Sl), κ = at_ j ∧ 0 ≤ j ∧ ρ = [.val DD, .val (.int m), .own Y, .own Z, z4, z5, z6, z7, .own (R.map ruD), z9, z10] ∧ R.length ≤ a ∧ (∀ x ∈ R, x.i < m ∧ x.j < m ∧ x.i ≠ x.j)) ⟨[], j + 1, z4, .no, .no, rfl, by omega, rfl, by simp, by simp⟩ ?_ ?_
    · rintro a d ρ κ hd ⟨R, j, z4, z9, z10, rfl, hj, rfl, hr, hR⟩
      obtain ⟨rfl, ha⟩ := mem_range hd
      refine ⟨_, rfl, ?_⟩
      simp only [wpS_seq]
      obtain ⟨x1, f1, g1⟩ := take j (m : Int) hj (by omega)
      obtain ⟨x2, f2, g2⟩ := take (j + 1) ((m : Int) - 1) (by omega) (by omega)
      obtain ⟨x3, f3, g3⟩ := take (j + 1 + 1) 20 (by omega) (by omega)
      obtain ⟨x4, f4, g4⟩ := take (j + 1 + 1 + 1) 2 (by omega) (by omega)
      have hm : oMod (.int ((x1 : Int) + 1 + x2)) (.int m) = some (.int ((x1 + 1 + x2) % m : Nat)) := by
        rw [oMod_int (by omega)]
        have : Int.fmod ((x1 + 1 + x2 : Nat) : Int) (m : Int) = (((x1 + 1 + x2) % m : Nat) : Int) := by rw [Int.fmod_eq_emod_of_nonneg _ (by omega)]; rfl
        rw [← this]; rfl
      have hne : x1 ≠ (x1 + 1 + x2) % m := by
        by_cases h : x1 + 1 + x2 < m
        · rw [Nat.mod_eq_of_lt h]; omega
        · rw [Nat.mod_eq_sub_mod (by omega), Nat.mod_eq_of_lt (by omega)]; omega
      have hlt : (x1 + 1 + x2) % m < m := Nat.mod_lt _ (by omega)
      generalize (x1 + 1 + x2) % m = y at *
      refine wpS_atom (k := at_ (j + 1)) (ρ' := [.val DD, .val (.int m), .own Y, .own Z, .val (.int (0 + (a : Int))), z5, z6, z7, .own (R.map ruD), .val (.int x1), z10]) (by simp [f1]) ?_
      refine wpS_atom (k := at_ (j + 1 + 1)) (ρ' := [.val DD, .val (.int m), .own Y, .own Z, .val (.int (0 + (a : Int))), z5, z6, z7, .own (R.map ruD), .val (.int x1), .val (.int y)]) (by simp [f2, hm]) ?_
      have hr2 : ¬ 16777216 ≤ R.length := by omega
      obtain ⟨z, hz⟩ : ∃ z : Int, atI [D.int 2, D.int 7] (x4 : Int) = some (.int z) := by
        have : x4 = 0 ∨ x4 = 1 := by omega
        rcases this with rfl | rfl
        · exact ⟨2, by simp⟩
        · exact ⟨7, by simp⟩
      refine wpS_atom (k := at_ (j + 1 + 1 + 1 + 1)) (ρ' := [.val DD, .val (.int m), .own Y, .own Z, .val (.int (0 + (a : Int))), z5, z6, z7, .own ((R ++ [(⟨x1, y, x3 - z⟩ : Ru)]).map ruD), .val (.int x1), .val (.int y)]) (by simp [f3, f4, hr2, hz, ruD]) ?_
      refine ⟨_, j + 1 + 1 + 1 + 1, _, _, _, rfl, by omega, rfl, by simp; omega, ?_⟩
      intro x hx
      rcases List.mem_append.mp hx with h | h
      · exact hR x h
      · simp at h
        subst h
        exact ⟨by simp; omega, hlt, hne⟩
    · rintro ρ κ ⟨R, j, z4, z9, z10, rfl, hj, rfl, hr, hR⟩
      rw [range_len] at hr
      refine wpS_atomR (d := sweb m R L) (k := at_ j) ?_ ⟨R, L, j, rfl, rfl, ⟨by omega, by omega, hL, hn, by omega, by omega, hR⟩, hj, hl3, by omega⟩
      unfold sweb webD
      rw [hY]
      simp
end SH
set_option Elab.async false
set_option linter.all false
set_option maxRecDepth 100000
set_option maxHeartbeats 4000000
/-! SHz: potentials; a day tick by tick, plain (K86's lemmas, shared). -/
namespace SH
open PySem L2 DL BF K82
theorem idxOf_lof (k : Nat) : ∀ L : List Lk, idxOf (k : Int) (L.map fun l => (l.e : Int)) = lof L k
  | [] => rfl
  | l :: L => by
    rw [List.map_cons, idxOf, lof, List.findIdx?_cons]
    by_cases q : l.e = k
    · simp [q]
    · have q' : ¬ (l.e : Int) = (k : Int) := by omega
      rw [if_neg q', idxOf_lof k L]
      simp [q, lof]
theorem any_lof (k : Nat) (L : List Lk) : ((L.map fun l => (l.e : Int)).any fun e => e == (k : Int)) = (lof L k).isSome := by
  unfold lof
  rw [List.findIdx?_isSome, List.any_map]
  congr 1
  funext l
  simp only [Function.comp]
  rw [Bool.eq_iff_iff]; simp; omega
theorem pot_walk {R : List Ru} {P : Nat → Int} (h : ∀ x ∈ R, P x.j ≤ P x.i + x.w) {a b : Nat} {x : Int} (w : Wk R a b x) : P b ≤ P a + x := by
  induction w with
  | nil => omega
  | snoc _ hr e ih => have := h _ hr; rw [e] at this; omega
theorem pot_good {n : Nat} {R : List Ru} {P : Nat → Int} (h : ∀ x ∈ R, P x.j ≤ P x.i + x.w) : ¬ Bad n R := by
  rintro ⟨a, x, _, w, hx⟩
  have := pot_walk h w
  omega
section
variable {p q r u : Int} {n : Nat} {R : List Ru} {L : List Lk} {s : List (Option Int)} {last : Nat} {κ : Ka}
theorem right_good {N : Nat} {T : List Ru} {c : List Int} {e : List (Option Int)} (h : RightX N T L s last c e) : ¬ Bad N T :=
  pot_good (P := tmA (c ++ zeroed e)) fun x hx => by have := h.kp.ru x hx; omega
theorem sm_web (N : Nat) {T : List Ru} (hT : T.length ≤ 1000000) : Sm 12 (webD N T []) := by
  unfold webD
  refine .tup (fun d hd => ?_) (by simp)
  simp only [List.mem_cons, List.not_mem_nil, or_false] at hd
  rcases hd with rfl | rfl
  · exact .int
  · refine .tup (fun d hd => ?_) (by simp; omega)
    obtain ⟨x, _, rfl⟩ := List.mem_map.mp hd
    unfold ruD
    refine .tup (fun d hd => ?_) (by simp)
    simp only [List.mem_cons, List.not_mem_nil, or_false] at hd
    rcases hd with rfl | rfl | rfl <;> exact .int
end
abbrev Os := List (Option Int)
structure Dy (n : Nat) (L : List Lk) (lens : List Int) (F : Int → Int) (x1 lowb : Int) (S M : Os) : Prop where
  ls : S.length = n
  lm : M.length = n
  z : S[0]? = some (some 0)
  zm : M[0]? = some (some 0)
  st : ∀ (k : Nat) x, S[k]? = some (some x) → 0 ≤ x ∧ x ≤ x1
  sm : ∀ k : Nat, seenAt S k = seenAt M k
  ow : ∀ (k : Nat) x y, S[k]? = some (some x) → M[k]? = some (some y) → lof L k = none → y = F x
  en : ∀ (b : Nat) (l : Lk) x y, L[b]? = some l → S[l.e]? = some (some x) → M[l.e]? = some (some y) → ∃ z, M[l.b]? = some (some z) ∧ y = z + gI lens b ∧ 1 ≤ x ∧ F (x - 1) < y ∧ y ≤ F x
  pe : ∀ (b : Nat) (l : Lk) z, L[b]? = some l → M[l.e]? = some none → M[l.b]? = some (some z) → lowb < z + gI lens b
section
variable {n : Nat} {L : List Lk} {lens : List Int} {F : Int → Int} {x1 lowb : Int} {S M : Os} {R : List Ru}
theorem get_set {α : Type} {l : List α} {i k : Nat} {x : α} (h : i < l.length) : (l.set i x)[k]? = if k = i then some x else l[k]? := by
  rw [List.getElem?_set]
  by_cases q : i = k
  · subst q; simp [h]
  · rw [if_neg q, if_neg (fun e => q e.symm)]
theorem seen_set {S : Os} {i k : Nat} {x : Int} (h : i < S.length) : seenAt (S.set i (some x)) k = if k = i then true else seenAt S k := by
  unfold seenAt
  rw [get_set h]
  split <;> rfl
theorem none_of {S : Os} {k : Nat} (h : k < S.length) (q : seenAt S k = false) : S[k]? = some none := by
  rw [List.getElem?_eq_getElem h]
  unfold seenAt at q
  rw [List.getElem?_eq_getElem h] at q
  congr 1
  simpa using q
theorem seen_none {S : Os} {k : Nat} (h : S[k]? = some none) : seenAt S k = false := by unfold seenAt; rw [h]; rfl
/-- a link ends -/
theorem Dy.endL (w : WebOk n R L) (hl : ∀ (b : Nat) l, L[b]? = some l → 1 ≤ gI lens b) (d : Dy n L lens F x1 lowb S M) (hx : 1 ≤ x1) (hlow : lowb = F (x1 - 1)) {b : Nat} {l : Lk} {z : Int} (hb : L[b]? = some l) (he : M[l.e]? = some none) (hz : M[l.b]? = some (some z)) (hF : z + gI lens b ≤ F x1) :
    Dy n L lens F x1 lowb (S.set l.e (some x1)) (M.set l.e (some (z + gI lens b))) := by
  have wl := w.lk l (List.mem_of_getElem? hb)
  have ls := d.ls
  have lm := d.lm
  have e1 : l.e < S.length := by omega
  have e2 : l.e < M.length := by omega
  have hlow2 := d.pe b l z hb he hz
  have lofe := lof_nd w.nd hb
  refine ⟨by simp [ls], by simp [lm], ?_, ?_, ?_, ?_, ?_, ?_, ?_⟩
  · rw [get_set e1, if_neg (by omega)]; exact d.z
  · rw [get_set e2, if_neg (by omega)]; exact d.zm
  · intro k x hk
    rw [get_set e1] at hk
    split at hk
    · cases hk; omega
    · exact d.st k x hk
  · intro k
    rw [seen_set e1, seen_set e2, d.sm]
  · intro k x y hx' hy hk
    rw [get_set e1] at hx'
    rw [get_set e2] at hy
    split at hx'
    · rename_i q; subst q; rw [lofe] at hk; cases hk
    · rename_i q; rw [if_neg q] at hy; exact d.ow k x y hx' hy hk
  · intro b' l' x y hb' hx' hy
    rw [get_set e1] at hx'
    rw [get_set e2] at hy
    by_cases q : l'.e = l.e
    · have : b' = b := by
        have h1 := lof_nd w.nd hb'
        rw [q, lofe] at h1; cases h1; rfl
      subst this
      rw [hb] at hb'; cases hb'
      rw [if_pos rfl] at hx' hy
      cases hx'; cases hy
      refine ⟨z, ?_, rfl, hx, by rw [← hlow]; exact hlow2, hF⟩
      rw [get_set e2, if_neg (by omega)]; exact hz
    · rw [if_neg q] at hx' hy
      obtain ⟨z', h1, h2⟩ := d.en b' l' x y hb' hx' hy
      refine ⟨z', ?_, h2⟩
      rw [get_set e2, if_neg (fun e => by rw [e, he] at h1; cases h1)]
      exact h1
  · intro b' l' z' hb' he' hz'
    rw [get_set e2] at he' hz'
    split at he'
    · cases he'
    · split at hz'
      · cases hz'
        have := hl b' l' hb'
        omega
      · exact d.pe b' l' z' hb' he' hz'
/-- an own moment begins -/
theorem Dy.own (w : WebOk n R L) (hl : ∀ (b : Nat) l, L[b]? = some l → 1 ≤ gI lens b) (d : Dy n L lens F x1 lowb S M) (h0 : 0 ≤ x1) (hlow : lowb ≤ F x1) {k : Nat} (hk : k < n) (ho : lof L k = none) (hn : S[k]? = some none) :
    Dy n L lens F x1 lowb (S.set k (some x1)) (M.set k (some (F x1))) := by
  have ls := d.ls
  have lm := d.lm
  have e1 : k < S.length := by omega
  have e2 : k < M.length := by omega
  have k0 : k ≠ 0 := fun e => by subst e; rw [d.z] at hn; cases hn
  have nm : M[k]? = some none := none_of e2 (by rw [← d.sm]; exact seen_none hn)
  refine ⟨by simp [ls], by simp [lm], ?_, ?_, ?_, ?_, ?_, ?_, ?_⟩
  · rw [get_set e1, if_neg (fun e => k0 e.symm)]; exact d.z
  · rw [get_set e2, if_neg (fun e => k0 e.symm)]; exact d.zm
  · intro k' x hk'
    rw [get_set e1] at hk'
    split at hk'
    · cases hk'; omega
    · exact d.st k' x hk'
  · intro k'
    rw [seen_set e1, seen_set e2, d.sm]
  · intro k' x y hx' hy hk'
    rw [get_set e1] at hx'
    rw [get_set e2] at hy
    split at hx'
    · rename_i q; rw [if_pos q] at hy; cases hx'; cases hy; rfl
    · rename_i q; rw [if_neg q] at hy; exact d.ow k' x y hx' hy hk'
  · intro b' l' x y hb' hx' hy
    have ne : l'.e ≠ k := lof_none ho l' (List.mem_of_getElem? hb')
    rw [get_set e1, if_neg ne] at hx'
    rw [get_set e2, if_neg ne] at hy
    obtain ⟨z', h1, h2⟩ := d.en b' l' x y hb' hx' hy
    refine ⟨z', ?_, h2⟩
    rw [get_set e2, if_neg (fun e => by rw [e, nm] at h1; cases h1)]
    exact h1
  · intro b' l' z' hb' he' hz'
    have ne : l'.e ≠ k := lof_none ho l' (List.mem_of_getElem? hb')
    rw [get_set e2, if_neg ne] at he'
    rw [get_set e2] at hz'
    split at hz'
    · cases hz'
      have := hl b' l' hb'
      omega
    · exact d.pe b' l' z' hb' he' hz'
/-- no link is due -/
def Fix (L : List Lk) (lens : List Int) (f : Int) (M : Os) (m : Nat) : Prop := ∀ (b : Nat) (l : Lk) z, b < m → L[b]? = some l → M[l.e]? = some none → M[l.b]? = some (some z) → f < z + gI lens b
/-- how many links have not ended -/
def unE (L : List Lk) (M : Os) : Nat := (L.filter fun l => !seenAt M l.e).length
theorem filter_lt {α : Type} {p p' : α → Bool} : ∀ (L : List α), (∀ a ∈ L, p' a = true → p a = true) → (∃ a ∈ L, p a = true ∧ p' a = false) → (L.filter p').length < (L.filter p).length
  | [], _, h => by obtain ⟨a, h, _⟩ := h; simp at h
  | a :: L, h, hx => by
    have le : ∀ L : List α, (∀ a ∈ L, p' a = true → p a = true) → (L.filter p').length ≤ (L.filter p).length := by
      intro L
      induction L with
      | nil => intro _; simp
      | cons a L ih =>
        intro h
        have := ih fun a ha => h a (by simp [ha])
        rw [List.filter_cons, List.filter_cons]
        by_cases q : p' a = true
        · rw [if_pos q, if_pos (h a (by simp) q)]; simp; exact this
        · rw [if_neg q]
          split
          · simp; omega
          · exact this
    rw [List.filter_cons, List.filter_cons]
    obtain ⟨b, hb, h1, h2⟩ := hx
    have hL := le L fun a ha => h a (by simp [ha])
    by_cases q : p' a = true
    · rw [if_pos q, if_pos (h a (by simp) q)]
      simp only [List.length_cons]
      have : b ∈ L := by
        rcases List.mem_cons.mp hb with rfl | hb
        · rw [h2] at q; cases q
        · exact hb
      have := filter_lt L (fun a ha => h a (by simp [ha])) ⟨b, this, h1, h2⟩
      omega
    · rw [if_neg q]
      by_cases q2 : p a = true
      · rw [if_pos q2]; simp; omega
      · rw [if_neg q2]
        have : b ∈ L := by
          rcases List.mem_cons.mp hb with rfl | hb
          · exact absurd h1 q2
          · exact hb
        exact filter_lt L (fun a ha => h a (by simp [ha])) ⟨b, this, h1, h2⟩
theorem unE_set {b : Nat} {l : Lk} {y : Int} (hb : L[b]? = some l) (he : M[l.e]? = some none) : unE L (M.set l.e (some y)) < unE L M := by
  have e2 : l.e < M.length := (List.getElem?_eq_some_iff.mp he).1
  unfold unE
  refine filter_lt L (fun a _ h => ?_) ⟨l, List.mem_of_getElem? hb, by rw [seen_none he]; rfl, by rw [seen_set e2, if_pos rfl]; rfl⟩
  rw [seen_set e2] at h
  split at h
  · cases h
  · exact h
theorem unE_zero (h : unE L M = 0) : ∀ l ∈ L, seenAt M l.e = true := by
  intro l hl
  unfold unE at h
  rw [List.length_eq_zero_iff, List.filter_eq_nil_iff] at h
  have := h l hl
  simpa using this
theorem unE_le : unE L M ≤ L.length := List.length_filter_le _ _
theorem unE_fix (h : unE L M = 0) (f : Int) (m : Nat) : Fix L lens f M m := fun b l z _ hb he _ => by
  have := unE_zero h l (List.mem_of_getElem? hb)
  rw [seen_none he] at this; cases this
/-! ### what a day tells -/
theorem Dy.stOk (w : WebOk n R L) (d : Dy n L lens F x1 lowb S M) (h0 : 0 ≤ x1) : StOk n L S x1 := by
  refine ⟨h0, d.ls, d.z, fun x hx => ?_, fun l hl x hx => ?_⟩
  · obtain ⟨k, hk⟩ := List.mem_iff_getElem?.mp hx
    exact d.st k x hk
  · obtain ⟨b, hb⟩ := List.mem_iff_getElem?.mp hl
    have : seenAt M l.e = true := by rw [← d.sm]; exact seen_of hx
    obtain ⟨y, hy⟩ := seen_some this
    obtain ⟨z, h1, _, h3, _⟩ := d.en b l x y hb hx hy
    refine ⟨h3, fun q => ?_⟩
    have := seen_none q
    rw [d.sm, seen_of h1] at this; cases this
/-- the true minutes, by moments of the stamp web -/
def truT (L : List Lk) (lens : List Int) (F : Int → Int) (M : Os) (last v : Nat) : Int := if v ≤ last then F v else match L[v - (last + 1)]? with
  | some l => ((M[l.b]?.getD none).getD 0) + gI lens (v - (last + 1))
  | none => 0
theorem truT_end {last b : Nat} {l : Lk} {z : Int} (hb : L[b]? = some l) (hz : M[l.b]? = some (some z)) : truT L lens F M last (last + 1 + b) = z + gI lens b := by
  unfold truT
  rw [if_neg (by omega), show last + 1 + b - (last + 1) = b by omega, hb]
  simp only [hz, Option.getD_some]
theorem truT_seen (w : WebOk n R L) {last : Nat} (d : Dy n L lens F last lowb S M) {k : Nat} {x y : Int} (hx : S[k]? = some (some x)) (hy : M[k]? = some (some y)) : truT L lens F M last (tmo L S last k) = y := by
  have := d.st k x hx
  unfold tmo
  cases ho : lof L k with
  | none =>
    simp only [hx, Option.getD_some]
    unfold truT
    rw [if_pos (by omega), d.ow k x y hx hy ho, show ((x.toNat : Nat) : Int) = x by omega]
  | some c =>
    obtain ⟨l, h1, h2⟩ := lof_some ho
    subst h2
    obtain ⟨z, h3, h4, _⟩ := d.en c l x y h1 hx hy
    rw [truT_end h1 h3, h4]
theorem Dy.keeps (w : WebOk n R L) {last : Nat} {p q r u : Int} (k : Ki p q r u) (hl : ∀ (b : Nat) l, L[b]? = some l → l.lo ≤ gI lens b ∧ gI lens b ≤ l.hi) (d : Dy n L lens F last (F last) S M) (hF : Good p q r u (last + 1) F) :
    ∀ x ∈ stampR p q r u L S last, truT L lens F M last x.j ≤ truT L lens F M last x.i + x.w := by
  intro x hx
  rcases stamp_mem.mp hx with ⟨a, i, hi, hx⟩ | ⟨b, l, hb, hs, hx⟩
  · have h1 := hF a (a + 1 + i : Nat) (by omega) (by omega) (by omega)
    unfold Ok at h1
    have e1 : truT L lens F M last a = F a := by unfold truT; rw [if_pos (by omega)]
    have e2 : truT L lens F M last (a + 1 + i) = F (a + 1 + i : Nat) := by unfold truT; rw [if_pos (by omega)]
    rw [show ((a + 1 + i : Nat) : Int) - (a : Int) = (i : Int) + 1 by omega] at h1
    unfold pairR at hx
    simp only [List.mem_cons, List.not_mem_nil, or_false] at hx
    rcases hx with rfl | rfl
    · simp only [e1, e2]; omega
    · simp only [e1, e2]; omega
  · have hsm : seenAt M l.b = true := by rw [← d.sm]; exact hs
    obtain ⟨xb, hxb⟩ := seen_some hs
    obtain ⟨z, hz⟩ := seen_some hsm
    have t1 := truT_seen w d hxb hz
    have t2 := truT_end (last := last) (F := F) (lens := lens) hb hz
    have h2 := hl b l hb
    have wl := w.lk l (List.mem_of_getElem? hb)
    unfold linkR at hx
    simp only [List.mem_append, List.mem_cons, List.not_mem_nil, or_false] at hx
    rcases hx with (rfl | rfl) | hx
    · simp only [t1, t2]; omega
    · simp only [t1, t2]; omega
    · cases ht : S[l.e]?.getD none with
      | none =>
        rw [ht] at hx
        simp [endR] at hx
        subst hx
        have hn : M[l.e]? = some none := none_of (by have := d.lm; omega) (by
          rw [← d.sm]
          unfold seenAt; rw [ht]; rfl)
        have := d.pe b l z hb hn hz
        have e1 : truT L lens F M last last = F last := by unfold truT; rw [if_pos (by omega)]
        simp only [t2, e1]; omega
      | some y =>
        have hy : S[l.e]? = some (some y) := by
          cases h4 : S[l.e]? with
          | none => rw [h4] at ht; simp at ht
          | some t => rw [h4] at ht; simp at ht; rw [ht]
        have hs2 : seenAt M l.e = true := by rw [← d.sm]; exact seen_of hy
        obtain ⟨m, hm⟩ := seen_some hs2
        obtain ⟨z', h3, h4, h5, h6, h7⟩ := d.en b l y m hb hy hm
        rw [hz] at h3
        have hzz : z' = z := by simpa using h3.symm
        subst hzz
        have := d.st _ y hy
        rw [ht] at hx
        simp [endR] at hx
        have e1 : truT L lens F M last y.toNat = F y := by unfold truT; rw [if_pos (by omega), show ((y.toNat : Nat) : Int) = y by omega]
        have e2 : truT L lens F M last (y.toNat - 1) = F (y - 1) := by unfold truT; rw [if_pos (by omega), show ((y.toNat - 1 : Nat) : Int) = y - 1 by omega]
        rcases hx with rfl | rfl
        · simp only [t2, e1]; omega
        · simp only [t2, e2]; omega
end
section
variable {n : Nat} {L : List Lk} {lens : List Int} {F : Int → Int} {x1 lowb : Int} {S M : Os} {R : List Ru}
theorem Dy.mono {x2 : Int} (d : Dy n L lens F x1 lowb S M) (h : x1 ≤ x2) : Dy n L lens F x2 lowb S M :=
  ⟨d.ls, d.lm, d.z, d.zm, fun k x hk => by have := d.st k x hk; omega, d.sm, d.ow, d.en, d.pe⟩
theorem Dy.low {f : Int} (d : Dy n L lens F x1 lowb S M) (h : Fix L lens f M L.length) : Dy n L lens F x1 f S M :=
  ⟨d.ls, d.lm, d.z, d.zm, d.st, d.sm, d.ow, d.en, fun b l z hb he hz => h b l z (List.getElem?_eq_some_iff.mp hb).1 hb he hz⟩
theorem Dy.init (w : WebOk n R L) (hl : ∀ (b : Nat) l, L[b]? = some l → 1 ≤ gI lens b) (hF : F 0 = 0) : Dy n L lens F 0 (F 0) (some 0 :: List.replicate (n - 1) none) (some 0 :: List.replicate (n - 1) none) := by
  have n2 := w.n2
  have one : ∀ (k : Nat) (x : Int), (some (0 : Int) :: List.replicate (n - 1) (none : Option Int))[k]? = some (some x) → k = 0 ∧ x = 0 := fun k x hk => by
    cases k with
    | zero => simp at hk; exact ⟨rfl, hk.symm⟩
    | succ k =>
      rw [List.getElem?_cons_succ, List.getElem?_replicate] at hk
      split at hk <;> cases hk
  refine ⟨by simp; omega, by simp; omega, rfl, rfl, fun k x hk => ?_, fun k => rfl, fun k x y hx hy _ => ?_, fun b l x y hb hx hy => ?_, fun b l z hb he hz => ?_⟩
  · have := (one k x hk).2; omega
  · have h1 := (one k x hx).2; have h2 := (one k y hy).2
    rw [h1, h2, hF]
  · have := (one l.e x hx).1
    have := w.lk l (List.mem_of_getElem? hb)
    omega
  · have h1 := (one l.b z hz).2
    have := hl b l hb
    rw [hF]; omega
theorem lk_getE {l : Lk} (h : L[b]? = some l) : atI (L.map lkD) (b : Nat) = some (lkD l) := by have := tup_at (κ := []) (enc := lkD) h; rwa [oIdx_tup] at this
theorem os_get {S : Os} {k : Nat} {t : Option Int} (h : S[k]? = some t) : atI (S.map optI) (k : Nat) = some (optI t) := by have := tup_at (κ := []) (enc := optI) h; rwa [oIdx_tup] at this
theorem gi_get {l : List Int} {k : Nat} (h : k < l.length) : atI (l.map D.int) (k : Nat) = some (.int (gI l k)) := by
  have := tup_at (κ := []) (enc := D.int) (l := l) (k := k) (a := gI l k) (by rw [gI_eq, List.getElem?_eq_getElem h]; rfl)
  rwa [oIdx_tup] at this
end
end SH
set_option Elab.async false
set_option linter.all false
set_option maxRecDepth 100000
set_option maxHeartbeats 4000000
/-! SHrk: the drawn clock, with more behind in the store (SHr's clock_ok over atK). -/
namespace SH
open PySem L2 DL K82
section
variable {p q r s a b c : Int} {n : Nat} {F : Int → Int}
theorem clock_okK (R : List Int) (T i L : Int) (tl : Ka) (h0 : 0 ≤ i) (k : Ki p q r s) (l0 : 0 ≤ L) (l1 : L ≤ 100) : ∃ F j, f__law_clock [dealD R T, kd p q r s, .int L] (atK i tl) = some (.ok (clk (L + 1).toNat F), atK j tl) ∧ Clock p q r s (L + 1).toNat F ∧ 0 ≤ j := by
  suffices h : wpE (f__law_clock [dealD R T, kd p q r s, .int L] (atK i tl)) fun d κ => ∃ F j, d = clk (L + 1).toNat F ∧ κ = atK j tl ∧ Clock p q r s (L + 1).toNat F ∧ 0 ≤ j by
    obtain ⟨d, κ, e, F, j, rfl, rfl, h1, h2⟩ := wpE_eq.mp h
    exact ⟨F, j, e, h1, h2⟩
  unfold f__law_clock
  refine mean_wp ?_
  show wpS (m__law_clock [.val (dealD R T), .val (kd p q r s), .val (.int L), .no, .no, .no, .no, .no, .no] (atK i tl)) _ _ _ _
  unfold m__law_clock
  simp only [wpS_seq]
  obtain ⟨w, e1, w0, w1⟩ := take_okK R T i 3 tl h0 (by omega)
  refine wpS_atom (ρ' := [.val (dealD R T), .val (kd p q r s), .val (.int L), .own (tab 1 fun i => .int ((fun _ => 0) i)), .no, .no, .no, .no, .no]) (k := atK i tl) (by simp [tab]) ?_
  refine wpS_atom (ρ' := [.val (dealD R T), .val (kd p q r s), .val (.int L), .own (tab 1 fun i => .int ((fun _ => 0) i)), .val (.int w), .no, .no, .no, .no]) (k := atK (i + 1) tl) (by simp [e1]) ?_
  refine wpS_forE (κ1 := atK (i + 1) tl) (rangeD 1 (L + 1)) (range2_ok (by omega) (by omega) (by simp)) (fun m ρ κ => ∃ F j s5 s6 s7 s8, κ = atK j tl ∧ 0 ≤ j ∧ ρ = [.val (dealD R T), .val (kd p q r s), .val (.int L), .own (tab (m + 1) fun i => .int (F i)), .val (.int w), s5, s6, s7, s8] ∧ F 0 = 0 ∧ Good p q r s (m + 1) F) ⟨_, _, _, _, _, _, rfl, by omega, rfl, rfl, fun a b _ _ _ => by omega⟩ ?_ ?_
  · rintro m d ρ κ hd ⟨F, j, s5, s6, s7, s8, rfl, hj, rfl, F0, hG⟩
    obtain ⟨rfl, hm⟩ := mem_range hd
    refine ⟨_, rfl, ?_⟩
    simp only [wpS_seq]
    generalize hC : 1 + (m : Int) = C
    have hC1 : C = ((m + 1 : Nat) : Int) := by omega
    have hC2 : (C - 0).toNat = m + 1 := by omega
    generalize hn : m + 1 = n at *
    have eL := eComp_tab (vs := [8]) (n := iRange1 (aCons (eVar 5) aNil)) (g := gNm 8) (e := eOp oAdd (eIdx (eVar 3) (eVar 8)) (eCall 2 f__law_low (aCons (eVar 1) (aCons (eOp oSub (eVar 5) (eVar 8)) aNil)))) (ρ := [.val (dealD R T), .val (kd p q r s), .val (.int L), .own (tab n fun i => .int (F i)), .val (.int w), .val (.int C), s6, s7, s8]) (κ := atK j tl) (κ1 := atK j tl) (lo := 0) (hi := C) (fun i => .int (F i + lo p q (C - i))) (range1_ok (by omega) (by simp)) (by omega) (fun a a0 a1 => by
      refine ⟨_, rfl, rfl, ?_⟩
      have f1 := low' (t := C - a) (κ := atK j tl) k
      have f2 : atI (tab n fun i => D.int (F i)) a = some (.int (F a)) := tab_at (by omega) (by omega)
      simp only [kd] at f1
      simp [f1, f2])
    rw [hC2] at eL
    obtain ⟨low, eM, ⟨al, al0, al1, rfl⟩, hM⟩ := bMax_tab (κ := atK j tl) (n := n) (G := fun i => F (0 + i) + lo p q (C - (0 + i))) (by omega)
    refine wpS_atom (clock_step1 eL eM) ?_
    simp only [Int.zero_add] at *
    generalize hlow : F al + lo p q (C - al) = low at *
    have eH := eComp_tab (vs := [8]) (n := iRange1 (aCons (eVar 5) aNil)) (g := gNm 8) (e := eOp oAdd (eIdx (eVar 3) (eVar 8)) (eCall 2 f__law_high (aCons (eVar 1) (aCons (eOp oSub (eVar 5) (eVar 8)) aNil)))) (ρ := [.val (dealD R T), .val (kd p q r s), .val (.int L), .own (tab n fun i => .int (F i)), .val (.int w), .val (.int C), .val (.int low), s7, s8]) (κ := atK j tl) (κ1 := atK j tl) (lo := 0) (hi := C) (fun i => .int (F i + hi r s (C - i))) (range1_ok (by omega) (by simp)) (by omega) (fun a a0 a1 => by
      refine ⟨_, rfl, rfl, ?_⟩
      have f1 := high' (t := C - a) (κ := atK j tl) k
      have f2 : atI (tab n fun i => D.int (F i)) a = some (.int (F a)) := tab_at (by omega) (by omega)
      simp only [kd] at f1
      simp [f1, f2])
    rw [hC2] at eH
    simp only [Int.zero_add] at eH
    obtain ⟨high, eN, ⟨bl, bl0, bl1, rfl⟩, hN⟩ := bMin_tab (κ := atK j tl) (n := n) (G := fun i => F i + hi r s (C - i)) (by omega)
    refine wpS_atom (clock_step2 eH eN) ?_
    have hlh : low ≤ F bl + hi r s (C - bl) := by rw [← hlow]; exact hG.cross k al0 al1 bl0 bl1 hC1
    generalize hhigh : F bl + hi r s (C - bl) = high at *
    clear eL eM eH eN
    obtain ⟨v, e2, v0, v1⟩ := take_okK R T j ((if (900 : Int) < high - low then 900 else high - low) + 1) tl hj (by split <;> omega)
    have v2 : v ≤ high - low := by split at v1 <;> omega
    have fin : ∀ (x j' : Int), 0 ≤ j' → low ≤ x → x ≤ high → ∃ F' j'' z5 z6 z7 z8, atK j' tl = atK j'' tl ∧ 0 ≤ j'' ∧ [Sl.val (dealD R T), .val (kd p q r s), .val (.int L), .own ((tab n fun i => .int (F i)) ++ [.int x]), .val (.int w), .val (.int C), .val (.int low), .val (.int high), s8] = [.val (dealD R T), .val (kd p q r s), .val (.int L), .own (tab (n + 1) fun i => .int (F' i)), .val (.int w), z5, z6, z7, z8] ∧ F' 0 = 0 ∧ Good p q r s (n + 1) F' := by
      intro x j' hj' x0 x1
      refine ⟨fun i => if i = n then x else F i, j', _, _, _, _, rfl, hj', by rw [tab_snoc], (if_neg (by omega)).trans F0, hG.snoc (fun a a0 a1 => ?_) (fun a a0 a1 => ?_)⟩
      · have := hM a a0 a1; rw [hC1] at this; omega
      · have := hN a a0 a1; rw [hC1] at this; omega
    have hlen : ¬ (16777216 ≤ (tab n fun i => D.int (F i)).length) := by rw [tab_len]; omega
    rw [tab_len] at hlen
    by_cases hw : w = 0
    · obtain ⟨u, e3, u0, u1⟩ := take_okK R T (j + 1) 3 tl (by omega) (by omega)
      have hu : u = 0 ∨ u = 1 ∨ u = 2 := by omega
      rcases hu with rfl | rfl | rfl
      · refine wpS_atom (k := atK (j + 1 + 1) tl) ?_ (fin low (j + 1 + 1) (by omega) (by omega) (by omega))
        simp [e2, e3, hw, hlen]
      · refine wpS_atom (k := atK (j + 1 + 1) tl) ?_ (fin high (j + 1 + 1) (by omega) (by omega) (by omega))
        simp [e2, e3, hw, hlen]
      · refine wpS_atom (k := atK (j + 1 + 1) tl) ?_ (fin (low + v) (j + 1 + 1) (by omega) (by omega) (by omega))
        simp [e2, e3, hw, hlen]
    · have hu : w = 1 ∨ w = 2 := by omega
      rcases hu with rfl | rfl
      · refine wpS_atom (k := atK (j + 1) tl) ?_ (fin high (j + 1) (by omega) (by omega) (by omega))
        simp [e2, hlen]
      · refine wpS_atom (k := atK (j + 1) tl) ?_ (fin (low + v) (j + 1) (by omega) (by omega) (by omega))
        simp [e2, hlen]
  · rintro ρ κ ⟨F, j, s5, s6, s7, s8, rfl, hj, rfl, F0, hG⟩
    rw [range_len] at hG ⊢
    have hn : (L + 1 - 1).toNat + 1 = (L + 1).toNat := by omega
    rw [hn] at hG ⊢
    exact wpS_atomR (d := clk (L + 1).toNat F) (k := atK j tl) (by simp [clk]) ⟨F, j, rfl, rfl, ⟨by omega, F0, hG⟩, hj⟩
end
end SH
set_option Elab.async false
set_option linter.all false
set_option maxRecDepth 100000
namespace K87
noncomputable section
open PySem L2 DL
abbrev m_keeps_rule := SH.m_keeps_rule
abbrev f_keeps_rule := SH.f_keeps_rule
abbrev m_keeps := SH.m_keeps
abbrev f_keeps := SH.f_keeps
abbrev m_shifted := SH.m_shifted
abbrev f_shifted := SH.f_shifted
abbrev m_is_walk := SH.m_is_walk
abbrev f_is_walk := SH.f_is_walk
abbrev m_length := SH.m_length
abbrev f_length := SH.f_length
abbrev m_ends_of := SH.m_ends_of
abbrev f_ends_of := SH.f_ends_of
abbrev m_is_bad_ring := SH.m_is_bad_ring
abbrev f_is_bad_ring := SH.f_is_bad_ring
abbrev m_Spreading___init__ := SH.m_Spreading___init__ 0
abbrev f_Spreading___init__ := SH.f_Spreading___init__ 0
abbrev m_Spreading_step := SH.m_Spreading_step 0
abbrev f_Spreading_step := SH.f_Spreading_step 0
abbrev m_Spreading_spread := SH.m_Spreading_spread 0
abbrev f_Spreading_spread := SH.f_Spreading_spread 0
abbrev m_Spreading_ring_from := SH.m_Spreading_ring_from 0
abbrev f_Spreading_ring_from := SH.f_Spreading_ring_from 0
abbrev m_holds_answer := SH.m_holds_answer 0
abbrev f_holds_answer := SH.f_holds_answer 0
abbrev m_link_of := SH.m_link_of
abbrev f_link_of := SH.f_link_of
abbrev m_least_minutes := SH.m_least_minutes
abbrev f_least_minutes := SH.f_least_minutes
abbrev m_most_minutes := SH.m_most_minutes
abbrev f_most_minutes := SH.f_most_minutes
abbrev m_are_stamps := SH.m_are_stamps
abbrev f_are_stamps := SH.f_are_stamps
abbrev m_true_moment := SH.m_true_moment
abbrev f_true_moment := SH.f_true_moment
abbrev m_clock_rules := SH.m_clock_rules
abbrev f_clock_rules := SH.f_clock_rules
abbrev m_link_rules := SH.m_link_rules
abbrev f_link_rules := SH.f_link_rules
abbrev m_stamp_web := SH.m_stamp_web
abbrev f_stamp_web := SH.f_stamp_web
abbrev m_explain_answer := SH.m_explain_answer 0
abbrev f_explain_answer := SH.f_explain_answer 0
abbrev m_shows_explained := SH.m_shows_explained
abbrev f_shows_explained := SH.f_shows_explained
/-- ClockWatch.__init__: slots 0 self, 1 web, 2 kind -/
def m_ClockWatch___init__ : Es := (sSeq (sFldS 1 "web" (eVar 0) (eVar 1))
      (sSeq (sFldS 1 "kind" (eVar 0) (eVar 2))
      (sSeq (sFldS 1 "last" (eVar 0) (eNeg (eC (.int 1))))
      (sSeq (sFldS 1 "stamps" (eVar 0) (eOp oAdd (eTup (aCons (eC (.int 0)) aNil)) (eOp oMulT (eTup (aCons (eC .non) aNil)) (eOp oSub (eIdx (eVar 1) (eC (.int 0))) (eC (.int 1))))))
      (sFldS 1 "told" (eVar 0) (eC .non))))))
def f_ClockWatch___init__ (ds : List DL.D) (κ : Ka) : Re DL.D := noEr (mean 3 m_ClockWatch___init__ ds κ)
/-- ClockWatch.stamped: slots 0 self, 1 moments, 2 last, 3 k, 4 t -/
def m_ClockWatch_stamped : Es := (sRet (eBi bTuple (aCons (eFr (eComp [3, 4] (iEnum1 true (eAttr 1 "stamps" (eVar 0))) (gTu 2 (gsCons (gNm 3) (gsCons (gNm 4) gsNil))) bYes (eIf (bCmp cIn (eVar 3) (eVar 1)) (eVar 2) (eVar 4)))) aNil)))
def f_ClockWatch_stamped (ds : List DL.D) (κ : Ka) : Re DL.D := noEr (mean 5 m_ClockWatch_stamped ds κ)
/-- ClockWatch.tick: slots 0 self, 1 ended, 2 fresh, 3 stamps, 4 k -/
def m_ClockWatch_tick : Es := (sSeq (sAsg (gNm 2) (eFr (eComp [4] (iAny true (eVar 1)) (gNm 4) (bAnd (bChain cLe cLt (eC (.int 0)) (eVar 4) (eIdx (eAttr 1 "web" (eVar 0)) (eC (.int 0)))) (bCmp cIsNot (eCall 2 f_link_of (aCons (eAttr 1 "web" (eVar 0)) (aCons (eVar 4) aNil))) (eC .non))) (eVar 4))))
      (sSeq (sIf (bOr (bCmp cNe (eBi bLen (aCons (eVar 2) aNil)) (eBi bLen (aCons (eVar 1) aNil))) (bCmp cGt (eBi bLen (aCons (eFr (eComp [4] (iAny true (eVar 1)) (gNm 4) (bCmp cIsNot (eIdx (eAttr 1 "stamps" (eVar 0)) (eVar 4)) (eC .non)) (eC (.int 1)))) aNil)) (eC (.int 0)))) (sRaise 2) sNext)
      (sSeq (sAsg (gNm 3) (eMeth 1 "stamped" 3 f_ClockWatch_stamped (eVar 0) (aCons (eVar 1) (aCons (eOp oAdd (eAttr 1 "last" (eVar 0)) (eC (.int 1))) aNil))))
      (sSeq (sIf (bOr (bCmp cNe (eBi bTuple (aCons (eFr (fSortSet (eVar 1))) aNil)) (eVar 1)) (bNot (bOf (eCall 3 f_are_stamps (aCons (eAttr 1 "web" (eVar 0)) (aCons (eVar 3) (aCons (eOp oAdd (eAttr 1 "last" (eVar 0)) (eC (.int 1))) aNil))))))) (sRaise 2) sNext)
      (sSeq (sFldA 1 "last" oAddI (eVar 0) (eC (.int 1)))
      (sSeq (sFldS 1 "stamps" (eVar 0) (eVar 3))
      (sSeq (sFldS 1 "told" (eVar 0) (eCall 4 f_explain_answer (aCons (eAttr 1 "web" (eVar 0)) (aCons (eAttr 1 "kind" (eVar 0)) (aCons (eAttr 1 "stamps" (eVar 0)) (aCons (eAttr 1 "last" (eVar 0)) aNil))))))
      (sRet (eIdx (eAttr 1 "told" (eVar 0)) (eC (.int 0)))))))))))
def f_ClockWatch_tick (ds : List DL.D) (κ : Ka) : Re DL.D := mean 5 m_ClockWatch_tick ds κ
/-- ClockWatch.begin: slots 0 self, 1 begun, 2 own, 3 k -/
def m_ClockWatch_begin : Es := (sSeq (sAsg (gNm 2) (eFr (eComp [3] (iAny true (eVar 1)) (gNm 3) (bAnd (bChain cLe cLt (eC (.int 1)) (eVar 3) (eIdx (eAttr 1 "web" (eVar 0)) (eC (.int 0)))) (bAnd (bCmp cIs (eCall 2 f_link_of (aCons (eAttr 1 "web" (eVar 0)) (aCons (eVar 3) aNil))) (eC .non)) (bCmp cIs (eIdx (eAttr 1 "stamps" (eVar 0)) (eVar 3)) (eC .non)))) (eVar 3))))
      (sSeq (sIf (bOr (bCmp cLt (eAttr 1 "last" (eVar 0)) (eC (.int 0))) (bOr (bCmp cNe (eBi bLen (aCons (eVar 2) aNil)) (eBi bLen (aCons (eVar 1) aNil))) (bCmp cNe (eLenSet (eVar 1)) (eBi bLen (aCons (eVar 1) aNil))))) (sRaise 2) sNext)
      (sFldS 1 "stamps" (eVar 0) (eMeth 1 "stamped" 3 f_ClockWatch_stamped (eVar 0) (aCons (eVar 1) (aCons (eAttr 1 "last" (eVar 0)) aNil))))))
def f_ClockWatch_begin (ds : List DL.D) (κ : Ka) : Re DL.D := mean 4 m_ClockWatch_begin ds κ
/-- ClockWatch.answer: slots 0 self -/
def m_ClockWatch_answer : Es := (sRet (eAttr 1 "told" (eVar 0)))
def f_ClockWatch_answer (ds : List DL.D) (κ : Ka) : Re DL.D := noEr (mean 1 m_ClockWatch_answer ds κ)
/-- ClockWatch.seen: slots 0 self -/
def m_ClockWatch_seen : Es := (sRet (eTup (aCons (eAttr 1 "last" (eVar 0)) (aCons (eAttr 1 "stamps" (eVar 0)) aNil))))
def f_ClockWatch_seen (ds : List DL.D) (κ : Ka) : Re DL.D := noEr (mean 1 m_ClockWatch_seen ds κ)
abbrev m__law_deal := DL.m__law_deal
abbrev f__law_deal := DL.f__law_deal
abbrev m__law_take := DL.m__law_take
abbrev f__law_take := DL.f__law_take
abbrev m__law_same := DL.m__law_same
abbrev f__law_sameN := DL.f__law_sameN
abbrev f__law_same := DL.f__law_same
abbrev m__law_bool := DL.m__law_bool
abbrev f__law_bool := DL.f__law_bool
abbrev m__law_seen_web := SH.m__law_seen_web
abbrev f__law_seen_web := SH.f__law_seen_web
abbrev m__law_kind := SH.m__law_kind
abbrev f__law_kind := SH.f__law_kind
abbrev m__law_low := SH.m__law_low
abbrev f__law_low := SH.f__law_low
abbrev m__law_high := SH.m__law_high
abbrev f__law_high := SH.f__law_high
abbrev m__law_clock := SH.m__law_clock
abbrev f__law_clock := SH.f__law_clock
/-- _law_refuses: slots 0 watch, 1 word, 2 moments, 3 e -/
def m__law_refuses : Es := (sSeq (sTryR (tl [(2, true)]) (sIf (bCmp cEq (eVar 1) (eC (.str "tick"))) (sExp (eMeth 1 "tick" 2 f_ClockWatch_tick (eVar 0) (aCons (eVar 2) aNil))) (sExp (eMeth 1 "begin" 2 f_ClockWatch_begin (eVar 0) (aCons (eVar 2) aNil)))))
      (sRet (eC (.bl false))))
def f__law_refuses (ds : List DL.D) (κ : Ka) : Re DL.D := noEr (mean 4 m__law_refuses ds κ)
/-- _law_may_tick: slots 0 web, 1 stamps, 2 last, 3 ended, 4 ends, 5 k, 6 begin, 7 link -/
def m__law_may_tick : Es := (sSeq (sAsg (gNm 4) (eFr (eComp [7] (iAny true (eIdx (eVar 0) (eC (.int 2)))) (gNm 7) bYes (eIdx (eVar 7) (eC (.int 1))))))
      (sSeq (sIf (bOr (bCmp cNe (eFr (fBi bList (aCons (eVar 3) aNil))) (eFr (fSort (eVar 3)))) (bCmp cGt (eBi bLen (aCons (eFr (eComp [5] (iRange1 (aCons (eOp oSub (eBi bLen (aCons (eVar 3) aNil)) (eC (.int 1))) aNil)) (gNm 5) (bCmp cEq (eIdx (eVar 3) (eVar 5)) (eIdx (eVar 3) (eOp oAdd (eVar 5) (eC (.int 1))))) (eC (.int 1)))) aNil)) (eC (.int 0)))) (sRet (eC (.bl false))) sNext)
      (sSeq (sIf (bOr (bCmp cGt (eBi bLen (aCons (eFr (eComp [5] (iAny true (eVar 3)) (gNm 5) (bOr (bCmp cNotIn (eVar 5) (eVar 4)) (bCmp cIsNot (eIdx (eVar 1) (eVar 5)) (eC .non))) (eC (.int 1)))) aNil)) (eC (.int 0))) (bAnd (bCmp cLt (eVar 2) (eC (.int 1))) (bCmp cGt (eBi bLen (aCons (eVar 3) aNil)) (eC (.int 0))))) (sRet (eC (.bl false))) sNext)
      (sSeq (sForE (iAny false (eVar 3)) (gNm 5) (sSeq (sAsg (gNm 6) (eIdx (eIdx (eIdx (eVar 0) (eC (.int 2))) (eIndex (eVar 4) (eVar 5))) (eC (.int 0))))
      (sIf (bAnd (bCmp cIs (eIdx (eVar 1) (eVar 6)) (eC .non)) (bCmp cNotIn (eVar 6) (eVar 3))) (sRet (eC (.bl false))) sNext)))
      (sRet (eC (.bl true)))))))
def f__law_may_tick (ds : List DL.D) (κ : Ka) : Re DL.D := noEr (mean 8 m__law_may_tick ds κ)
/-- _law_wrong: slots 0 deal, 1 watch, 2 web, 3 stamps, 4 last, 5 ends, 6 odds, 7 odd, 8 link, 9 k -/
def m__law_wrong : Es := (sSeq (sAsg (gNm 5) (eFr (eComp [8] (iAny true (eIdx (eVar 2) (eC (.int 2)))) (gNm 8) bYes (eIdx (eVar 8) (eC (.int 1))))))
      (sSeq (sAsg (gNm 6) (eOp oAdd (eOp oAdd (eOp oAdd (eFr (fLst (aCons (eTup (aCons (eC (.int 0)) aNil)) (aCons (eTup (aCons (eIdx (eVar 2) (eC (.int 0))) aNil)) (aCons (eTup (aCons (eNeg (eC (.int 1))) aNil)) aNil))))) (eFr (eComp [9] (iRange2 (aCons (eC (.int 1)) (aCons (eIdx (eVar 2) (eC (.int 0))) aNil))) (gNm 9) bYes (eTup (aCons (eVar 9) aNil))))) (eFr (eComp [9] (iAny true (eVar 5)) (gNm 9) bYes (eTup (aCons (eVar 9) (aCons (eVar 9) aNil)))))) (eFr (fLst (aCons (eBi bTuple (aCons (eFr (fSort (eVar 5))) aNil)) (aCons (eRev (eBi bTuple (aCons (eFr (fSort (eVar 5))) aNil))) aNil))))))
      (sSeq (sForE (iAny false (eVar 6)) (gNm 7) (sIf (bAnd (bNot (bOf (eCall 4 f__law_may_tick (aCons (eVar 2) (aCons (eVar 3) (aCons (eOp oAdd (eVar 4) (eC (.int 1))) (aCons (eVar 7) aNil))))))) (bNot (bOf (eCall 3 f__law_refuses (aCons (eVar 1) (aCons (eC (.str "tick")) (aCons (eVar 7) aNil))))))) (sRet (eC (.bl false))) sNext))
      (sSeq (sForE (iAny false (eOp oAdd (eOp oAdd (eFr (fLst (aCons (eTup (aCons (eC (.int 0)) aNil)) (aCons (eTup (aCons (eIdx (eVar 2) (eC (.int 0))) aNil)) (aCons (eTup (aCons (eNeg (eC (.int 1))) aNil)) aNil))))) (eFr (eComp [9] (iRange2 (aCons (eC (.int 1)) (aCons (eIdx (eVar 2) (eC (.int 0))) aNil))) (gNm 9) bYes (eTup (aCons (eVar 9) (aCons (eVar 9) aNil)))))) (eFr (eComp [9] (iRange2 (aCons (eC (.int 1)) (aCons (eIdx (eVar 2) (eC (.int 0))) aNil))) (gNm 9) (bOr (bCmp cIn (eVar 9) (eVar 5)) (bOr (bCmp cIsNot (eIdx (eVar 3) (eVar 9)) (eC .non)) (bCmp cLt (eVar 4) (eC (.int 0))))) (eTup (aCons (eVar 9) aNil)))))) (gNm 7) (sIf (bNot (bOf (eCall 3 f__law_refuses (aCons (eVar 1) (aCons (eC (.str "begin")) (aCons (eVar 7) aNil)))))) (sRet (eC (.bl false))) sNext))
      (sRet (eCall 2 f__law_same (aCons (eMeth 1 "seen" 1 f_ClockWatch_seen (eVar 1) aNil) (aCons (eTup (aCons (eVar 4) (aCons (eVar 3) aNil))) aNil))))))))
def f__law_wrong (ds : List DL.D) (κ : Ka) : Re DL.D := noEr (mean 10 m__law_wrong ds κ)
/-- _law_told: slots 0 deal, 1 watch, 2 web, 3 kind, 4 stamps, 5 last, 6 ended, 7 begun, 8 now, 9 due, 10 word, 11 told, 12 k -/
def m__law_told : Es := (sSeq (sIf (bNot (bOf (eCall 5 f__law_wrong (aCons (eVar 0) (aCons (eVar 1) (aCons (eVar 2) (aCons (eVar 4) (aCons (eVar 5) aNil)))))))) (sRet (eC .non)) sNext)
      (sSeq (sAsg (gNm 8) (eBi bTuple (aCons (eFr (eComp [12] (iRange1 (aCons (eIdx (eVar 2) (eC (.int 0))) aNil)) (gNm 12) bYes (eIf (bCmp cIn (eVar 12) (eVar 6)) (eOp oAdd (eVar 5) (eC (.int 1))) (eIdx (eVar 4) (eVar 12))))) aNil)))
      (sSeq (sAsg (gNm 9) (eCall 4 f_explain_answer (aCons (eVar 2) (aCons (eVar 3) (aCons (eVar 8) (aCons (eOp oAdd (eVar 5) (eC (.int 1))) aNil))))))
      (sSeq (sAsg (gNm 10) (eMeth 1 "tick" 2 f_ClockWatch_tick (eVar 1) (aCons (eVar 6) aNil)))
      (sSeq (sAsg (gNm 11) (eMeth 1 "answer" 1 f_ClockWatch_answer (eVar 1) aNil))
      (sSeq (sIf (bOr (bNot (bOf (eCall 2 f__law_same (aCons (eVar 10) (aCons (eIdx (eVar 9) (eC (.int 0))) aNil))))) (bOr (bCmp cNe (eIdx (eVar 11) (eC (.int 0))) (eVar 10)) (bNot (bOf (eCall 2 f__law_bool (aCons (eCall 5 f_shows_explained (aCons (eVar 2) (aCons (eVar 3) (aCons (eVar 8) (aCons (eOp oAdd (eVar 5) (eC (.int 1))) (aCons (eVar 11) aNil)))))) (aCons (eC (.bl true)) aNil))))))) (sRet (eC .non)) sNext)
      (sSeq (sIf (bOr (bCmp cGt (eBi bLen (aCons (eVar 7) aNil)) (eC (.int 0))) (bCmp cEq (eCall 2 f__law_take (aCons (eVar 0) (aCons (eC (.int 2)) aNil))) (eC (.int 0)))) (sIf (bAnd (bCmp cGt (eBi bLen (aCons (eVar 7) aNil)) (eC (.int 1))) (bCmp cEq (eCall 2 f__law_take (aCons (eVar 0) (aCons (eC (.int 2)) aNil))) (eC (.int 0)))) (sSeq (sExp (eMeth 1 "begin" 2 f_ClockWatch_begin (eVar 1) (aCons (eCut (eVar 7) sNone (sSome (eC (.int 1)))) aNil)))
      (sExp (eMeth 1 "begin" 2 f_ClockWatch_begin (eVar 1) (aCons (eCut (eVar 7) (sSome (eC (.int 1))) sNone) aNil)))) (sExp (eMeth 1 "begin" 2 f_ClockWatch_begin (eVar 1) (aCons (eVar 7) aNil)))) sNext)
      (sSeq (sAsg (gNm 8) (eBi bTuple (aCons (eFr (eComp [12] (iRange1 (aCons (eIdx (eVar 2) (eC (.int 0))) aNil)) (gNm 12) bYes (eIf (bCmp cIn (eVar 12) (eVar 7)) (eOp oAdd (eVar 5) (eC (.int 1))) (eIdx (eVar 8) (eVar 12))))) aNil)))
      (sSeq (sIf (bOr (bNot (bOf (eCall 2 f__law_same (aCons (eMeth 1 "seen" 1 f_ClockWatch_seen (eVar 1) aNil) (aCons (eTup (aCons (eOp oAdd (eVar 5) (eC (.int 1))) (aCons (eVar 8) aNil))) aNil))))) (bNot (bOf (eCall 2 f__law_same (aCons (eMeth 1 "answer" 1 f_ClockWatch_answer (eVar 1) aNil) (aCons (eVar 11) aNil)))))) (sRet (eC .non)) sNext)
      (sRet (eTup (aCons (eVar 10) (aCons (eVar 8) aNil)))))))))))))
def f__law_told (ds : List DL.D) (κ : Ka) : Re DL.D := noEr (mean 13 m__law_told ds κ)
/-- _law_ended: slots 0 deal, 1 web, 2 clock, 3 tick, 4 state, 5 stamps, 6 minutes, 7 lengths, 8 is_true, 9 ended, 10 turn, 11 b, 12 begin, 13 end -/
def m__law_ended : Es := (sSeq (sAsg (gTu 4 (gsCons (gNm 5) (gsCons (gNm 6) (gsCons (gNm 7) (gsCons (gNm 8) gsNil))))) (eVar 4))
      (sSeq (sOwn 9 (fLst aNil))
      (sSeq (sForE (iRange1 (aCons (eBi bLen (aCons (eIdx (eVar 1) (eC (.int 2))) aNil)) aNil)) (gNm 10) (sForE (iRange1 (aCons (eBi bLen (aCons (eIdx (eVar 1) (eC (.int 2))) aNil)) aNil)) (gNm 11) (sSeq (sAsg (gTu 2 (gsCons (gNm 12) (gsCons (gNm 13) gsNil))) (eCut (eIdx (eIdx (eVar 1) (eC (.int 2))) (eVar 11)) sNone (sSome (eC (.int 2)))))
      (sIf (bAnd (bCmp cNotIn (eVar 13) (eVar 9)) (bAnd (bCmp cIs (eIdx (eVar 5) (eVar 13)) (eC .non)) (bCmp cIsNot (eIdx (eVar 6) (eVar 12)) (eC .non)))) (sSeq (sIf (bAnd (bOf (eVar 8)) (bCmp cLe (eOp oAdd (eIdx (eVar 6) (eVar 12)) (eIdx (eVar 7) (eVar 11))) (eIdx (eVar 2) (eVar 3)))) (sSeq (sSetO (eVar 6) (eVar 13) (eOp oAdd (eIdx (eVar 6) (eVar 12)) (eIdx (eVar 7) (eVar 11))))
      (sApp 9 (eVar 13))) sNext)
      (sIf (bAnd (bNot (bOf (eVar 8))) (bAnd (bCmp cGt (eVar 3) (eC (.int 0))) (bAnd (bCmp cEq (eCall 2 f__law_take (aCons (eVar 0) (aCons (eC (.int 4)) aNil))) (eC (.int 0))) (bCmp cNotIn (eVar 12) (eVar 9))))) (sSeq (sSetO (eVar 6) (eVar 13) (eIdx (eVar 2) (eVar 3)))
      (sApp 9 (eVar 13))) sNext)) sNext))))
      (sRet (eBi bTuple (aCons (eFr (fSort (eVar 9))) aNil))))))
def f__law_ended (ds : List DL.D) (κ : Ka) : Re DL.D := noEr (mean 14 m__law_ended ds κ)
/-- _law_day: slots 0 deal, 1 web, 2 kind, 3 clock, 4 is_true, 5 watches, 6 lengths, 7 ends, 8 stamps, 9 minutes, 10 before, 11 tick, 12 ended, 13 begun, 14 told, 15 word, 16 k, 17 begin, 18 end, 19 least, 20 most, 21 link -/
def m__law_day : Es := (sSeq (sAsg (gNm 6) (eFr (eComp [17, 18, 19, 20] (iAny true (eIdx (eVar 1) (eC (.int 2)))) (gTu 4 (gsCons (gNm 17) (gsCons (gNm 18) (gsCons (gNm 19) (gsCons (gNm 20) gsNil))))) bYes (eOp oAdd (eVar 19) (eCall 2 f__law_take (aCons (eVar 0) (aCons (eOp oAdd (eOp oSub (eVar 20) (eVar 19)) (eC (.int 1))) aNil)))))))
      (sSeq (sAsg (gNm 7) (eFr (eComp [21] (iAny true (eIdx (eVar 1) (eC (.int 2)))) (gNm 21) bYes (eIdx (eVar 21) (eC (.int 1))))))
      (sSeq (sAsg (gNm 8) (eOp oAdd (eTup (aCons (eC (.int 0)) aNil)) (eOp oMulT (eTup (aCons (eC .non) aNil)) (eOp oSub (eIdx (eVar 1) (eC (.int 0))) (eC (.int 1))))))
      (sSeq (sAsg (gNm 9) (eSt (fCat (eFr (fLst (aCons (eC (.int 0)) aNil))) (eFr (fRep (eFr (fLst (aCons (eC .non) aNil))) (eOp oSub (eIdx (eVar 1) (eC (.int 0))) (eC (.int 1))))))))
      (sSeq (sAsg (gNm 10) (eC (.str "explained")))
      (sSeq (sForE (iRange1 (aCons (eBi bLen (aCons (eVar 3) aNil)) aNil)) (gNm 11) (sSeq (sAsg (gNm 12) (eCall 5 f__law_ended (aCons (eVar 0) (aCons (eVar 1) (aCons (eVar 3) (aCons (eVar 11) (aCons (eTup (aCons (eVar 8) (aCons (eVar 9) (aCons (eVar 6) (aCons (eVar 4) aNil))))) aNil)))))))
      (sSeq (sAsg (gNm 13) (eBi bTuple (aCons (eFr (eComp [16] (iRange2 (aCons (eC (.int 1)) (aCons (eIdx (eVar 1) (eC (.int 0))) aNil))) (gNm 16) (bAnd (bCmp cNotIn (eVar 16) (eVar 7)) (bAnd (bCmp cIs (eIdx (eVar 8) (eVar 16)) (eC .non)) (bCmp cEq (eCall 2 f__law_take (aCons (eVar 0) (aCons (eC (.int 3)) aNil))) (eC (.int 0))))) (eVar 16))) aNil)))
      (sSeq (sIf (bCmp cEq (eCall 2 f__law_take (aCons (eVar 0) (aCons (eC (.int 2)) aNil))) (eC (.int 0))) (sAsg (gNm 13) (eRev (eVar 13))) sNext)
      (sSeq (sAsg (gNm 14) (eCall 8 f__law_told (aCons (eVar 0) (aCons (eIdx (eVar 5) (eC (.int 0))) (aCons (eVar 1) (aCons (eVar 2) (aCons (eVar 8) (aCons (eOp oSub (eVar 11) (eC (.int 1))) (aCons (eVar 12) (aCons (eVar 13) aNil))))))))))
      (sSeq (sIf (bOr (bCmp cIs (eVar 14) (eC .non)) (bCmp cNotIn (eMeth 1 "tick" 2 f_ClockWatch_tick (eIdx (eVar 5) (eC (.int 1))) (aCons (eTup aNil) aNil)) (eFr (fLst (aCons (eC (.str "explained")) (aCons (eC (.str "strange")) aNil)))))) (sRet (eC (.bl false))) sNext)
      (sSeq (sAsg (gTu 2 (gsCons (gNm 15) (gsCons (gNm 8) gsNil))) (eVar 14))
      (sSeq (sForE (iAny false (eVar 13)) (gNm 16) (sSetO (eVar 9) (eVar 16) (eIdx (eVar 3) (eVar 11))))
      (sSeq (sIf (bOr (bAnd (bOf (eVar 4)) (bCmp cNe (eVar 15) (eC (.str "explained")))) (bAnd (bCmp cEq (eVar 10) (eC (.str "strange"))) (bCmp cNe (eVar 15) (eC (.str "strange"))))) (sRet (eC (.bl false))) sNext)
      (sAsg (gNm 10) (eVar 15)))))))))))
      (sRet (eCall 2 f__law_same (aCons (eMeth 1 "seen" 1 f_ClockWatch_seen (eIdx (eVar 5) (eC (.int 1))) aNil) (aCons (eTup (aCons (eOp oSub (eBi bLen (aCons (eVar 3) aNil)) (eC (.int 1))) (aCons (eOp oAdd (eTup (aCons (eC (.int 0)) aNil)) (eOp oMulT (eTup (aCons (eC .non) aNil)) (eOp oSub (eIdx (eVar 1) (eC (.int 0))) (eC (.int 1))))) aNil))) aNil))))))))))
def f__law_day (ds : List DL.D) (κ : Ka) : Re DL.D := noEr (mean 22 m__law_day ds κ)
/-- law: slots 0 script, 1 deal, 2 web, 3 kind, 4 is_true, 5 watch, 6 other, 7 clock -/
def m_law : Es := (sSeq (sAsg (gNm 1) (eCall 1 f__law_deal (aCons (eVar 0) aNil)))
      (sSeq (sAsg (gNm 2) (eCall 2 f__law_seen_web (aCons (eVar 1) (aCons (eOp oAdd (eC (.int 2)) (eCall 2 f__law_take (aCons (eVar 1) (aCons (eC (.int 4)) aNil)))) aNil))))
      (sSeq (sAsg (gNm 3) (eCall 1 f__law_kind (aCons (eVar 1) aNil)))
      (sSeq (sForE (iAny false (eFr (fLst (aCons (eC (.bl true)) (aCons (eC (.bl false)) aNil))))) (gNm 4) (sSeq (sPar 5 6 (aCons (eMake 1 3 f_ClockWatch___init__ (aCons (eVar 2) (aCons (eVar 3) aNil))) (aCons (eMake 1 3 f_ClockWatch___init__ (aCons (eVar 2) (aCons (eVar 3) aNil))) aNil)))
      (sSeq (sIf (bOr (bCmp cIsNot (eMeth 1 "answer" 1 f_ClockWatch_answer (eVar 5) aNil) (eC .non)) (bNot (bOf (eCall 2 f__law_same (aCons (eMeth 1 "seen" 1 f_ClockWatch_seen (eVar 5) aNil) (aCons (eTup (aCons (eNeg (eC (.int 1))) (aCons (eOp oAdd (eTup (aCons (eC (.int 0)) aNil)) (eOp oMulT (eTup (aCons (eC .non) aNil)) (eOp oSub (eIdx (eVar 2) (eC (.int 0))) (eC (.int 1))))) aNil))) aNil)))))) (sRet (eC (.bl false))) sNext)
      (sSeq (sAsg (gNm 7) (eCall 3 f__law_clock (aCons (eVar 1) (aCons (eVar 3) (aCons (eOp oAdd (eC (.int 2)) (eCall 2 f__law_take (aCons (eVar 1) (aCons (eC (.int 6)) aNil)))) aNil)))))
      (sIf (bNot (bOf (eCall 6 f__law_day (aCons (eVar 1) (aCons (eVar 2) (aCons (eVar 3) (aCons (eVar 7) (aCons (eVar 4) (aCons (eTup (aCons (eVar 5) (aCons (eVar 6) aNil))) aNil))))))))) (sRet (eC (.bl false))) sNext)))))
      (sRet (eC (.bl true)))))))
def f_law (ds : List DL.D) (κ : Ka) : Re DL.D := noEr (mean 8 m_law ds κ)
end
end K87
set_option Elab.async false
set_option linter.all false
set_option maxRecDepth 100000
set_option maxHeartbeats 4000000
/-! K87a: the watch: its fields. (Names of texts printed by K87a.py's loop.) -/
namespace K87
open PySem L2 DL BF K82 SH
def wf (W K : D) (last : Int) (st : Os) (T : D) : List (Str × D) := [("web", W), ("kind", K), ("last", .int last), ("stamps", stD st), ("told", T)]
theorem b_web_kind : (("web" : Str) == "kind") = false := by decide +kernel
theorem n_web_kind : ¬ (("web" : Str) = "kind") := beq_eq_false_iff_ne.mp b_web_kind
theorem b_web_last : (("web" : Str) == "last") = false := by decide +kernel
theorem n_web_last : ¬ (("web" : Str) = "last") := beq_eq_false_iff_ne.mp b_web_last
theorem b_web_stamps : (("web" : Str) == "stamps") = false := by decide +kernel
theorem n_web_stamps : ¬ (("web" : Str) = "stamps") := beq_eq_false_iff_ne.mp b_web_stamps
theorem b_web_told : (("web" : Str) == "told") = false := by decide +kernel
theorem n_web_told : ¬ (("web" : Str) = "told") := beq_eq_false_iff_ne.mp b_web_told
theorem b_kind_web : (("kind" : Str) == "web") = false := by decide +kernel
theorem n_kind_web : ¬ (("kind" : Str) = "web") := beq_eq_false_iff_ne.mp b_kind_web
theorem b_kind_last : (("kind" : Str) == "last") = false := by decide +kernel
theorem n_kind_last : ¬ (("kind" : Str) = "last") := beq_eq_false_iff_ne.mp b_kind_last
theorem b_kind_stamps : (("kind" : Str) == "stamps") = false := by decide +kernel
theorem n_kind_stamps : ¬ (("kind" : Str) = "stamps") := beq_eq_false_iff_ne.mp b_kind_stamps
theorem b_kind_told : (("kind" : Str) == "told") = false := by decide +kernel
theorem n_kind_told : ¬ (("kind" : Str) = "told") := beq_eq_false_iff_ne.mp b_kind_told
theorem b_last_web : (("last" : Str) == "web") = false := by decide +kernel
theorem n_last_web : ¬ (("last" : Str) = "web") := beq_eq_false_iff_ne.mp b_last_web
theorem b_last_kind : (("last" : Str) == "kind") = false := by decide +kernel
theorem n_last_kind : ¬ (("last" : Str) = "kind") := beq_eq_false_iff_ne.mp b_last_kind
theorem b_last_stamps : (("last" : Str) == "stamps") = false := by decide +kernel
theorem n_last_stamps : ¬ (("last" : Str) = "stamps") := beq_eq_false_iff_ne.mp b_last_stamps
theorem b_last_told : (("last" : Str) == "told") = false := by decide +kernel
theorem n_last_told : ¬ (("last" : Str) = "told") := beq_eq_false_iff_ne.mp b_last_told
theorem b_stamps_web : (("stamps" : Str) == "web") = false := by decide +kernel
theorem n_stamps_web : ¬ (("stamps" : Str) = "web") := beq_eq_false_iff_ne.mp b_stamps_web
theorem b_stamps_kind : (("stamps" : Str) == "kind") = false := by decide +kernel
theorem n_stamps_kind : ¬ (("stamps" : Str) = "kind") := beq_eq_false_iff_ne.mp b_stamps_kind
theorem b_stamps_last : (("stamps" : Str) == "last") = false := by decide +kernel
theorem n_stamps_last : ¬ (("stamps" : Str) = "last") := beq_eq_false_iff_ne.mp b_stamps_last
theorem b_stamps_told : (("stamps" : Str) == "told") = false := by decide +kernel
theorem n_stamps_told : ¬ (("stamps" : Str) = "told") := beq_eq_false_iff_ne.mp b_stamps_told
theorem b_told_web : (("told" : Str) == "web") = false := by decide +kernel
theorem n_told_web : ¬ (("told" : Str) = "web") := beq_eq_false_iff_ne.mp b_told_web
theorem b_told_kind : (("told" : Str) == "kind") = false := by decide +kernel
theorem n_told_kind : ¬ (("told" : Str) = "kind") := beq_eq_false_iff_ne.mp b_told_kind
theorem b_told_last : (("told" : Str) == "last") = false := by decide +kernel
theorem n_told_last : ¬ (("told" : Str) = "last") := beq_eq_false_iff_ne.mp b_told_last
theorem b_told_stamps : (("told" : Str) == "stamps") = false := by decide +kernel
theorem n_told_stamps : ¬ (("told" : Str) = "stamps") := beq_eq_false_iff_ne.mp b_told_stamps
theorem b_stamped_web : (("stamped" : Str) == "web") = false := by decide +kernel
theorem b_stamped_kind : (("stamped" : Str) == "kind") = false := by decide +kernel
theorem b_stamped_last : (("stamped" : Str) == "last") = false := by decide +kernel
theorem b_stamped_stamps : (("stamped" : Str) == "stamps") = false := by decide +kernel
theorem b_stamped_told : (("stamped" : Str) == "told") = false := by decide +kernel
theorem b_tick_web : (("tick" : Str) == "web") = false := by decide +kernel
theorem b_tick_kind : (("tick" : Str) == "kind") = false := by decide +kernel
theorem b_tick_last : (("tick" : Str) == "last") = false := by decide +kernel
theorem b_tick_stamps : (("tick" : Str) == "stamps") = false := by decide +kernel
theorem b_tick_told : (("tick" : Str) == "told") = false := by decide +kernel
theorem b_begin_web : (("begin" : Str) == "web") = false := by decide +kernel
theorem b_begin_kind : (("begin" : Str) == "kind") = false := by decide +kernel
theorem b_begin_last : (("begin" : Str) == "last") = false := by decide +kernel
theorem b_begin_stamps : (("begin" : Str) == "stamps") = false := by decide +kernel
theorem b_begin_told : (("begin" : Str) == "told") = false := by decide +kernel
theorem b_answer_web : (("answer" : Str) == "web") = false := by decide +kernel
theorem b_answer_kind : (("answer" : Str) == "kind") = false := by decide +kernel
theorem b_answer_last : (("answer" : Str) == "last") = false := by decide +kernel
theorem b_answer_stamps : (("answer" : Str) == "stamps") = false := by decide +kernel
theorem b_answer_told : (("answer" : Str) == "told") = false := by decide +kernel
theorem b_seen_web : (("seen" : Str) == "web") = false := by decide +kernel
theorem b_seen_kind : (("seen" : Str) == "kind") = false := by decide +kernel
theorem b_seen_last : (("seen" : Str) == "last") = false := by decide +kernel
theorem b_seen_stamps : (("seen" : Str) == "stamps") = false := by decide +kernel
theorem b_seen_told : (("seen" : Str) == "told") = false := by decide +kernel
section
variable {W K T W2 K2 T2 : D} {last last2 : Int} {st st2 : Os}
theorem wf_web : (wf W K last st T).lookup ("web" : Str) = some W := by unfold wf; rw [List.lookup_cons]; simp
theorem wf_kind : (wf W K last st T).lookup ("kind" : Str) = some K := by unfold wf; rw [List.lookup_cons, b_kind_web, List.lookup_cons]; simp
theorem wf_last : (wf W K last st T).lookup ("last" : Str) = some (.int last) := by unfold wf; rw [List.lookup_cons, b_last_web, List.lookup_cons, b_last_kind, List.lookup_cons]; simp
theorem wf_stamps : (wf W K last st T).lookup ("stamps" : Str) = some (stD st) := by unfold wf; rw [List.lookup_cons, b_stamps_web, List.lookup_cons, b_stamps_kind, List.lookup_cons, b_stamps_last, List.lookup_cons]; simp
theorem wf_told : (wf W K last st T).lookup ("told" : Str) = some T := by unfold wf; rw [List.lookup_cons, b_told_web, List.lookup_cons, b_told_kind, List.lookup_cons, b_told_last, List.lookup_cons, b_told_stamps, List.lookup_cons]; simp
theorem wf_stamped : (wf W K last st T).lookup ("stamped" : Str) = none := by unfold wf; rw [List.lookup_cons, b_stamped_web, List.lookup_cons, b_stamped_kind, List.lookup_cons, b_stamped_last, List.lookup_cons, b_stamped_stamps, List.lookup_cons, b_stamped_told]; rfl
theorem wf_tick : (wf W K last st T).lookup ("tick" : Str) = none := by unfold wf; rw [List.lookup_cons, b_tick_web, List.lookup_cons, b_tick_kind, List.lookup_cons, b_tick_last, List.lookup_cons, b_tick_stamps, List.lookup_cons, b_tick_told]; rfl
theorem wf_begin : (wf W K last st T).lookup ("begin" : Str) = none := by unfold wf; rw [List.lookup_cons, b_begin_web, List.lookup_cons, b_begin_kind, List.lookup_cons, b_begin_last, List.lookup_cons, b_begin_stamps, List.lookup_cons, b_begin_told]; rfl
theorem wf_answer : (wf W K last st T).lookup ("answer" : Str) = none := by unfold wf; rw [List.lookup_cons, b_answer_web, List.lookup_cons, b_answer_kind, List.lookup_cons, b_answer_last, List.lookup_cons, b_answer_stamps, List.lookup_cons, b_answer_told]; rfl
theorem wf_seen : (wf W K last st T).lookup ("seen" : Str) = none := by unfold wf; rw [List.lookup_cons, b_seen_web, List.lookup_cons, b_seen_kind, List.lookup_cons, b_seen_last, List.lookup_cons, b_seen_stamps, List.lookup_cons, b_seen_told]; rfl
theorem wp_last {v : Int} : putD "last" (.int v) (wf W K last st T) = wf W K v st T := by unfold wf; rw [putD, if_neg n_web_last, putD, if_neg n_kind_last, putD, if_pos rfl]
theorem wp_stamps {v : Os} : putD "stamps" (stD v) (wf W K last st T) = wf W K last v T := by unfold wf; rw [putD, if_neg n_web_stamps, putD, if_neg n_kind_stamps, putD, if_neg n_last_stamps, putD, if_pos rfl]
theorem wp_told {v : D} : putD "told" v (wf W K last st T) = wf W K last st v := by unfold wf; rw [putD, if_neg n_web_told, putD, if_neg n_kind_told, putD, if_neg n_last_told, putD, if_neg n_stamps_told, putD, if_pos rfl]
theorem wp_new : putD "told" T (putD "stamps" (stD st) (putD "last" (.int last) (putD "kind" K (putD "web" W [])))) = wf W K last st T := by unfold wf; simp only [putD, if_neg n_web_kind, if_neg n_web_last, if_neg n_kind_last, if_neg n_web_stamps, if_neg n_kind_stamps, if_neg n_last_stamps, if_neg n_web_told, if_neg n_kind_told, if_neg n_last_told, if_neg n_stamps_told]
variable {κ : Ka} {a : Nat} {ρ : List Sl}
theorem wa_web (h : κ[a]? = some (.ins 1 (wf W K last st T))) : oAttr 1 "web" κ (.obj a) = some W := by unfold oAttr; simp only [h, if_true, wf_web]
theorem wa_kind (h : κ[a]? = some (.ins 1 (wf W K last st T))) : oAttr 1 "kind" κ (.obj a) = some K := by unfold oAttr; simp only [h, if_true, wf_kind]
theorem wa_last (h : κ[a]? = some (.ins 1 (wf W K last st T))) : oAttr 1 "last" κ (.obj a) = some (.int last) := by unfold oAttr; simp only [h, if_true, wf_last]
theorem wa_stamps (h : κ[a]? = some (.ins 1 (wf W K last st T))) : oAttr 1 "stamps" κ (.obj a) = some (stD st) := by unfold oAttr; simp only [h, if_true, wf_stamps]
theorem wa_told (h : κ[a]? = some (.ins 1 (wf W K last st T))) : oAttr 1 "told" κ (.obj a) = some T := by unfold oAttr; simp only [h, if_true, wf_told]
theorem wi_stamped (h : κ[a]? = some (.ins 1 (wf W K last st T))) : isIns 1 "stamped" κ (.obj a) = true := by unfold isIns; simp [h, wf_stamped]
theorem wi_tick (h : κ[a]? = some (.ins 1 (wf W K last st T))) : isIns 1 "tick" κ (.obj a) = true := by unfold isIns; simp [h, wf_tick]
theorem wi_begin (h : κ[a]? = some (.ins 1 (wf W K last st T))) : isIns 1 "begin" κ (.obj a) = true := by unfold isIns; simp [h, wf_begin]
theorem wi_answer (h : κ[a]? = some (.ins 1 (wf W K last st T))) : isIns 1 "answer" κ (.obj a) = true := by unfold isIns; simp [h, wf_answer]
theorem wi_seen (h : κ[a]? = some (.ins 1 (wf W K last st T))) : isIns 1 "seen" κ (.obj a) = true := by unfold isIns; simp [h, wf_seen]
theorem wput_last {v : Int} (h : κ[a]? = some (.ins 1 (wf W K last st T))) : putO 1 "last" (.int v) (.obj a) ρ κ = some (.nx ρ, κ.set a (.ins 1 (wf W K v st T))) := by
  unfold putO; simp only [h]; rw [if_pos ⟨trivial, by simp [wf], rfl⟩, wp_last]
theorem wput_stamps {v : Os} (h : κ[a]? = some (.ins 1 (wf W K last st T))) : putO 1 "stamps" (stD v) (.obj a) ρ κ = some (.nx ρ, κ.set a (.ins 1 (wf W K last v T))) := by
  unfold putO; simp only [h]; rw [if_pos ⟨trivial, by simp [wf], rfl⟩, wp_stamps]
theorem wput_told {v : D} (h : κ[a]? = some (.ins 1 (wf W K last st T))) (hv : isBor v = false) : putO 1 "told" v (.obj a) ρ κ = some (.nx ρ, κ.set a (.ins 1 (wf W K last st v))) := by
  unfold putO; simp only [h]; rw [if_pos ⟨trivial, by simp [wf], hv⟩, wp_told]
theorem answer_ok (h : κ[a]? = some (.ins 1 (wf W K last st T))) (hT : isBor T = false) : f_ClockWatch_answer [.obj a] κ = some (.ok T, κ) := by
  have := wa_told h
  unfold f_ClockWatch_answer
  simp [m_ClockWatch_answer, mean, slots, List.replicate, this, hT]
theorem seen_ok (h : κ[a]? = some (.ins 1 (wf W K last st T))) : f_ClockWatch_seen [.obj a] κ = some (.ok (.tup [.int last, stD st]), κ) := by
  have h1 := wa_last h
  have h2 := wa_stamps h
  have h3 := st_nb (s := st)
  unfold f_ClockWatch_seen
  generalize stD st = S at *
  simp [m_ClockWatch_seen, mean, slots, List.replicate, h1, h2, h3]
/-- the start's stamps -/
def st0 (n : Nat) : Os := some 0 :: List.replicate (n - 1) none
theorem st0_mul {n : Nat} (hn : 1 ≤ n) (hn2 : n ≤ 1000) : oMulT (.tup [.non]) (.int ((n : Int) - 1)) = some (.tup ((List.replicate (n - 1) (none : Option Int)).map optI)) := by
  have : (-1000 : Int) ≤ (n : Int) - 1 ∧ (n : Int) - 1 ≤ 1000 := by omega
  have e : ((n : Int) - 1).toNat = n - 1 := by omega
  simp [oMulT, this, optI, e]
theorem st0_add {n : Nat} (hn : n ≤ 1000) : oAdd (.tup [.int 0]) (.tup ((List.replicate (n - 1) (none : Option Int)).map optI)) = some (stD (st0 n)) := by
  rw [oAdd_tup (by simp; omega)]
  simp [stD, st0, optI]
theorem init_ok {n : Nat} {R : List Ru} {L : List Lk} (hn : 1 ≤ n) (hn2 : n ≤ 1000) (hK : isBor K = false) (h : κ[a]? = some (.ins 1 [])) :
    f_ClockWatch___init__ [.obj a, sweb n R L, K] κ = some (.ok .non, κ.set a (.ins 1 (wf (sweb n R L) K (-1) (st0 n) .non))) := by
  have w0 : ∀ κ : Ka, oIdx κ (sweb n R L) (.int 0) = some (.int n) := fun κ => sw_0
  have nw := sw_nb (n := n) (R := R) (L := L)
  have e1 := st0_mul hn hn2
  have e2 := st0_add hn2
  have e3 := st_nb (s := st0 n)
  have hl := (List.getElem?_eq_some_iff.mp h).1
  refine eq_of_wp ?_
  unfold f_ClockWatch___init__
  refine mean_wp ?_
  show wpS (m_ClockWatch___init__ [.val (.obj a), .val (sweb n R L), .val K] κ) _ _ _ _
  unfold m_ClockWatch___init__
  generalize (List.replicate (n - 1) (none : Option Int)).map optI = Z at *
  have nt := wp_new (W := sweb n R L) (K := K) (last := -1) (st := st0 n) (T := .non)
  generalize stD (st0 n) = S at *
  generalize sweb n R L = W at *
  simp only [wpS_seq]
  have put : ∀ (f : Str) (d : D) (ρ : List Sl) (κ : Ka) (fs : List (Str × D)), κ[a]? = some (.ins 1 fs) → fs.length < 1000 → isBor d = false → putO 1 f d (.obj a) ρ κ = some (.nx ρ, κ.set a (.ins 1 (putD f d fs))) := fun f d ρ κ fs h1 h2 h3 => by
    unfold putO; simp only [h1]; rw [if_pos ⟨trivial, h2, h3⟩]
  have get : ∀ (κ : Ka) (c : Cell), a < κ.length → (κ.set a c)[a]? = some c := fun κ c h => List.getElem?_set_self h
  have l1 : (putD "web" W []).length = 1 := rfl
  have pl : ∀ (f : Str) (d : D) (fs : List (Str × D)), (putD f d fs).length ≤ fs.length + 1 := fun f d fs => by
    induction fs with
    | nil => simp [putD]
    | cons p fs ih => unfold putD; split <;> simp <;> omega
  have pl1 := pl "kind" K (putD "web" W [])
  have pl2 := pl "last" (.int (-1)) (putD "kind" K (putD "web" W []))
  have pl3 := pl "stamps" S (putD "last" (.int (-1)) (putD "kind" K (putD "web" W [])))
  refine wpS_atom (k := κ.set a (.ins 1 (putD "web" W []))) (ρ' := [.val (.obj a), .val W, .val K]) (by simp [put _ _ _ _ _ h (by simp) nw]) ?_
  generalize putD "web" W [] = f1 at *
  have h1 := get κ (.ins 1 f1) hl
  have t1 : ∀ c, (κ.set a (.ins 1 f1)).set a c = κ.set a c := fun c => List.set_set ..
  generalize hκ1 : κ.set a (.ins 1 f1) = κ1 at *
  have hl1 : a < κ1.length := by rw [← hκ1]; simpa using hl
  refine wpS_atom (k := κ.set a (.ins 1 (putD "kind" K f1))) (ρ' := [.val (.obj a), .val W, .val K]) (by simp [put _ _ _ _ _ h1 (by omega) hK, t1]) ?_
  generalize putD "kind" K f1 = f2 at *
  clear t1
  have h2 := get κ (.ins 1 f2) hl
  have t1 : ∀ c, (κ.set a (.ins 1 f2)).set a c = κ.set a c := fun c => List.set_set ..
  generalize κ.set a (.ins 1 f2) = κ2 at *
  refine wpS_atom (k := κ.set a (.ins 1 (putD "last" (.int (-1)) f2))) (ρ' := [.val (.obj a), .val W, .val K]) (by simp [put _ _ _ _ _ h2 (by omega) (show isBor (.int (-1)) = false from rfl), t1]) ?_
  generalize putD "last" (.int (-1)) f2 = f3 at *
  clear t1
  have h3 := get κ (.ins 1 f3) hl
  have t1 : ∀ c, (κ.set a (.ins 1 f3)).set a c = κ.set a c := fun c => List.set_set ..
  generalize κ.set a (.ins 1 f3) = κ3 at *
  refine wpS_atom (k := κ.set a (.ins 1 (putD "stamps" S f3))) (ρ' := [.val (.obj a), .val W, .val K]) (by simp [w0, e1, e2, put _ _ _ _ _ h3 (by omega) e3, t1]) ?_
  generalize putD "stamps" S f3 = f4 at *
  clear t1
  have h4 := get κ (.ins 1 f4) hl
  have t1 : ∀ c, (κ.set a (.ins 1 f4)).set a c = κ.set a c := fun c => List.set_set ..
  generalize κ.set a (.ins 1 f4) = κ4 at *
  refine wpS_atom (k := κ.set a (.ins 1 (putD "told" .non f4))) (ρ' := [.val (.obj a), .val W, .val K]) (by simp [put _ _ _ _ _ h4 (by omega) (show isBor .non = false from rfl), t1]) ?_
  rw [nt]
  exact ⟨trivial, rfl⟩
end
end K87
set_option Elab.async false
set_option linter.all false
set_option maxRecDepth 100000
set_option maxHeartbeats 4000000
/-! K87b: the watch's deeds. -/
namespace K87
open PySem L2 DL BF K82 SH
def mm (ms : List Int) : D := .tup (ms.map D.int)
theorem mm_nb {ms : List Int} : isBor (mm ms) = false := rfl
theorem mm_walk {b : Bool} {ms : List Int} : walkD b (mm ms) = some (ms.map D.int) := rfl
theorem mm_len {κ : Ka} {ms : List Int} : bLen κ [mm ms] = some (.int ms.length) := by unfold mm; rw [bLen_tup, List.length_map]
theorem mm_in (v : Int) (ms : List Int) : cIn (.int v) (mm ms) = some (decide (v ∈ ms)) := by
  have e2 : cIn (.int v) (mm ms) = cIn (.int v) (.lst (ms.map D.int)) := rfl
  rw [e2, cIn_ints]
  congr 1
  rw [Bool.eq_iff_iff]
  simp
theorem mm_notin (v : Int) (ms : List Int) : cNotIn (.int v) (mm ms) = some (!decide (v ∈ ms)) := by unfold cNotIn; rw [mm_in]; rfl
theorem mm_set {ms : List Int} (h : ms.length ≤ 60) : setOf' (mm ms) = some ms := by unfold setOf' mm; simp [intsOf_map, h]
/-- what stamping makes -/
def stamp (st : Os) (ms : List Int) (v : Int) : Os := st.mapIdx fun k t => if (k : Int) ∈ ms then some v else t
section
variable {W K T : D} {last : Int} {st : Os} {κ : Ka} {a : Nat} {ρ : List Sl}
theorem stamp_len {ms : List Int} {v : Int} : (stamp st ms v).length = st.length := by simp [stamp]
theorem stamp_at {ms : List Int} {v : Int} {k : Nat} : (stamp st ms v)[k]? = st[k]?.map fun t => if (k : Int) ∈ ms then some v else t := by simp [stamp]
theorem stamped_ok (h : κ[a]? = some (.ins 1 (wf W K last st T))) (hs : st.length ≤ 1000000) (ms : List Int) (v : Int) :
    f_ClockWatch_stamped [.obj a, mm ms, .int v] κ = some (.ok (stD (stamp st ms v)), κ) := by
  have h2 := wa_stamps h
  have e := eComp_tyM (vs := [3, 4]) (n := iEnum1 true (eAttr 1 "stamps" (eVar 0))) (g := gTu 2 (gsCons (gNm 3) (gsCons (gNm 4) gsNil))) (e := eIf (bCmp cIn (eVar 3) (eVar 1)) (eVar 2) (eVar 4)) (ρ := [.val (.obj a), .val (mm ms), .val (.int v), .no, .no]) (κ := κ) (κ1 := κ) (fun (p : Nat × Option Int) => .tup [.int p.1, optI p.2]) (st.mapIdx fun i a => (i, a)) (fun p => optI (if (p.1 : Int) ∈ ms then some v else p.2)) (by
      have e1 : walkE true (stD st) = some (st.map optI) := rfl
      have e3 := enumL_map optI st
      generalize st.map optI = Z at *
      generalize stD st = S at *
      simp [h2, e1, e3]) (by simp; omega) (fun p _ => by
    refine ⟨[.val (.obj a), .val (mm ms), .val (.int v), .val (.int p.1), .val (optI p.2)], by simp [optI_nb], optI_nb, ?_⟩
    have := mm_in p.1 ms
    generalize mm ms = M at *
    by_cases q : (p.1 : Int) ∈ ms
    · simp [this, q, optI]
    · simp [this, q])
  have e2 : (st.mapIdx fun i a => (i, a)).map (fun p => optI (if (p.1 : Int) ∈ ms then some v else p.2)) = (stamp st ms v).map optI := by
    unfold stamp
    apply List.ext_getElem
    · simp
    · intro i h1 h2; simp
  rw [e2] at e
  have en : isBor (mm ms) = false := rfl
  unfold f_ClockWatch_stamped mean
  show noEr (match m_ClockWatch_stamped [.val (.obj a), .val (mm ms), .val (.int v), .no, .no] κ with | some (.nx _, κ') => some (.ok .non, κ') | some (.rt d, κ') => some (.ok d, κ') | some (.er c, κ') => some (.er c, κ') | _ => none) = _
  unfold m_ClockWatch_stamped
  rw [sRet_def, eBi_def, aCons_def, eFr_def, e]
  unfold stD
  generalize (stamp st ms v).map optI = Z at *
  simp
theorem seqN {a b : Es} {κ κ' : Ka} {ρ ρ' : List Sl} (h : a ρ κ = some (.nx ρ', κ')) : sSeq a b ρ κ = b ρ' κ' := by simp [h]
theorem seqE {a b : Es} {κ κ' : Ka} {ρ : List Sl} {c : Nat} (h : a ρ κ = some (.er c, κ')) : sSeq a b ρ κ = some (.er c, κ') := by simp [h]
theorem ifT {c : Ev Bool} {s t : Es} {κ κ' : Ka} {ρ : List Sl} (h : c ρ κ = some (.ok true, κ')) : sIf c s t ρ κ = s ρ κ' := by simp [h]
theorem ifF {c : Ev Bool} {s t : Es} {κ κ' : Ka} {ρ : List Sl} (h : c ρ κ = some (.ok false, κ')) : sIf c s t ρ κ = t ρ κ' := by simp [h]
theorem orT {c d : Ev Bool} {κ κ' : Ka} {ρ : List Sl} (h : c ρ κ = some (.ok true, κ')) : bOr c d ρ κ = some (.ok true, κ') := by simp [h]
theorem orF {c d : Ev Bool} {κ κ' : Ka} {ρ : List Sl} (h : c ρ κ = some (.ok false, κ')) : bOr c d ρ κ = d ρ κ' := by simp [h]
theorem fm_len {α β : Type} (p : α → Bool) (g : α → β) (L : List α) : ((L.filterMap fun a => if p a = true then some (g a) else none).length = L.length) ↔ ∀ a ∈ L, p a = true := by
  have le : ∀ L : List α, (L.filterMap fun a => if p a = true then some (g a) else none).length ≤ L.length := fun L => List.length_filterMap_le _ _
  induction L with
  | nil => simp
  | cons a L ih =>
    rw [List.filterMap_cons]
    by_cases q : p a = true
    · simp [q, ih]
    · have := le L
      simp [q]; omega
variable {n : Nat} {R : List Ru} {L : List Lk}
/-- an end of a link -/
def isEnd (n : Nat) (L : List Lk) (k : Int) : Bool := decide (0 ≤ k) && decide (k < n) && (lof L k.toNat).isSome
structure TickOk (n : Nat) (L : List Lk) (st : Os) (last : Int) (ms : List Int) : Prop where
  en : ∀ k ∈ ms, isEnd n L k = true
  un : ∀ k ∈ ms, st[k.toNat]? = some none
  as : ms.Pairwise (· < ·)
  ok : StOk n L (stamp st ms (last + 1)) (last + 1)
theorem pair_dst {ms : List Int} : dst ms = ms ↔ ms.Pairwise (· < ·) := by
  constructor
  · intro h
    have h1 := dst_pair ms
    have h2 := dst_nodup ms
    rw [h] at h1 h2
    exact (h1.and h2).imp fun q => by obtain ⟨q1, q2⟩ := q; omega
  · intro h; exact (dst_eq h fun k => Iff.rfl).symm
theorem tick_fresh (h : κ[a]? = some (.ins 1 (wf (sweb n R L) K last st T))) (w : WebOk n R L) {ms : List Int} (hm : ms.length ≤ 60) :
    eComp [4] (iAny true (eVar 1)) (gNm 4) (bAnd (bChain cLe cLt (eC (.int 0)) (eVar 4) (eIdx (eAttr 1 "web" (eVar 0)) (eC (.int 0)))) (bCmp cIsNot (eCall 2 f_link_of (aCons (eAttr 1 "web" (eVar 0)) (aCons (eVar 4) aNil))) (eC .non))) (eVar 4) [.val (.obj a), .val (mm ms), .no, .no, .no] κ = some (.ok ((ms.filterMap fun k => if isEnd n L k = true then some (D.int k) else none)), κ) := by
  have w0 : ∀ κ : Ka, oIdx κ (sweb n R L) (.int 0) = some (.int n) := fun κ => sw_0
  have nw := sw_nb (n := n) (R := R) (L := L)
  have lo := fun k => link_of_ok (n := n) (R := R) (κ := κ) w.ll k
  have h1 := wa_web h
  have h2 := mm_walk (b := true) (ms := ms)
  have h3 := mm_nb (ms := ms)
  generalize sweb n R L = W at *
  generalize mm ms = M at *
  refine eComp_ty D.int ms _ (by simp [h2]) (by omega) fun k hk => ?_
  refine ⟨[.val (.obj a), .val M, .no, .no, .val (.int k)], by simp, ?_⟩
  unfold isEnd
  by_cases q1 : 0 ≤ k
  case neg => exact .inl ⟨by simp [q1], by simp [q1]⟩
  obtain ⟨j, rfl⟩ := Int.eq_ofNat_of_zero_le q1
  by_cases q2 : j < n
  case neg =>
    have q2' : ¬ (j : Int) < (n : Int) := by omega
    exact .inl ⟨by simp [q2], by simp [q1, h1, w0, q2]⟩
  have lo := lo j
  cases q3 : lof L j with
  | none => rw [q3] at lo; exact .inl ⟨by simp [q3], by simp [q1, h1, w0, q2, lo, optN]⟩
  | some b => rw [q3] at lo; exact .inr ⟨.int j, by simp [q3, q2], rfl, by simp [q1, h1, w0, q2, lo, optN], by simp⟩
theorem tick_seen (h : κ[a]? = some (.ins 1 (wf (sweb n R L) K last st T))) (hs : st.length = n) {ms : List Int} (hm : ms.length ≤ 60) (hr : ∀ k ∈ ms, isEnd n L k = true) {z2 z3 z4 : Sl} :
    bCmp cGt (eBi bLen (aCons (eFr (eComp [4] (iAny true (eVar 1)) (gNm 4) (bCmp cIsNot (eIdx (eAttr 1 "stamps" (eVar 0)) (eVar 4)) (eC .non)) (eC (.int 1)))) aNil)) (eC (.int 0)) [.val (.obj a), .val (mm ms), z2, z3, z4] κ = some (.ok (ms.any fun k => seenAt st k.toNat), κ) := by
  have h1 := wa_stamps h
  have h2 := mm_walk (b := true) (ms := ms)
  have es := fun (k : Nat) t (hk : st[k]? = some t) => st_at (κ := κ) hk
  generalize stD st = S at *
  generalize mm ms = M at *
  refine cnt_gt D.int ms _ (by simp [h2]) (by omega) fun k hk => ?_
  refine ⟨[.val (.obj a), .val M, z2, z3, .val (.int k)], by simp, ?_⟩
  have := hr k hk
  unfold isEnd at this
  simp only [Bool.and_eq_true, decide_eq_true_eq] at this
  obtain ⟨⟨q1, q2⟩, _⟩ := this
  obtain ⟨j, rfl⟩ := Int.eq_ofNat_of_zero_le q1
  obtain ⟨t, ht⟩ : ∃ t, st[j]? = some t := ⟨_, List.getElem?_eq_getElem (by omega)⟩
  have e1 := es j t ht
  simp only [Int.toNat_natCast]
  unfold seenAt
  rw [ht]
  cases t with
  | none => simp [h1, e1, optI]
  | some x => simp [h1, e1, optI]
end
end K87
set_option Elab.async false
set_option linter.all false
set_option maxRecDepth 100000
set_option maxHeartbeats 4000000
/-! K87c: tick. -/
namespace K87
open PySem L2 DL BF K82 SH
section
variable {p q r u : Int} {K T : D} {last : Int} {st : Os} {κ : Ka} {a : Nat} {n : Nat} {R : List Ru} {L : List Lk} {ms : List Int}
def outR (o : Option (Out × Ka)) : Re D := match o with
  | some (.nx _, κ') => some (.ok .non, κ')
  | some (.rt d, κ') => some (.ok d, κ')
  | some (.er c, κ') => some (.er c, κ')
  | _ => none
/-- the last statements of tick -/
noncomputable def tickE : Es := (sSeq (sFldA 1 "last" oAddI (eVar 0) (eC (.int 1)))
      (sSeq (sFldS 1 "stamps" (eVar 0) (eVar 3))
      (sSeq (sFldS 1 "told" (eVar 0) (eCall 4 f_explain_answer (aCons (eAttr 1 "web" (eVar 0)) (aCons (eAttr 1 "kind" (eVar 0)) (aCons (eAttr 1 "stamps" (eVar 0)) (aCons (eAttr 1 "last" (eVar 0)) aNil))))))
      (sRet (eIdx (eAttr 1 "told" (eVar 0)) (eC (.int 0)))))))
theorem tick_body (h : κ[a]? = some (.ins 1 (wf (sweb n R L) K last st T))) (w : WebOk n R L) (hs : st.length = n) (hm : ms.length ≤ 60) :
    (¬ TickOk n L st last ms ∧ m_ClockWatch_tick [.val (.obj a), .val (mm ms), .no, .no, .no] κ = some (.er 2, κ)) ∨
    (TickOk n L st last ms ∧ ∃ d, m_ClockWatch_tick [.val (.obj a), .val (mm ms), .no, .no, .no] κ = tickE [.val (.obj a), .val (mm ms), d, .val (stD (stamp st ms (last + 1))), .no] κ) := by
  have eA := tick_fresh h w hm
  have n6 := w.n6
  have h1 := wa_web h
  have h2 := wa_last h
  have h4 := mm_len (κ := κ) (ms := ms)
  have hfl := fm_len (isEnd n L) D.int ms
  generalize (ms.filterMap fun k => if isEnd n L k = true then some (D.int k) else none) = fl at *
  unfold m_ClockWatch_tick
  rw [seqN (κ' := κ) (ρ' := [.val (.obj a), .val (mm ms), .val (.lst fl), .no, .no]) (by rw [sAsg_def, eFr_def, eA]; rfl)]
  by_cases q1 : ∀ k ∈ ms, isEnd n L k = true
  case neg =>
    left
    refine ⟨fun q => q1 q.en, ?_⟩
    have q1' : ¬ fl.length = ms.length := fun e => q1 (hfl.mp e)
    have q1'' : ¬ (fl.length : Int) = (ms.length : Int) := by omega
    rw [seqE]
    rw [ifT (orT (κ' := κ) (by generalize mm ms = M at *; simp [h4, q1''])), sRaise_def]
  have q1' : (fl.length : Int) = (ms.length : Int) := by have := hfl.mpr q1; omega
  have eB := tick_seen (z2 := .val (.lst fl)) (z3 := .no) (z4 := .no) h hs hm q1
  by_cases q2 : (ms.any fun k => seenAt st k.toNat) = true
  · left
    obtain ⟨k, hk, hk2⟩ := List.any_eq_true.mp q2
    refine ⟨fun q => ?_, ?_⟩
    · rw [seen_none (q.un k hk)] at hk2; cases hk2
    · rw [seqE]
      rw [ifT (κ' := κ), sRaise_def]
      rw [orF (κ' := κ) (by generalize mm ms = M at *; simp [h4, q1']), eB, q2]
  have q2' : (ms.any fun k => seenAt st k.toNat) = false := by simpa using q2
  rw [q2'] at eB
  rw [seqN (κ' := κ) (ρ' := [.val (.obj a), .val (mm ms), .val (.lst fl), .no, .no]) (by
    rw [ifF (κ' := κ), sNext_def]
    rw [orF (κ' := κ) (by generalize mm ms = M at *; simp [h4, q1']), eB])]
  have un : ∀ k ∈ ms, st[k.toNat]? = some none := fun k hk => by
    have e1 := q1 k hk
    unfold isEnd at e1
    simp only [Bool.and_eq_true, decide_eq_true_eq] at e1
    refine none_of (by omega) ?_
    have := List.any_eq_false.mp q2' k hk
    simpa using this
  have eC' := stamped_ok h (by omega) ms (last + 1)
  have h5 := wi_stamped h
  rw [seqN (κ' := κ) (ρ' := [.val (.obj a), .val (mm ms), .val (.lst fl), .val (stD (stamp st ms (last + 1))), .no]) (by
    have h3 := mm_nb (ms := ms)
    have e9 := st_nb (s := stamp st ms (last + 1))
    generalize stD (stamp st ms (last + 1)) = S at *
    generalize mm ms = M at *
    simp [h2, eC', e9, h5])]
  have e6 := mm_set hm
  have e7 : cNe (.tup ((dst ms).map D.int)) (mm ms) = some (!decide (dst ms = ms)) := cNe_ints _ _
  obtain ⟨b, e8, hb⟩ := are_stamps_ok (κ := κ) (R := R) (last := last + 1) w (s := stamp st ms (last + 1)) (by rw [stamp_len]; omega)
  generalize stD (stamp st ms (last + 1)) = S at *
  generalize hM : mm ms = M at *
  generalize sweb n R L = W at *
  by_cases q3 : ms.Pairwise (· < ·)
  case neg =>
    left
    refine ⟨fun q => q3 q.as, ?_⟩
    have q3' : ¬ dst ms = ms := fun e => q3 (pair_dst.mp e)
    rw [seqE]
    rw [ifT (κ' := κ) (orT (κ' := κ) (by simp [e6, e7, q3'])), sRaise_def]
  have q3' : dst ms = ms := pair_dst.mpr q3
  by_cases q4 : StOk n L (stamp st ms (last + 1)) (last + 1)
  case neg =>
    left
    refine ⟨fun q => q4 q.ok, ?_⟩
    have : b = false := by cases b; rfl; exact absurd (hb.mp rfl) q4
    subst this
    rw [seqE]
    rw [ifT (κ' := κ), sRaise_def]
    rw [orF (κ' := κ) (by rw [q3'] at e7; simp [e6, e7, q3'])]
    simp [h1, h2, e8]
  right
  have : b = true := hb.mpr q4
  subst this
  refine ⟨⟨q1, un, q3, q4⟩, .val (.lst fl), ?_⟩
  rw [seqN (κ' := κ) (ρ' := [.val (.obj a), .val M, .val (.lst fl), .val S, .no])]
  · rfl
  · rw [ifF (κ' := κ), sNext_def]
    rw [orF (κ' := κ) (by rw [q3'] at e7; simp [e6, e7, q3'])]
    simp [h1, h2, e8]
theorem tick_bad (h : κ[a]? = some (.ins 1 (wf (sweb n R L) K last st T))) (w : WebOk n R L) (hs : st.length = n) (hm : ms.length ≤ 60) (hb : ¬ TickOk n L st last ms) :
    f_ClockWatch_tick [.obj a, mm ms] κ = some (.er 2, κ) := by
  rcases tick_body h w hs hm with ⟨_, e⟩ | ⟨q, _⟩
  · unfold f_ClockWatch_tick mean
    show outR (m_ClockWatch_tick [.val (.obj a), .val (mm ms), .no, .no, .no] κ) = _
    rw [e]; rfl
  · exact absurd q hb
/-- the word that a right paper tells -/
def wordOf (a : Ans) : Str := match a with | .S w _ => w | .X w _ _ => w
theorem tick_ok {lt : Nat} (h : κ[a]? = some (.ins 1 (wf (sweb n R L) (kd p q r u) last st T))) (w : WebOk n R L) (k : Ki p q r u) (hs : st.length = n) (hm : ms.length ≤ 60) (hl : last + 1 = (lt : Nat)) (hl2 : lt ≤ 100) (ok : TickOk n L st last ms) :
    ∃ (t : Ka) (A : Ans), f_ClockWatch_tick [.obj a, mm ms] κ = some (.ok (.str (wordOf A)), κ.set a (.ins 1 (wf (sweb n R L) (kd p q r u) lt (stamp st ms lt) (ansD A))) ++ t) ∧ AnsOk A ∧ Right (lt + 1 + L.length) (stampR p q r u L (stamp st ms lt) lt) L (stamp st ms lt) lt A ∧
      ((∃ ks, A = .S "strange" ks ∧ 0 < ks.length ∧ ks.length ≤ 2000) ∨ ∃ c e, A = .X "explained" c e) := by
  obtain ⟨d, e⟩ : ∃ d, m_ClockWatch_tick [.val (.obj a), .val (mm ms), .no, .no, .no] κ = tickE [.val (.obj a), .val (mm ms), d, .val (stD (stamp st ms (last + 1))), .no] κ := by
    rcases tick_body h w hs hm with ⟨q, _⟩ | ⟨_, q⟩
    · exact absurd ok q
    · exact q
  have hk := ok.ok
  rw [hl] at e hk
  have hal := (List.getElem?_eq_some_iff.mp h).1
  have h1 := wput_last (v := last + 1) (ρ := [.val (.obj a), .val (mm ms), d, .val (stD (stamp st ms lt)), .no]) h
  have h0 := wa_last h
  rw [hl] at h1
  generalize hκ1 : κ.set a (.ins 1 (wf (sweb n R L) (kd p q r u) lt st T)) = κ1 at *
  have g1 : κ1[a]? = some (.ins 1 (wf (sweb n R L) (kd p q r u) lt st T)) := by rw [← hκ1]; exact List.getElem?_set_self hal
  have h2 := wput_stamps (v := stamp st ms lt) (ρ := [.val (.obj a), .val (mm ms), d, .val (stD (stamp st ms lt)), .no]) g1
  have s2 : κ1.set a (.ins 1 (wf (sweb n R L) (kd p q r u) lt (stamp st ms lt) T)) = κ.set a (.ins 1 (wf (sweb n R L) (kd p q r u) lt (stamp st ms lt) T)) := by rw [← hκ1, List.set_set]
  rw [s2] at h2
  generalize hκ2 : κ.set a (.ins 1 (wf (sweb n R L) (kd p q r u) lt (stamp st ms lt) T)) = κ2 at *
  have g2 : κ2[a]? = some (.ins 1 (wf (sweb n R L) (kd p q r u) lt (stamp st ms lt) T)) := by rw [← hκ2]; exact List.getElem?_set_self hal
  obtain ⟨t, A, e3, ao, ri, ki⟩ := explain_ok 0 w hk k hl2 κ2
  have nA : isBor (ansD A) = false := by cases A <;> rfl
  have hal2 : a < κ2.length := by rw [← hκ2]; simpa using hal
  have g3 : (κ2 ++ t)[a]? = some (.ins 1 (wf (sweb n R L) (kd p q r u) lt (stamp st ms lt) T)) := by rw [List.getElem?_append_left hal2]; exact g2
  have h3 := wput_told (v := ansD A) (ρ := [.val (.obj a), .val (mm ms), d, .val (stD (stamp st ms lt)), .no]) g3 nA
  have s3 : (κ2 ++ t).set a (.ins 1 (wf (sweb n R L) (kd p q r u) lt (stamp st ms lt) (ansD A))) = κ.set a (.ins 1 (wf (sweb n R L) (kd p q r u) lt (stamp st ms lt) (ansD A))) ++ t := by
    rw [List.set_append_left _ _ hal2, ← hκ2, List.set_set]
  rw [s3] at h3
  refine ⟨t, A, ?_, ao, ri, ki⟩
  have hal3 : a < (κ.set a (.ins 1 (wf (sweb n R L) (kd p q r u) lt (stamp st ms lt) (ansD A)))).length := by simpa using hal
  have g4 : (κ.set a (.ins 1 (wf (sweb n R L) (kd p q r u) lt (stamp st ms lt) (ansD A))) ++ t)[a]? = some (.ins 1 (wf (sweb n R L) (kd p q r u) lt (stamp st ms lt) (ansD A))) := by
    rw [List.getElem?_append_left hal3]; exact List.getElem?_set_self hal
  generalize κ.set a (.ins 1 (wf (sweb n R L) (kd p q r u) lt (stamp st ms lt) (ansD A))) ++ t = κ4 at *
  have a1 := wa_web g2
  have a2 := wa_kind g2
  have a3 := wa_last g2
  have a4 := wa_stamps g2
  have a5 := wa_told g4
  have a6 : oIdx κ4 (ansD A) (.int 0) = some (.str (wordOf A)) := ans_0
  have hadd : oAddI (.int last) (.int 1) = some (.int lt) := by rw [← hl]; rfl
  suffices hh : tickE [.val (.obj a), .val (mm ms), d, .val (stD (stamp st ms lt)), .no] κ = some (.rt (.str (wordOf A)), κ4) by
    unfold f_ClockWatch_tick mean
    show outR (m_ClockWatch_tick [.val (.obj a), .val (mm ms), .no, .no, .no] κ) = _
    rw [e, hh]; rfl
  unfold tickE
  have n1 := st_nb (s := stamp st ms lt)
  generalize stD (stamp st ms lt) = S at *
  generalize mm ms = M at *
  generalize sweb n R L = W at *
  generalize kd p q r u = KK at *
  generalize ansD A = AA at *
  rw [seqN (κ' := κ1) (ρ' := [.val (.obj a), .val M, d, .val S, .no]) (by simp [h0, hadd, h1])]
  rw [seqN (κ' := κ2) (ρ' := [.val (.obj a), .val M, d, .val S, .no]) (by simp [h2])]
  rw [seqN (κ' := κ4) (ρ' := [.val (.obj a), .val M, d, .val S, .no]) (by simp [a1, a2, a3, a4, e3, h3])]
  simp [a5, a6]
end
end K87
set_option Elab.async false
set_option linter.all false
set_option maxRecDepth 100000
set_option maxHeartbeats 4000000
/-! K87d: begin. -/
namespace K87
open PySem L2 DL BF K82 SH
theorem ed_len : ∀ (N : Nat) (l : List Int), l.length ≤ N → l.eraseDups.length ≤ l.length ∧ (l.eraseDups.length = l.length → l.Nodup)
  | 0, l, h => by cases l with | nil => simp | cons a l => simp at h
  | N + 1, l, h => by
    cases l with
    | nil => simp
    | cons a l =>
      rw [List.eraseDups_cons]
      have h1 := List.length_filter_le (fun b => !b == a) l
      obtain ⟨h2, h3⟩ := ed_len N (l.filter fun b => !b == a) (by simp at h; omega)
      refine ⟨by simp only [List.length_cons]; omega, fun e => ?_⟩
      simp only [List.length_cons] at e
      have h4 : (l.filter fun b => !b == a).length = l.length := by omega
      have h5 := List.length_filter_eq_length_iff.mp h4
      have h6 : (l.filter fun b => !b == a) = l := List.filter_eq_self.mpr h5
      rw [h6] at h3 e
      refine List.nodup_cons.mpr ⟨fun hm => ?_, h3 (by omega)⟩
      have := h5 a hm
      simp at this
theorem dst_nd {ms : List Int} : (dst ms).length = ms.length ↔ ms.Nodup := by
  constructor
  · intro h
    unfold dst at h
    rw [(srt_perm _).length_eq] at h
    exact (ed_len _ ms (Nat.le_refl _)).2 h
  · intro h
    exact (nodup_perm (dst_nodup ms) h fun k => dst_mem).length_eq
section
variable {K T : D} {last : Int} {st : Os} {κ : Ka} {a : Nat} {n : Nat} {R : List Ru} {L : List Lk} {ms : List Int}
/-- a moment of its own that has not begun -/
def isOwn (n : Nat) (L : List Lk) (st : Os) (k : Int) : Bool := decide (1 ≤ k) && decide (k < n) && (lof L k.toNat).isNone && !seenAt st k.toNat
structure BegOk (n : Nat) (L : List Lk) (st : Os) (last : Int) (ms : List Int) : Prop where
  ow : ∀ k ∈ ms, isOwn n L st k = true
  l0 : 0 ≤ last
  nd : ms.Nodup
theorem begin_own (h : κ[a]? = some (.ins 1 (wf (sweb n R L) K last st T))) (w : WebOk n R L) (hs : st.length = n) {ms : List Int} (hm : ms.length ≤ 60) :
    eComp [3] (iAny true (eVar 1)) (gNm 3) (bAnd (bChain cLe cLt (eC (.int 1)) (eVar 3) (eIdx (eAttr 1 "web" (eVar 0)) (eC (.int 0)))) (bAnd (bCmp cIs (eCall 2 f_link_of (aCons (eAttr 1 "web" (eVar 0)) (aCons (eVar 3) aNil))) (eC .non)) (bCmp cIs (eIdx (eAttr 1 "stamps" (eVar 0)) (eVar 3)) (eC .non)))) (eVar 3) [.val (.obj a), .val (mm ms), .no, .no] κ = some (.ok ((ms.filterMap fun k => if isOwn n L st k = true then some (D.int k) else none)), κ) := by
  have w0 : ∀ κ : Ka, oIdx κ (sweb n R L) (.int 0) = some (.int n) := fun κ => sw_0
  have nw := sw_nb (n := n) (R := R) (L := L)
  have lo := fun k => link_of_ok (n := n) (R := R) (κ := κ) w.ll k
  have h1 := wa_web h
  have h4 := wa_stamps h
  have h2 := mm_walk (b := true) (ms := ms)
  have h3 := mm_nb (ms := ms)
  have es := fun (k : Nat) t (hk : st[k]? = some t) => st_at (κ := κ) hk
  generalize stD st = S at *
  generalize sweb n R L = W at *
  generalize mm ms = M at *
  refine eComp_ty D.int ms _ (by simp [h2]) (by omega) fun k hk => ?_
  refine ⟨[.val (.obj a), .val M, .no, .val (.int k)], by simp, ?_⟩
  unfold isOwn
  by_cases q1 : 1 ≤ k
  case neg => exact .inl ⟨by simp [q1], by simp [q1]⟩
  obtain ⟨j, rfl⟩ := Int.eq_ofNat_of_zero_le (show 0 ≤ k by omega)
  have q1' : 1 ≤ j := by omega
  by_cases q2 : j < n
  case neg =>
    have q2' : ¬ (j : Int) < (n : Int) := by omega
    exact .inl ⟨by simp [q2], by simp [q1, h1, w0, q2]⟩
  have lo := lo j
  obtain ⟨t, ht⟩ : ∃ t, st[j]? = some t := ⟨_, List.getElem?_eq_getElem (by omega)⟩
  have e1 := es j t ht
  have e2 : seenAt st j = t.isSome := by unfold seenAt; rw [ht]; rfl
  cases q3 : lof L j with
  | some b => rw [q3] at lo; exact .inl ⟨by simp [q3], by simp [q1, h1, w0, q2, lo, optN]⟩
  | none =>
    rw [q3] at lo
    cases t with
    | some x => exact .inl ⟨by simp [e2], by simp [q1, h1, w0, q2, lo, optN, h4, e1, optI]⟩
    | none => exact .inr ⟨.int j, by simp [q3, q2, e2]; omega, rfl, by simp [q1, h1, w0, q2, lo, optN, h4, e1, optI], by simp⟩
theorem begin_body (h : κ[a]? = some (.ins 1 (wf (sweb n R L) K last st T))) (w : WebOk n R L) (hs : st.length = n) (hm : ms.length ≤ 60) :
    (¬ BegOk n L st last ms ∧ m_ClockWatch_begin [.val (.obj a), .val (mm ms), .no, .no] κ = some (.er 2, κ)) ∨
    (BegOk n L st last ms ∧ ∃ ρ, m_ClockWatch_begin [.val (.obj a), .val (mm ms), .no, .no] κ = some (.nx ρ, κ.set a (.ins 1 (wf (sweb n R L) K last (stamp st ms last) T)))) := by
  have eA := begin_own h w hs hm
  have n6 := w.n6
  have h2 := wa_last h
  have h4 := mm_len (κ := κ) (ms := ms)
  have hfl := fm_len (isOwn n L st) D.int ms
  generalize (ms.filterMap fun k => if isOwn n L st k = true then some (D.int k) else none) = fl at *
  have e6 := mm_set hm
  have hd := dst_nd (ms := ms)
  unfold m_ClockWatch_begin
  rw [seqN (κ' := κ) (ρ' := [.val (.obj a), .val (mm ms), .val (.lst fl), .no]) (by rw [sAsg_def, eFr_def, eA]; rfl)]
  by_cases q0 : 0 ≤ last
  case neg =>
    left
    refine ⟨fun q => q0 q.l0, ?_⟩
    have q0' : last < 0 := by omega
    rw [seqE]
    rw [ifT (orT (κ' := κ) (by generalize mm ms = M at *; simp [h2, q0'])), sRaise_def]
  have q0' : ¬ last < 0 := by omega
  by_cases q1 : ∀ k ∈ ms, isOwn n L st k = true
  case neg =>
    left
    refine ⟨fun q => q1 q.ow, ?_⟩
    have q1' : ¬ fl.length = ms.length := fun e => q1 (hfl.mp e)
    have q1'' : ¬ (fl.length : Int) = (ms.length : Int) := by omega
    rw [seqE]
    rw [ifT (κ' := κ), sRaise_def]
    rw [orF (κ' := κ) (by generalize mm ms = M at *; simp [h2, q0']), orT (κ' := κ) (by generalize mm ms = M at *; simp [h4, q1''])]
  have q1' : (fl.length : Int) = (ms.length : Int) := by have := hfl.mpr q1; omega
  by_cases q2 : ms.Nodup
  case neg =>
    left
    refine ⟨fun q => q2 q.nd, ?_⟩
    have q2' : ¬ (dst ms).length = ms.length := fun e => q2 (hd.mp e)
    have q2'' : ¬ ((dst ms).length : Int) = (ms.length : Int) := by omega
    rw [seqE]
    rw [ifT (κ' := κ), sRaise_def]
    rw [orF (κ' := κ) (by generalize mm ms = M at *; simp [h2, q0']), orF (κ' := κ) (by generalize mm ms = M at *; simp [h4, q1'])]
    generalize mm ms = M at *; simp [h4, e6, q2'']
  right
  have q2' : ((dst ms).length : Int) = (ms.length : Int) := by have := hd.mpr q2; omega
  refine ⟨⟨q1, q0, q2⟩, [.val (.obj a), .val (mm ms), .val (.lst fl), .no], ?_⟩
  rw [seqN (κ' := κ) (ρ' := [.val (.obj a), .val (mm ms), .val (.lst fl), .no])]
  · have eC' := stamped_ok h (by omega) ms last
    have h5 := wi_stamped h
    have h6 := wput_stamps (v := stamp st ms last) (ρ := [.val (.obj a), .val (mm ms), .val (.lst fl), .no]) h
    generalize stD (stamp st ms last) = S at *
    generalize mm ms = M at *
    simp [h2, eC', h5, h6]
  · rw [ifF (κ' := κ), sNext_def]
    rw [orF (κ' := κ) (by generalize mm ms = M at *; simp [h2, q0']), orF (κ' := κ) (by generalize mm ms = M at *; simp [h4, q1'])]
    generalize mm ms = M at *; simp [h4, e6, q2']
theorem begin_bad (h : κ[a]? = some (.ins 1 (wf (sweb n R L) K last st T))) (w : WebOk n R L) (hs : st.length = n) (hm : ms.length ≤ 60) (hb : ¬ BegOk n L st last ms) :
    f_ClockWatch_begin [.obj a, mm ms] κ = some (.er 2, κ) := by
  rcases begin_body h w hs hm with ⟨_, e⟩ | ⟨q, _⟩
  · unfold f_ClockWatch_begin mean
    show outR (m_ClockWatch_begin [.val (.obj a), .val (mm ms), .no, .no] κ) = _
    rw [e]; rfl
  · exact absurd q hb
theorem begin_ok (h : κ[a]? = some (.ins 1 (wf (sweb n R L) K last st T))) (w : WebOk n R L) (hs : st.length = n) (hm : ms.length ≤ 60) (hb : BegOk n L st last ms) :
    f_ClockWatch_begin [.obj a, mm ms] κ = some (.ok .non, κ.set a (.ins 1 (wf (sweb n R L) K last (stamp st ms last) T))) := by
  rcases begin_body h w hs hm with ⟨q, _⟩ | ⟨_, ρ, e⟩
  · exact absurd hb q
  · unfold f_ClockWatch_begin mean
    show outR (m_ClockWatch_begin [.val (.obj a), .val (mm ms), .no, .no] κ) = _
    rw [e]; rfl
/-! ### refusing -/
theorem ok_tick : PyData.strOk "tick" = true := by decide +kernel
theorem ok_begin : PyData.strOk "begin" = true := by decide +kernel
theorem bt : (("begin" : Str) == "tick") = false := by decide +kernel
theorem bindS_er {α : Type} {κ : Ka} {c : Nat} {f : α → Ka → Option (Out × Ka)} : Re.bindS (some (.er c, κ)) f = some (.er c, κ) := rfl
theorem tryEr {h : Nat → Option Bool} {m : Es} {ρ : List Sl} {c : Nat} {b : Bool} {κ κ' : Ka} (e : m ρ κ = some (.er c, κ')) (hb : h c = some b) : sTryR h m ρ κ = some (.rt (.bl b), κ') := by
  unfold sTryR; rw [e]; simp only [hb]
theorem refuses_tick (h : κ[a]? = some (.ins 1 (wf (sweb n R L) K last st T))) (w : WebOk n R L) (hs : st.length = n) (hm : ms.length ≤ 60) (hb : ¬ TickOk n L st last ms) :
    f__law_refuses [.obj a, .str "tick", mm ms] κ = some (.ok (.bl true), κ) := by
  have e1 := tick_bad h w hs hm hb
  have c1 : cEq (.str "tick") (.str "tick") = some true := by rw [cEqS ok_tick ok_tick, beq_self_eq_true]
  have h5 := wi_tick h
  have nm := mm_nb (ms := ms)
  unfold f__law_refuses mean
  show noEr (outR (m__law_refuses [.val (.obj a), .val (.str "tick"), .val (mm ms), .no] κ)) = _
  generalize mm ms = M at *
  have e2 : m__law_refuses [.val (.obj a), .val (.str "tick"), .val M, .no] κ = some (.rt (.bl true), κ) := by
    unfold m__law_refuses
    rw [sSeq_def, tryEr (c := 2) (κ' := κ) (b := true) (by simp [c1, h5, e1, bindS_er]) rfl]
  rw [e2]; rfl
theorem refuses_begin (h : κ[a]? = some (.ins 1 (wf (sweb n R L) K last st T))) (w : WebOk n R L) (hs : st.length = n) (hm : ms.length ≤ 60) (hb : ¬ BegOk n L st last ms) :
    f__law_refuses [.obj a, .str "begin", mm ms] κ = some (.ok (.bl true), κ) := by
  have e1 := begin_bad h w hs hm hb
  have c1 : cEq (.str "begin") (.str "tick") = some false := by rw [cEqS ok_begin ok_tick, bt]
  have h5 := wi_begin h
  have nm := mm_nb (ms := ms)
  unfold f__law_refuses mean
  show noEr (outR (m__law_refuses [.val (.obj a), .val (.str "begin"), .val (mm ms), .no] κ)) = _
  generalize mm ms = M at *
  have e2 : m__law_refuses [.val (.obj a), .val (.str "begin"), .val M, .no] κ = some (.rt (.bl true), κ) := by
    unfold m__law_refuses
    rw [sSeq_def, tryEr (c := 2) (κ' := κ) (b := true) (by simp [c1, h5, e1, bindS_er]) rfl]
  rw [e2]; rfl
end
end K87
set_option Elab.async false
set_option linter.all false
set_option maxRecDepth 100000
set_option maxHeartbeats 4000000
/-! K87e: strange stays strange, plain. -/
namespace K87
open PySem L2 DL BF K82 SH
/-- stamps grow: what was stamped stays, ends that were not stamped by a are stamped later -/
structure Mon (L : List Lk) (S1 : Os) (a : Int) (S2 : Os) : Prop where
  up : ∀ (k : Nat) x, S1[k]? = some (some x) → S2[k]? = some (some x)
  en : ∀ l ∈ L, S1[l.e]? = some none → S2[l.e]? = some none ∨ ∃ y, S2[l.e]? = some (some y) ∧ a < y
section
variable {p q r u : Int} {n : Nat} {R : List Ru} {L : List Lk} {S1 S2 : Os} {a b : Nat}
theorem good_pot (w : WebOk n R L) (h : StOk n L S1 a) (k : Ki p q r u) (hl : a ≤ 100) (hb : ¬ Bad (a + 1 + L.length) (stampR p q r u L S1 a)) : ∃ T : Nat → Int, ∀ x ∈ stampR p q r u L S1 a, T x.j ≤ T x.i + x.w := by
  have hR := stamp_bd (p := p) (q := q) (r := r) (u := u) w h
  obtain ⟨t, A, _, _, ri, ki⟩ := explain_ok 0 w h k hl []
  rcases ki with ⟨ks, rfl, _⟩ | ⟨c, e, rfl⟩
  · exact absurd (bad_bad (fun x hx => ⟨(hR x hx).1, (hR x hx).2.1⟩) ri.2) hb
  · exact ⟨tmA (c ++ zeroed e), fun x hx => by have := ri.2.kp.ru x hx; omega⟩
theorem lo_nn (k : Ki p q r u) {t : Int} (h : 0 ≤ t) : 0 ≤ lo p q t := by
  unfold lo
  rw [le_fl_iff k.q0]
  have := Int.mul_nonneg h (show 0 ≤ p by have := k.p1; omega)
  omega
theorem pot_mono {T : Nat → Int} (k : Ki p q r u) (hT : ∀ x ∈ stampR p q r u L S2 b, T x.j ≤ T x.i + x.w) {i j : Nat} (hij : i ≤ j) (hj : j ≤ b) : T i ≤ T j := by
  by_cases e : i = j
  · subst e; exact Int.le_refl _
  · obtain ⟨d, rfl⟩ : ∃ d, j = i + 1 + d := ⟨j - i - 1, by omega⟩
    have := hT ⟨i + 1 + d, i, -lo p q (d + 1)⟩ (stamp_mem.mpr (.inl ⟨i, d, hj, by simp [pairR]⟩))
    have h2 := lo_nn k (t := (d : Int) + 1) (by omega)
    simp only at this
    omega
theorem bad_mono (w : WebOk n R L) (k : Ki p q r u) (h1 : StOk n L S1 a) (h2 : StOk n L S2 b) (hab : a ≤ b) (hb2 : b ≤ 100) (m : Mon L S1 a S2) (hb : Bad (a + 1 + L.length) (stampR p q r u L S1 a)) : Bad (b + 1 + L.length) (stampR p q r u L S2 b) := by
  refine Classical.byContradiction fun hg => ?_
  obtain ⟨T, hT⟩ := good_pot w h2 k hb2 hg
  let T1 : Nat → Int := fun v => if v ≤ a then T v else T (b + 1 + (v - (a + 1)))
  have e1 : ∀ v, v ≤ a → T1 v = T v := fun v hv => if_pos hv
  have e2 : ∀ c, T1 (a + 1 + c) = T (b + 1 + c) := fun c => by
    show (if a + 1 + c ≤ a then _ else T (b + 1 + (a + 1 + c - (a + 1)))) = _
    rw [if_neg (by omega)]; congr 1; omega
  have up : ∀ c, seenAt S1 c = true → seenAt S2 c = true := fun c hc => by
    obtain ⟨x, hx⟩ := seen_some hc
    exact seen_of (m.up c x hx)
  have e3 : ∀ c, seenAt S1 c = true → T1 (tmo L S1 a c) = T (tmo L S2 b c) := fun c hc => by
    obtain ⟨x, hx⟩ := seen_some hc
    have hx2 := m.up c x hx
    have hbd := h1.bd x (List.mem_of_getElem? hx)
    unfold tmo
    cases lof L c with
    | none =>
      simp only [hx, hx2, Option.getD_some]
      exact e1 _ (by omega)
    | some d => exact e2 d
  refine pot_good (P := T1) (n := a + 1 + L.length) (R := stampR p q r u L S1 a) ?_ hb
  intro x hx
  rcases stamp_mem.mp hx with ⟨a', i, hi, hx⟩ | ⟨b', l, hb', hs, hx⟩
  · have := hT x (stamp_mem.mpr (.inl ⟨a', i, by omega, hx⟩))
    unfold pairR at hx
    simp only [List.mem_cons, List.not_mem_nil, or_false] at hx
    rcases hx with rfl | rfl
    · simp only at this ⊢; rw [e1 a' (by omega), e1 (a' + 1 + i) hi]; exact this
    · simp only at this ⊢; rw [e1 a' (by omega), e1 (a' + 1 + i) hi]; exact this
  · have key : ∀ y, y ∈ linkR L S2 b b' l → T y.j ≤ T y.i + y.w := fun y hy => hT y (stamp_mem.mpr (.inr ⟨b', l, hb', up _ hs, hy⟩))
    have e3 := e3 _ hs
    unfold linkR at hx key
    simp only [List.mem_append, List.mem_cons, List.not_mem_nil, or_false] at hx key
    rcases hx with (rfl | rfl) | hx
    · have := key _ (.inl (.inl rfl))
      simp only at this ⊢; rw [e3, e2]; exact this
    · have := key _ (.inl (.inr rfl))
      simp only at this ⊢; rw [e3, e2]; exact this
    · have hm := List.mem_of_getElem? hb'
      have wl := w.lk l hm
      have hl1 := h1.len
      obtain ⟨te, hte⟩ : ∃ t, S1[l.e]? = some t := ⟨_, List.getElem?_eq_getElem (by omega)⟩
      rw [hte] at hx
      cases te with
      | none =>
        simp [endR] at hx
        subst hx
        simp only
        rw [e2, e1 a (Nat.le_refl _)]
        rcases m.en l hm hte with h5 | ⟨y, h5, h6⟩
        · have := key ⟨b + 1 + b', b, -1⟩ (.inr (by rw [h5]; simp [endR]))
          have h7 := pot_mono k hT hab (Nat.le_refl b)
          simp only at this; omega
        · have := key ⟨b + 1 + b', y.toNat - 1, -1⟩ (.inr (by rw [h5]; simp [endR]))
          have h8 := h2.bd y (List.mem_of_getElem? h5)
          have h7 := pot_mono (i := a) (j := y.toNat - 1) k hT (by omega) (by omega)
          simp only at this; omega
      | some y =>
        have h5 := m.up _ _ hte
        have h8 := h1.bd y (List.mem_of_getElem? hte)
        rw [h5] at key
        simp [endR] at hx
        rcases hx with rfl | rfl
        · have := key ⟨y.toNat, b + 1 + b', 0⟩ (.inr (by simp [endR]))
          simp only at this ⊢; rw [e2, e1 _ (by omega)]; exact this
        · have := key ⟨b + 1 + b', y.toNat - 1, -1⟩ (.inr (by simp [endR]))
          simp only at this ⊢; rw [e2, e1 _ (by omega)]; exact this
end
end K87
set_option Elab.async false
set_option linter.all false
set_option maxRecDepth 100000
set_option maxHeartbeats 4000000
/-! K87f: the law's own word for a tick. -/
namespace K87
open PySem L2 DL BF K82 SH
section
variable {K T : D} {last : Int} {st : Os} {κ : Ka} {a : Nat} {n : Nat} {R : List Ru} {L : List Lk} {ms : List Int}
/-- the ends -/
def eN (L : List Lk) : List Int := L.map fun l => (l.e : Int)
def inE (L : List Lk) (k : Int) : Bool := (eN L).any fun e => e == k
theorem inE_of {k : Int} (h : inE L k = true) (w : WebOk n R L) : ∃ j b l, k = (j : Nat) ∧ j < n ∧ lof L j = some b ∧ L[b]? = some l ∧ l.e = j := by
  unfold inE eN at h
  obtain ⟨e, he, hk⟩ := List.any_eq_true.mp h
  obtain ⟨l, hl, rfl⟩ := List.mem_map.mp he
  have hk := beq_iff_eq.mp hk
  obtain ⟨b, hb⟩ := List.mem_iff_getElem?.mp hl
  exact ⟨l.e, b, l, hk.symm, (w.lk l hl).2.1, lof_nd w.nd hb, hb, rfl⟩
theorem inE_end (w : WebOk n R L) (k : Int) : inE L k = isEnd n L k := by
  rw [Bool.eq_iff_iff]
  constructor
  · intro h
    obtain ⟨j, b, l, rfl, h1, h2, _⟩ := inE_of h w
    unfold isEnd
    simp [h1, h2]
  · intro h
    unfold isEnd at h
    simp only [Bool.and_eq_true, decide_eq_true_eq] at h
    obtain ⟨⟨h1, h2⟩, h3⟩ := h
    obtain ⟨j, rfl⟩ := Int.eq_ofNat_of_zero_le h1
    unfold inE eN
    rw [any_lof]; simpa using h3
theorem ends_comp {f v : Nat} {ρ : List Sl} {κ : Ka} {z : D} (w : WebOk n R L) (hf : ρ[f]? = some (.val (sweb n R L))) (hv : v < ρ.length) (hne : f ≠ v) :
    eComp [v] (iAny true (eIdx (eVar f) (eC (.int 2)))) (gNm v) bYes (eIdx (eVar v) (eC (.int 1))) ρ κ = some (.ok ((eN L).map D.int), κ) := by
  have w2 : ∀ κ : Ka, oIdx κ (sweb n R L) (.int 2) = some (.tup (L.map lkD)) := fun κ => sw_2
  have nw := sw_nb (n := n) (R := R) (L := L)
  have hL := w.ll
  generalize sweb n R L = W at *
  have eV : ∀ (ρ : List Sl) (κ : Ka) (f : Nat) (d : D), ρ[f]? = some (.val d) → eVar f ρ κ = some (.ok d, κ) := fun ρ κ f d h => by unfold eVar; simp [h]
  have hf2 : (wipeR ρ [v])[f]? = some (.val W) := by simp [hf, Ne.symm hne]
  have e := eComp_tyM (vs := [v]) (n := iAny true (eIdx (eVar f) (eC (.int 2)))) (g := gNm v) (e := eIdx (eVar v) (eC (.int 1))) (ρ := ρ) (κ := κ) (κ1 := κ) lkD L (fun l => .int l.e) (by simp [eV ρ κ f W hf, w2]) (by omega) (fun l _ => ⟨_, gNm_ok lk_nb, rfl, by
    simp [eV (ρ.set v (.val (lkD l))) κ v (lkD l) (by simp [hv]), lk_1]⟩)
  have e7 : (L.map fun l => D.int l.e) = (eN L).map D.int := by unfold eN; rw [List.map_map]; rfl
  rw [e7] at e
  exact e
theorem cNeL (l m : List Int) : cNe (.lst (l.map D.int)) (.lst (m.map D.int)) = some (!decide (l = m)) := by
  rw [cNe_of (okD_intsL l) (okD_intsL m), D.py, D.py, PyData.eqv, eqvAll_ints]
theorem cNotIn_eN (k : Int) : cNotIn (.int k) (.lst ((eN L).map D.int)) = some (!inE L k) := by
  have := cIn_ints k (eN L)
  unfold cNotIn; rw [this]; rfl
theorem cIn_eN (k : Int) : cIn (.int k) (.lst ((eN L).map D.int)) = some (inE L k) := cIn_ints k (eN L)
theorem oIndex_eN {j b : Nat} (h : lof L j = some b) : oIndex ((eN L).map D.int) (.int j) = some (.int b) := by
  unfold oIndex
  simp only [intsOf_map, Option.bind_some]
  unfold eN
  rw [idxOf_lof, h]; rfl
theorem adj_of {ms : List Int} (h : ms.Pairwise (· < ·)) : ∀ k : Nat, k + 1 < ms.length → gI ms k ≠ gI ms (k + 1) := fun k hk e => by
  rw [gI_eq, gI_eq, List.getElem?_eq_getElem (by omega), List.getElem?_eq_getElem hk] at e
  have := List.pairwise_iff_getElem.mp h k (k + 1) (by omega) hk (by omega)
  simp at e; omega
theorem mm_at {k : Nat} (h : k < ms.length) {κ : Ka} : oIdx κ (mm ms) (.int (k : Nat)) = some (.int (gI ms k)) := by
  unfold mm
  exact tup_at (by rw [gI_eq, List.getElem?_eq_getElem h]; rfl)
theorem may_tick_ok (w : WebOk n R L) (hs : st.length = n) (hm : ms.length ≤ 60) (lt : Int) :
    ∃ b, f__law_may_tick [sweb n R L, stD st, .int lt, mm ms] κ = some (.ok (.bl b), κ) ∧ (b = false → ¬ TickOk n L st (lt - 1) ms) := by
  suffices h : wpE (f__law_may_tick [sweb n R L, stD st, .int lt, mm ms] κ) fun d κ' => ∃ b, d = .bl b ∧ κ' = κ ∧ (b = false → ¬ TickOk n L st (lt - 1) ms) by
    obtain ⟨d, κ', e, b, rfl, rfl, h2⟩ := wpE_eq.mp h
    exact ⟨b, e, h2⟩
  unfold f__law_may_tick
  refine mean_wp ?_
  show wpS (m__law_may_tick [.val (sweb n R L), .val (stD st), .val (.int lt), .val (mm ms), .no, .no, .no, .no] κ) _ _ _ _
  unfold m__law_may_tick
  simp only [wpS_seq]
  have w2 : ∀ κ : Ka, oIdx κ (sweb n R L) (.int 2) = some (.tup (L.map lkD)) := fun κ => sw_2
  have nw := sw_nb (n := n) (R := R) (L := L)
  have ns := st_nb (s := st)
  have es := fun (k : Nat) t (hk : st[k]? = some t) => st_at (κ := κ) hk
  have eE := ends_comp (f := 0) (v := 7) (ρ := [.val (sweb n R L), .val (stD st), .val (.int lt), .val (mm ms), .no, .no, .no, .no]) (κ := κ) (z := .non) w rfl (by simp) (by simp)
  have ein := fun k => cIn_eN (L := L) k
  have enin := fun k => cNotIn_eN (L := L) k
  have eix := fun {j b : Nat} (h : lof L j = some b) => oIndex_eN h
  have min := fun v => mm_in v ms
  have mnin := fun v => mm_notin v ms
  have mat := fun {k : Nat} (h : k < ms.length) (κ : Ka) => mm_at (κ := κ) h
  have mln := mm_len (κ := κ) (ms := ms)
  have mwk := fun b => mm_walk (b := b) (ms := ms)
  have mnb := mm_nb (ms := ms)
  have cl : cNe (.lst (ms.map D.int)) (.lst ((srt ms).map D.int)) = some (!decide (ms = srt ms)) := cNeL ms (srt ms)
  have bl : bList κ [mm ms] = some (ms.map D.int) := rfl
  have fs : (seqOf (mm ms)).bind intsOf = some ms := by unfold mm seqOf; simp [intsOf_map]
  have enb : ∀ ds, isBor (.lst ds) = false := fun _ => rfl
  generalize hEN : (eN L).map D.int = EN at *
  generalize hW : sweb n R L = W at *
  generalize stD st = S at *
  generalize hM : mm ms = M at *
  refine wpS_atom (k := κ) (ρ' := [.val W, .val S, .val (.int lt), .val M, .val (.lst EN), .no, .no, .no]) (by rw [sAsg_def, eFr_def, eE]; simp) ?_
  rw [wpS_if]
  have eB : bCmp cNe (eFr (fBi bList (aCons (eVar 3) aNil))) (eFr (fSort (eVar 3))) [.val W, .val S, .val (.int lt), .val M, .val (.lst EN), .no, .no, .no] κ = some (.ok (!decide (ms = srt ms)), κ) := by simp [bl, fs, cl]
  have eC' := cnt_gt (vs := [5]) (n := iRange1 (aCons (eOp oSub (eBi bLen (aCons (eVar 3) aNil)) (eC (.int 1))) aNil)) (g := gNm 5) (t := bCmp cEq (eIdx (eVar 3) (eVar 5)) (eIdx (eVar 3) (eOp oAdd (eVar 5) (eC (.int 1))))) (ρ := [.val W, .val S, .val (.int lt), .val M, .val (.lst EN), .no, .no, .no]) (κ := κ) (κ1 := κ) (fun (k : Nat) => D.int k) (List.range (ms.length - 1)) (fun k => gI ms k == gI ms (k + 1)) (by
      have e1 : (List.range (ms.length - 1)).map (fun (k : Nat) => D.int k) = rangeD 0 ((ms.length : Int) - 1) := by
        unfold rangeD
        rw [show (((ms.length : Int) - 1) - 0).toNat = ms.length - 1 by omega]
        simp
      rw [e1]
      exact range1_ok (by omega) (by simp [mln])) (by simp; omega) (fun k hk => by
        have hk := List.mem_range.mp hk
        have e1 := mat (k := k) (by omega) κ
        have e2 := mat (k := k + 1) (by omega) κ
        have e3 : ((k + 1 : Nat) : Int) = (k : Int) + 1 := by omega
        rw [e3] at e2
        exact ⟨_, gNm_ok rfl, by simp [e1, e2]⟩)
  by_cases q1 : ms = srt ms
  case neg =>
    refine wpE_atom (a := true) (k := κ) (by rw [bOr_def, eB]; simp [q1]) ?_
    rw [if_pos rfl]
    refine wpS_atomR (d := .bl false) (k := κ) (by simp) ⟨false, rfl, rfl, fun _ h => q1 (srt_eq (List.Perm.refl _) (h.as.imp fun q => Int.le_of_lt q))⟩
  by_cases q2 : ((List.range (ms.length - 1)).any fun k => gI ms k == gI ms (k + 1)) = true
  · refine wpE_atom (a := true) (k := κ) (by rw [bOr_def, eB, bind_ok, if_neg (by simp [← q1]), eC', q2]) ?_
    rw [if_pos rfl]
    refine wpS_atomR (d := .bl false) (k := κ) (by simp) ⟨false, rfl, rfl, fun _ h => ?_⟩
    obtain ⟨k, hk, he⟩ := List.any_eq_true.mp q2
    have hk := List.mem_range.mp hk
    exact adj_of h.as k (by omega) (by simpa using he)
  refine wpE_atom (a := false) (k := κ) (by rw [bOr_def, eB, bind_ok, if_neg (by simp [← q1]), eC', Bool.eq_false_iff.mpr q2]) ?_
  rw [if_neg (by simp), wpS_next, wpS_if]
  clear eB eC' cl bl fs
  have eD := cnt_gt (vs := [5]) (n := iAny true (eVar 3)) (g := gNm 5) (t := bOr (bCmp cNotIn (eVar 5) (eVar 4)) (bCmp cIsNot (eIdx (eVar 1) (eVar 5)) (eC .non))) (ρ := [.val W, .val S, .val (.int lt), .val M, .val (.lst EN), .no, .no, .no]) (κ := κ) (κ1 := κ) D.int ms (fun k => !inE L k || seenAt st k.toNat) (by simp [mwk]) (by omega) (fun k _ => by
    refine ⟨_, gNm_ok rfl, ?_⟩
    have e1 := enin k
    cases q : inE L k with
    | false => rw [q] at e1; simp [e1]
    | true =>
      rw [q] at e1
      obtain ⟨j, b, l, rfl, h1, h2, _⟩ := inE_of q w
      obtain ⟨t, ht⟩ : ∃ t, st[j]? = some t := ⟨_, List.getElem?_eq_getElem (by omega)⟩
      have e2 := es j t ht
      have e3 : seenAt st j = t.isSome := by unfold seenAt; rw [ht]; rfl
      cases t <;> simp [e1, e2, e3, optI])
  by_cases q3 : (ms.any fun k => !inE L k || seenAt st k.toNat) = true
  · refine wpE_atom (a := true) (k := κ) (by rw [bOr_def, eD, bind_ok, if_pos q3]) ?_
    rw [if_pos rfl]
    refine wpS_atomR (d := .bl false) (k := κ) (by simp) ⟨false, rfl, rfl, fun _ h => ?_⟩
    obtain ⟨k, hk, he⟩ := List.any_eq_true.mp q3
    have h1 := h.en k hk
    have h2 := seen_none (h.un k hk)
    rw [inE_end w, h1, h2] at he
    simp at he
  have good : ∀ k ∈ ms, inE L k = true ∧ seenAt st k.toNat = false := fun k hk => by
    have := List.any_eq_false.mp (Bool.eq_false_iff.mpr q3) k hk
    simpa using this
  by_cases q4 : lt < 1 ∧ 0 < ms.length
  · have q4a := q4.1
    have q4b : (0 : Int) < ms.length := by omega
    refine wpE_atom (a := true) (k := κ) (by rw [bOr_def, eD, bind_ok, if_neg q3]; simp [mln, q4a]; omega) ?_
    rw [if_pos rfl]
    refine wpS_atomR (d := .bl false) (k := κ) (by simp) ⟨false, rfl, rfl, fun _ h => ?_⟩
    have := h.ok.l0
    have hk : gI ms 0 ∈ ms := by
      rw [gI_eq, List.getElem?_eq_getElem q4.2]; exact List.getElem_mem _
    obtain ⟨j, b, l, h0, h1, h2, h3, h4⟩ := inE_of (good _ hk).1 w
    have h5 := h.ok.lk l (List.mem_of_getElem? h3) (lt - 1 + 1) (by
      rw [stamp_at, h4]
      rw [List.getElem?_eq_getElem (by omega)]
      simp [← h0, hk])
    omega
  refine wpE_atom (a := false) (k := κ) (by
    rw [bOr_def, eD, bind_ok, if_neg q3]
    by_cases q5 : lt < 1
    · have : ms = [] := List.length_eq_zero_iff.mp (by omega)
      subst this
      simp [mln, q5]
    · simp [q5]) ?_
  rw [if_neg (by simp), wpS_next]
  refine wpS_forE (κ1 := κ) (ms.map D.int) (by simp [mwk]) (fun i ρ κ' => κ' = κ ∧ ∃ z5 z6, ρ = [.val W, .val S, .val (.int lt), .val M, .val (.lst EN), z5, z6, .no]) ⟨rfl, _, _, rfl⟩ ?_ ?_
  · rintro i d ρ κ' hd ⟨rfl, z5, z6, rfl⟩
    rw [List.getElem?_map] at hd
    obtain ⟨k, hk, rfl⟩ := Option.map_eq_some_iff.mp hd
    have hk := List.mem_of_getElem? hk
    obtain ⟨g1, g2⟩ := good k hk
    obtain ⟨j, b, l, rfl, h1, h2, h3, h4⟩ := inE_of g1 w
    refine ⟨_, gNm_ok rfl, ?_⟩
    simp only [wpS_seq]
    have wl := w.lk l (List.mem_of_getElem? h3)
    have e1 := eix h2
    have e2 : oIdx κ' (.tup (L.map lkD)) (.int b) = some (lkD l) := tup_at h3
    obtain ⟨t, ht⟩ : ∃ t, st[l.b]? = some t := ⟨_, List.getElem?_eq_getElem (by omega)⟩
    have e3 := es l.b t ht
    have e4 := mnin l.b
    generalize hLK : D.tup (L.map lkD) = LK at *
    refine wpS_atom (k := κ') (ρ' := [.val W, .val S, .val (.int lt), .val M, .val (.lst EN), .val (.int j), .val (.int l.b), .no]) (by simp [w2, e1, e2, lk_0]) ?_
    by_cases q : t = none ∧ (l.b : Int) ∉ ms
    · obtain ⟨rfl, q⟩ := q
      refine wpS_atomR (d := .bl false) (k := κ') (by simp [e3, optI, e4, q]) ⟨false, rfl, rfl, fun _ h => ?_⟩
      have h5 := h.ok.lk l (List.mem_of_getElem? h3) (lt - 1 + 1) (by
        rw [stamp_at, h4, List.getElem?_eq_getElem (by omega)]
        simp [hk])
      refine h5.2 ?_
      rw [stamp_at, ht]
      simp [q]
    · refine wpS_atom (k := κ') (ρ' := [.val W, .val S, .val (.int lt), .val M, .val (.lst EN), .val (.int j), .val (.int l.b), .no]) ?_ ⟨rfl, _, _, rfl⟩
      cases t with
      | some x => simp [e3, optI]
      | none =>
        have q' : (l.b : Int) ∈ ms := Classical.byContradiction fun q2 => q ⟨rfl, q2⟩
        simp [e3, optI, e4, q']
  · rintro ρ κ' ⟨rfl, z5, z6, rfl⟩
    exact wpS_atomR (d := .bl true) (k := κ') (by simp) ⟨true, rfl, rfl, fun h => by cases h⟩
end
end K87
set_option Elab.async false
set_option linter.all false
set_option maxRecDepth 100000
set_option maxHeartbeats 4000000
/-! K87g: wrong deeds are refused. -/
namespace K87
open PySem L2 DL BF K82 SH
theorem sm_st {k : Nat} {st : Os} (h : st.length ≤ 16777216) : Sm (k + 2) (stD st) :=
  .tup (fun d hd => by
    obtain ⟨t, _, rfl⟩ := List.mem_map.mp hd
    cases t
    · exact .non
    · exact .int) (by simpa using h)
theorem sm_seen {st : Os} {v : Int} (h : st.length ≤ 16777216) : Sm 12 (.tup [.int v, stD st]) :=
  .tup (fun d hd => by
    simp only [List.mem_cons, List.not_mem_nil, or_false] at hd
    rcases hd with rfl | rfl
    · exact .int
    · exact sm_st h) (by simp)
theorem fm_map {α : Type} (p : α → Bool) (g : α → List Int) (L : List α) : (L.filterMap fun a => if p a = true then some (mm (g a)) else none) = ((L.filter p).map g).map mm := by
  induction L with
  | nil => rfl
  | cons a L ih =>
    rw [List.filterMap_cons, List.filter_cons]
    by_cases q : p a = true
    · rw [if_pos q, if_pos q]; simp [ih]
    · rw [if_neg q, if_neg q]; simp [ih]
theorem range_nat {n : Nat} (h : 1 ≤ n) : rangeD 1 n = (List.range (n - 1)).map fun (k : Nat) => D.int (1 + (k : Int)) := by
  unfold rangeD
  rw [show ((n : Int) - 1).toNat = n - 1 by omega]
theorem mm_eq (l : List Int) : D.tup (l.map D.int) = mm l := rfl
section
variable {K T : D} {last : Int} {st : Os} {κ : Ka} {a : Nat} {n : Nat} {R : List Ru} {L : List Lk} {ms : List Int}
theorem wrong_ok {DL : D} (h : κ[a]? = some (.ins 1 (wf (sweb n R L) K last st T))) (w : WebOk n R L) (hs : st.length = n) (hL : L.length ≤ 50) :
    f__law_wrong [DL, .obj a, sweb n R L, stD st, .int last] κ = some (.ok (.bl true), κ) := by
  refine eq_of_wp ?_
  unfold f__law_wrong
  refine mean_wp ?_
  show wpS (m__law_wrong [.val DL, .val (.obj a), .val (sweb n R L), .val (stD st), .val (.int last), .no, .no, .no, .no, .no] κ) _ _ _ _
  unfold m__law_wrong
  simp only [wpS_seq]
  have n6 := w.n6
  have n2 := w.n2
  have eE := ends_comp (f := 2) (v := 8) (ρ := [.val DL, .val (.obj a), .val (sweb n R L), .val (stD st), .val (.int last), .no, .no, .no, .no, .no]) (κ := κ) (z := .non) w rfl (by simp) (by simp)
  have w0 : ∀ κ : Ka, oIdx κ (sweb n R L) (.int 0) = some (.int n) := fun κ => sw_0
  have nw := sw_nb (n := n) (R := R) (L := L)
  have es := fun (k : Nat) t (hk : st[k]? = some t) => st_at (κ := κ) hk
  have ein := fun k => cIn_eN (L := L) k
  have may := fun {ms : List Int} (hm : ms.length ≤ 60) => may_tick_ok (κ := κ) (R := R) (L := L) (st := st) (ms := ms) w hs hm (last + 1)
  rw [Int.add_sub_cancel] at may
  have rft := fun {ms : List Int} (hm : ms.length ≤ 60) => refuses_tick (ms := ms) h w hs hm
  have rfb := fun {ms : List Int} (hm : ms.length ≤ 60) => refuses_begin (ms := ms) h w hs hm
  have hse := seen_ok h
  have hws := wi_seen h
  have hsm := same_ok (κ := κ) (sm_seen (st := st) (v := last) (by omega))
  have nst := st_nb (s := st)
  have mnb := fun ms => mm_nb (ms := ms)
  have sq : (seqOf (.lst ((eN L).map D.int))).bind intsOf = some (eN L) := by unfold seqOf; simp [intsOf_map]
  have eNl : (eN L).length = L.length := by simp [eN]
  have ewk : walkD true (.lst ((eN L).map D.int)) = some ((eN L).map D.int) := rfl
  generalize hEN : (eN L).map D.int = EN at *
  generalize sweb n R L = W at *
  generalize stD st = S at *
  refine wpS_atom (k := κ) (ρ' := [.val DL, .val (.obj a), .val W, .val S, .val (.int last), .val (.lst EN), .no, .no, .no, .no]) (by rw [sAsg_def, eFr_def, eE]; simp) ?_
  have c1 := fun (f : List Int → List Int) => eComp_tyM (vs := [9]) (n := iRange2 (aCons (eC (.int 1)) (aCons (eIdx (eVar 2) (eC (.int 0))) aNil))) (g := gNm 9) (e := eTup (aCons (eVar 9) aNil)) (ρ := [.val DL, .val (.obj a), .val W, .val S, .val (.int last), .val (.lst EN), .no, .no, .no, .no]) (κ := κ) (κ1 := κ) (fun (k : Nat) => D.int (1 + (k : Int))) (List.range (n - 1)) (fun k => mm [1 + (k : Int)]) (by rw [← range_nat (by omega)]; exact range2_ok (by omega) (by omega) (by simp [w0])) (by simp; omega) (fun k _ => ⟨_, gNm_ok rfl, rfl, by simp [mm]⟩)
  have c2 := eComp_tyM (vs := [9]) (n := iAny true (eVar 5)) (g := gNm 9) (e := eTup (aCons (eVar 9) (aCons (eVar 9) aNil))) (ρ := [.val DL, .val (.obj a), .val W, .val S, .val (.int last), .val (.lst EN), .no, .no, .no, .no]) (κ := κ) (κ1 := κ) D.int (eN L) (fun k => mm [k, k]) (by simp [ewk, hEN]) (by omega) (fun k _ => ⟨_, gNm_ok rfl, rfl, by simp [mm]⟩)
  have key : ∃ O : List (List Int), (∀ o ∈ O, o.length ≤ 60) ∧ sAsg (gNm 6) (eOp oAdd (eOp oAdd (eOp oAdd (eFr (fLst (aCons (eTup (aCons (eC (.int 0)) aNil)) (aCons (eTup (aCons (eIdx (eVar 2) (eC (.int 0))) aNil)) (aCons (eTup (aCons (eNeg (eC (.int 1))) aNil)) aNil))))) (eFr (eComp [9] (iRange2 (aCons (eC (.int 1)) (aCons (eIdx (eVar 2) (eC (.int 0))) aNil))) (gNm 9) bYes (eTup (aCons (eVar 9) aNil))))) (eFr (eComp [9] (iAny true (eVar 5)) (gNm 9) bYes (eTup (aCons (eVar 9) (aCons (eVar 9) aNil)))))) (eFr (fLst (aCons (eBi bTuple (aCons (eFr (fSort (eVar 5))) aNil)) (aCons (eRev (eBi bTuple (aCons (eFr (fSort (eVar 5))) aNil))) aNil))))) [.val DL, .val (.obj a), .val W, .val S, .val (.int last), .val (.lst EN), .no, .no, .no, .no] κ = some (.nx [.val DL, .val (.obj a), .val W, .val S, .val (.int last), .val (.lst EN), .val (.lst (O.map mm)), .no, .no, .no], κ) := by
    refine ⟨[[0], [(n : Int)], [-1]] ++ ((List.range (n - 1)).map fun (k : Nat) => [1 + (k : Int)]) ++ ((eN L).map fun k => [k, k]) ++ [srt (eN L), (srt (eN L)).reverse], ?_, ?_⟩
    · intro o ho
      simp only [List.mem_append, List.mem_cons, List.not_mem_nil, or_false, List.mem_map] at ho
      rcases ho with ((ho | ho) | ho) | ho
      · rcases ho with rfl | rfl | rfl <;> simp
      · obtain ⟨k, _, rfl⟩ := ho; simp
      · obtain ⟨k, _, rfl⟩ := ho; simp
      · have := (srt_perm (eN L)).length_eq
        rcases ho with rfl | rfl
        · omega
        · rw [List.length_reverse]; omega
    · have c1 := c1 id
      have l1 : (List.map (fun (k : Nat) => mm [1 + (k : Int)]) (List.range (n - 1))).length = n - 1 := by simp
      have l2 : ((eN L).map fun k => mm [k, k]).length = L.length := by simp [eNl]
      have e3 : (([[0], [(n : Int)], [-1]] ++ ((List.range (n - 1)).map fun (k : Nat) => [1 + (k : Int)]) ++ ((eN L).map fun k => [k, k]) ++ [srt (eN L), (srt (eN L)).reverse]) : List (List Int)).map mm = [D.tup [.int 0], .tup [.int n], .tup [.int (-1)]] ++ (List.map (fun (k : Nat) => mm [1 + (k : Int)]) (List.range (n - 1))) ++ ((eN L).map fun k => mm [k, k]) ++ [.tup ((srt (eN L)).map D.int), .tup ((srt (eN L)).map D.int).reverse] := by
        simp [mm, Function.comp_def]
      rw [e3]
      generalize (List.map (fun (k : Nat) => mm [1 + (k : Int)]) (List.range (n - 1))) = Z1 at *
      generalize ((eN L).map fun k => mm [k, k]) = Z2 at *
      generalize hZ3 : (srt (eN L)).map D.int = Z3 at *
      have l3 : ([D.tup [.int 0], .tup [.int n], .tup [.int (-1)]]).length + Z1.length ≤ 16777216 := by simp; omega
      have l4 : ([D.tup [.int 0], .tup [.int n], .tup [.int (-1)]] ++ Z1).length + Z2.length ≤ 16777216 := by simp; omega
      have l5 : ([D.tup [.int 0], .tup [.int n], .tup [.int (-1)]] ++ Z1 ++ Z2).length + ([D.tup Z3, .tup Z3.reverse]).length ≤ 16777216 := by simp; omega
      have f1 : eFr (fLst (aCons (eTup (aCons (eC (.int 0)) aNil)) (aCons (eTup (aCons (eIdx (eVar 2) (eC (.int 0))) aNil)) (aCons (eTup (aCons (eNeg (eC (.int 1))) aNil)) aNil)))) [.val DL, .val (.obj a), .val W, .val S, .val (.int last), .val (.lst EN), .no, .no, .no, .no] κ = some (.ok (.lst [D.tup [.int 0], .tup [.int n], .tup [.int (-1)]]), κ) := by simp [w0]
      have f4 : eFr (fLst (aCons (eBi bTuple (aCons (eFr (fSort (eVar 5))) aNil)) (aCons (eRev (eBi bTuple (aCons (eFr (fSort (eVar 5))) aNil))) aNil))) [.val DL, .val (.obj a), .val W, .val S, .val (.int last), .val (.lst EN), .no, .no, .no, .no] κ = some (.ok (.lst [D.tup Z3, .tup Z3.reverse]), κ) := by simp [sq, ← hZ3]
      rw [sAsg_def, eOp_def, eOp_def, eOp_def, f1]
      simp only [bind_ok]
      rw [eFr_def, c1]
      simp only [bind_ok, ret_def]
      rw [oAdd_lst l3]
      simp only [rOf_some, bind_ok]
      rw [eFr_def, c2]
      simp only [bind_ok, ret_def]
      rw [oAdd_lst l4]
      simp only [rOf_some, bind_ok]
      rw [f4]
      simp only [bind_ok]
      rw [oAdd_lst l5]
      rfl
  obtain ⟨O, hO, eO⟩ := key
  refine wpS_atom (k := κ) eO ?_
  clear eO
  refine wpS_forE (κ1 := κ) (O.map mm) (by simp) (fun i ρ κ' => κ' = κ ∧ ∃ z7, ρ = [.val DL, .val (.obj a), .val W, .val S, .val (.int last), .val (.lst EN), .val (.lst (O.map mm)), z7, .no, .no]) ⟨rfl, _, rfl⟩ ?_ ?_
  · rintro i d ρ κ' hd ⟨rfl, z7, rfl⟩
    rw [List.getElem?_map] at hd
    obtain ⟨o, ho, rfl⟩ := Option.map_eq_some_iff.mp hd
    have ho := hO o (List.mem_of_getElem? ho)
    obtain ⟨b, e1, e2⟩ := may ho
    refine ⟨_, gNm_ok rfl, ?_⟩
    have e3 := rft ho
    generalize mm o = M at *
    generalize O.map mm = OM at *
    refine wpS_atom (k := κ') (ρ' := [.val DL, .val (.obj a), .val W, .val S, .val (.int last), .val (.lst EN), .val (.lst OM), .val M, .no, .no]) ?_ ⟨rfl, _, rfl⟩
    cases b with
    | true => simp [e1]
    | false => simp [e1, e3 (e2 rfl)]
  · rintro ρ κ' ⟨rfl, z7, rfl⟩
    generalize O.map mm = OM at *
    have c3 := eComp_tyM (vs := [9]) (n := iRange2 (aCons (eC (.int 1)) (aCons (eIdx (eVar 2) (eC (.int 0))) aNil))) (g := gNm 9) (e := eTup (aCons (eVar 9) (aCons (eVar 9) aNil))) (ρ := [.val DL, .val (.obj a), .val W, .val S, .val (.int last), .val (.lst EN), .val (.lst OM), z7, .no, .no]) (κ := κ') (κ1 := κ') (fun (k : Nat) => D.int (1 + (k : Int))) (List.range (n - 1)) (fun k => mm [1 + (k : Int), 1 + (k : Int)]) (by rw [← range_nat (by omega)]; exact range2_ok (by omega) (by omega) (by simp [w0])) (by simp; omega) (fun k _ => ⟨_, gNm_ok rfl, rfl, by simp [mm]⟩)
    have c4 := eComp_ty (vs := [9]) (n := iRange2 (aCons (eC (.int 1)) (aCons (eIdx (eVar 2) (eC (.int 0))) aNil))) (g := gNm 9) (t := bOr (bCmp cIn (eVar 9) (eVar 5)) (bOr (bCmp cIsNot (eIdx (eVar 3) (eVar 9)) (eC .non)) (bCmp cLt (eVar 4) (eC (.int 0))))) (e := eTup (aCons (eVar 9) aNil)) (ρ := [.val DL, .val (.obj a), .val W, .val S, .val (.int last), .val (.lst EN), .val (.lst OM), z7, .no, .no]) (κ := κ') (κ1 := κ') (fun (k : Nat) => D.int (1 + (k : Int))) (List.range (n - 1)) (fun (k : Nat) => if (inE L (1 + (k : Int)) || seenAt st (1 + k) || decide (last < 0)) = true then some (mm [1 + (k : Int)]) else none) (by rw [← range_nat (by omega)]; exact range2_ok (by omega) (by omega) (by simp [w0])) (by simp; omega) (fun k hk => by
      have hk := List.mem_range.mp hk
      refine ⟨_, gNm_ok rfl, ?_⟩
      have e1 := ein (1 + (k : Int))
      obtain ⟨t, ht⟩ : ∃ t, st[1 + k]? = some t := ⟨_, List.getElem?_eq_getElem (by omega)⟩
      have e2 := es (1 + k) t ht
      have e3 : seenAt st (1 + k) = t.isSome := by unfold seenAt; rw [ht]; rfl
      rw [show ((1 + k : Nat) : Int) = 1 + (k : Int) by omega] at e2
      cases q1 : inE L (1 + (k : Int)) with
      | true => rw [q1] at e1; exact .inr ⟨mm [1 + (k : Int)], by simp [q1], rfl, by simp [e1], by simp [mm]⟩
      | false =>
        rw [q1] at e1
        cases t with
        | some x => exact .inr ⟨mm [1 + (k : Int)], by simp [q1, e3], rfl, by simp [e1, e2, optI], by simp [mm]⟩
        | none =>
          by_cases q2 : last < 0
          · exact .inr ⟨mm [1 + (k : Int)], by simp [q1, e3, q2], rfl, by simp [e1, e2, optI, q2], by simp [mm]⟩
          · exact .inl ⟨by simp [q1, e3, q2], by simp [e1, e2, optI, q2]⟩)
    rw [fm_map] at c4
    have key2 : ∃ B : List (List Int), (∀ o ∈ B, o.length ≤ 60 ∧ ¬ BegOk n L st last o) ∧ iAny false (eOp oAdd (eOp oAdd (eFr (fLst (aCons (eTup (aCons (eC (.int 0)) aNil)) (aCons (eTup (aCons (eIdx (eVar 2) (eC (.int 0))) aNil)) (aCons (eTup (aCons (eNeg (eC (.int 1))) aNil)) aNil))))) (eFr (eComp [9] (iRange2 (aCons (eC (.int 1)) (aCons (eIdx (eVar 2) (eC (.int 0))) aNil))) (gNm 9) bYes (eTup (aCons (eVar 9) (aCons (eVar 9) aNil)))))) (eFr (eComp [9] (iRange2 (aCons (eC (.int 1)) (aCons (eIdx (eVar 2) (eC (.int 0))) aNil))) (gNm 9) (bOr (bCmp cIn (eVar 9) (eVar 5)) (bOr (bCmp cIsNot (eIdx (eVar 3) (eVar 9)) (eC .non)) (bCmp cLt (eVar 4) (eC (.int 0))))) (eTup (aCons (eVar 9) aNil))))) [.val DL, .val (.obj a), .val W, .val S, .val (.int last), .val (.lst EN), .val (.lst OM), z7, .no, .no] κ' = some (.ok (B.map mm), κ') := by
      refine ⟨[[0], [(n : Int)], [-1]] ++ ((List.range (n - 1)).map fun (k : Nat) => [1 + (k : Int), 1 + (k : Int)]) ++ ((List.range (n - 1)).filter fun (k : Nat) => inE L (1 + (k : Int)) || seenAt st (1 + k) || decide (last < 0)).map fun (k : Nat) => [1 + (k : Int)], ?_, ?_⟩
      · intro o ho
        simp only [List.mem_append, List.mem_cons, List.not_mem_nil, or_false, List.mem_map, List.mem_filter] at ho
        rcases ho with (ho | ho) | ho
        · rcases ho with rfl | rfl | rfl
          · refine ⟨by simp, fun h => ?_⟩
            have := h.ow 0 (by simp); simp [isOwn] at this
          · refine ⟨by simp, fun h => ?_⟩
            have := h.ow n (by simp); simp [isOwn] at this
          · refine ⟨by simp, fun h => ?_⟩
            have := h.ow (-1) (by simp); simp [isOwn] at this
        · obtain ⟨k, _, rfl⟩ := ho
          refine ⟨by simp, fun h => ?_⟩
          have := h.nd; simp at this
        · obtain ⟨k, ⟨_, hk⟩, rfl⟩ := ho
          refine ⟨by simp, fun h => ?_⟩
          have h1 := h.ow (1 + (k : Int)) (by simp)
          have h2 := h.l0
          unfold isOwn at h1
          rw [show (1 + (k : Int)).toNat = 1 + k by omega] at h1
          simp only [Bool.and_eq_true, decide_eq_true_eq, Bool.not_eq_true'] at h1
          obtain ⟨⟨⟨g1, g2⟩, g3⟩, g4⟩ := h1
          rw [g4] at hk
          have g5 : inE L (1 + (k : Int)) = false := by
            rw [inE_end w]
            unfold isEnd
            rw [show (1 + (k : Int)).toNat = 1 + k by omega]
            have : (lof L (1 + k)).isSome = false := by cases hh : lof L (1 + k) with | none => rfl | some b => rw [hh] at g3; simp at g3
            simp [this]
          rw [g5] at hk
          simp at hk; omega
      · have l1 : (List.map (fun (k : Nat) => mm [1 + (k : Int), 1 + (k : Int)]) (List.range (n - 1))).length = n - 1 := by simp
        have l2 : (((List.range (n - 1)).filter fun (k : Nat) => inE L (1 + (k : Int)) || seenAt st (1 + k) || decide (last < 0)).map fun (k : Nat) => [1 + (k : Int)]).length ≤ n - 1 := by
          rw [List.length_map]
          exact Nat.le_trans (List.length_filter_le _ _) (by simp)
        have e3 : (([[0], [(n : Int)], [-1]] ++ ((List.range (n - 1)).map fun (k : Nat) => [1 + (k : Int), 1 + (k : Int)]) ++ ((List.range (n - 1)).filter fun (k : Nat) => inE L (1 + (k : Int)) || seenAt st (1 + k) || decide (last < 0)).map fun (k : Nat) => [1 + (k : Int)]) : List (List Int)).map mm = [D.tup [.int 0], .tup [.int n], .tup [.int (-1)]] ++ (List.map (fun (k : Nat) => mm [1 + (k : Int), 1 + (k : Int)]) (List.range (n - 1))) ++ (((List.range (n - 1)).filter fun (k : Nat) => inE L (1 + (k : Int)) || seenAt st (1 + k) || decide (last < 0)).map fun (k : Nat) => [1 + (k : Int)]).map mm := by
          simp [mm, Function.comp_def]
        rw [e3]
        generalize (List.map (fun (k : Nat) => mm [1 + (k : Int), 1 + (k : Int)]) (List.range (n - 1))) = Z1 at *
        generalize (((List.range (n - 1)).filter fun (k : Nat) => inE L (1 + (k : Int)) || seenAt st (1 + k) || decide (last < 0)).map fun (k : Nat) => [1 + (k : Int)]) = Z2 at *
        have l3 : ([D.tup [.int 0], .tup [.int n], .tup [.int (-1)]]).length + Z1.length ≤ 16777216 := by simp; omega
        have l4 : ([D.tup [.int 0], .tup [.int n], .tup [.int (-1)]] ++ Z1).length + (Z2.map mm).length ≤ 16777216 := by simp; omega
        have f1 : eFr (fLst (aCons (eTup (aCons (eC (.int 0)) aNil)) (aCons (eTup (aCons (eIdx (eVar 2) (eC (.int 0))) aNil)) (aCons (eTup (aCons (eNeg (eC (.int 1))) aNil)) aNil)))) [.val DL, .val (.obj a), .val W, .val S, .val (.int last), .val (.lst EN), .val (.lst OM), z7, .no, .no] κ' = some (.ok (.lst [D.tup [.int 0], .tup [.int n], .tup [.int (-1)]]), κ') := by simp [w0]
        rw [iAny_def, eOp_def, eOp_def, f1]
        simp only [bind_ok]
        rw [eFr_def, c3]
        simp only [bind_ok, ret_def]
        rw [oAdd_lst l3]
        simp only [rOf_some, bind_ok]
        rw [eFr_def, c4]
        simp only [bind_ok, ret_def]
        rw [oAdd_lst l4]
        rfl
    obtain ⟨B, hB, eB⟩ := key2
    refine wpS_forE (κ1 := κ') (B.map mm) eB (fun i ρ κ'' => κ'' = κ' ∧ ∃ z7, ρ = [.val DL, .val (.obj a), .val W, .val S, .val (.int last), .val (.lst EN), .val (.lst OM), z7, .no, .no]) ⟨rfl, _, rfl⟩ ?_ ?_
    · rintro i d ρ κ'' hd ⟨rfl, z7, rfl⟩
      rw [List.getElem?_map] at hd
      obtain ⟨o, ho, rfl⟩ := Option.map_eq_some_iff.mp hd
      obtain ⟨ho, hb⟩ := hB o (List.mem_of_getElem? ho)
      refine ⟨_, gNm_ok rfl, ?_⟩
      have e3 := rfb ho hb
      generalize mm o = M at *
      refine wpS_atom (k := κ'') (ρ' := [.val DL, .val (.obj a), .val W, .val S, .val (.int last), .val (.lst EN), .val (.lst OM), .val M, .no, .no]) ?_ ⟨rfl, _, rfl⟩
      simp [e3]
    · rintro ρ κ'' ⟨rfl, z7, rfl⟩
      refine wpS_atomR (d := .bl true) (k := κ'') ?_ ⟨rfl, rfl⟩
      simp [hse, hws, hsm, nst]
end
end K87
set_option Elab.async false
set_option linter.all false
set_option maxRecDepth 100000
set_option maxHeartbeats 4000000
/-! K87h: what is told at a tick. -/
namespace K87
open PySem L2 DL BF K82 SH
/-- only these cells change, and the store grows at its end -/
structure Fr (X : List Nat) (κ κ' : Ka) : Prop where
  le : κ.length ≤ κ'.length
  eq : ∀ c, c < κ.length → c ∉ X → κ'[c]? = κ[c]?
namespace Fr
variable {X Y : List Nat} {κ κ' κ'' : Ka}
theorem refl : Fr X κ κ := ⟨Nat.le_refl _, fun _ _ _ => rfl⟩
theorem trans (h : Fr X κ κ') (h' : Fr X κ' κ'') : Fr X κ κ'' := ⟨Nat.le_trans h.le h'.le, fun c hc hx => by rw [h'.eq c (Nat.lt_of_lt_of_le hc h.le) hx, h.eq c hc hx]⟩
theorem app {t : Ka} : Fr X κ (κ ++ t) := ⟨by simp, fun c hc _ => List.getElem?_append_left hc⟩
theorem set {a : Nat} {c : Cell} (h : a ∈ X) : Fr X κ (κ.set a c) := ⟨by simp, fun b hb hx => List.getElem?_set_ne (by rintro rfl; exact hx h)⟩
theorem mono (h : Fr X κ κ') (hs : ∀ x ∈ X, x ∈ Y) : Fr Y κ κ' := ⟨h.le, fun c hc hx => h.eq c hc fun q => hx (hs _ q)⟩
theorem get (h : Fr X κ κ') {c : Nat} {v : Cell} (hc : κ[c]? = some v) (hx : c ∉ X) : κ'[c]? = some v := by rw [h.eq c (List.getElem?_eq_some_iff.mp hc).1 hx, hc]
end Fr
/-- what draws -/
structure Dr (DL : D) : Prop where
  tk : ∀ (κ : Ka) (i many : Int), κ[0]? = some (.lst [.int i]) → 0 ≤ i → 0 < many → ∃ v : Nat, f__law_take [DL, .int many] κ = some (.ok (.int v), κ.set 0 (.lst [.int (i + 1)])) ∧ (v : Int) < many
  nb : isBor DL = false
theorem dr_deal (r : List Int) (t : Int) : Dr (dealD r t) := ⟨fun κ i many h h0 hm => by
  cases κ with
  | nil => simp at h
  | cons c tl =>
    simp at h; subst h
    obtain ⟨v, e, v0, v1⟩ := take_okK r t i many tl h0 hm
    obtain ⟨k, rfl⟩ := Int.eq_ofNat_of_zero_le v0
    exact ⟨k, e, v1⟩, rfl⟩
section
variable {K T : D} {last : Int} {st : Os} {κ : Ka} {a : Nat} {n : Nat} {R : List Ru} {L : List Lk} {ms bs : List Int}
/-- what may be drawn, and what is at a -/
structure Wa (κ : Ka) (a : Nat) (fs : List (Str × D)) : Prop where
  c0 : ∃ i : Int, 0 ≤ i ∧ κ[0]? = some (.lst [.int i])
  ca : κ[a]? = some (.ins 1 fs)
  a0 : a ≠ 0
variable {fs fs' : List (Str × D)}
theorem Wa.app {t : Ka} (h : Wa κ a fs) : Wa (κ ++ t) a fs := by
  obtain ⟨i, h0, hi⟩ := h.c0
  exact ⟨⟨i, h0, by rw [List.getElem?_append_left (List.getElem?_eq_some_iff.mp hi).1, hi]⟩, by rw [List.getElem?_append_left (List.getElem?_eq_some_iff.mp h.ca).1, h.ca], h.a0⟩
theorem Wa.put (h : Wa κ a fs) : Wa (κ.set a (.ins 1 fs')) a fs' := by
  obtain ⟨i, h0, hi⟩ := h.c0
  exact ⟨⟨i, h0, by rw [List.getElem?_set_ne h.a0, hi]⟩, List.getElem?_set_self (List.getElem?_eq_some_iff.mp h.ca).1, h.a0⟩
theorem Wa.take {DL : D} (h : Wa κ a fs) (d : Dr DL) {many : Int} (hm : 0 < many) : ∃ (v : Nat) (κ' : Ka), f__law_take [DL, .int many] κ = some (.ok (.int v), κ') ∧ (v : Int) < many ∧ Wa κ' a fs ∧ Fr [0, a] κ κ' := by
  obtain ⟨i, h0, hi⟩ := h.c0
  obtain ⟨v, e, hv⟩ := d.tk κ i many hi h0 hm
  refine ⟨v, _, e, hv, ⟨⟨i + 1, by omega, List.getElem?_set_self (List.getElem?_eq_some_iff.mp hi).1⟩, by rw [List.getElem?_set_ne (Ne.symm h.a0), h.ca], h.a0⟩, Fr.set (by simp)⟩
theorem stamp_nil {v : Int} : stamp st [] v = st := by
  apply List.ext_getElem?
  intro k
  rw [stamp_at]; simp
theorem stamp_app {v : Int} {as : List Int} : stamp (stamp st as v) bs v = stamp st (as ++ bs) v := by
  apply List.ext_getElem?
  intro k
  rw [stamp_at, stamp_at, stamp_at]
  cases st[k]? with
  | none => rfl
  | some t =>
    simp only [Option.map_some, List.mem_append]
    by_cases q1 : (k : Int) ∈ as <;> by_cases q2 : (k : Int) ∈ bs <;> simp [q1, q2]
theorem BegOk.fst {k : Nat} (h : BegOk n L st last bs) : BegOk n L st last (bs.take k) := ⟨fun x hx => h.ow x (List.mem_of_mem_take hx), h.l0, h.nd.sublist (List.take_sublist k bs)⟩
theorem BegOk.snd {k : Nat} (h : BegOk n L st last bs) : BegOk n L (stamp st (bs.take k) last) last (bs.drop k) := by
  refine ⟨fun x hx => ?_, h.l0, h.nd.sublist (List.drop_sublist k bs)⟩
  have h1 := h.ow x (List.mem_of_mem_drop hx)
  have h2 : x ∉ bs.take k := fun q => by
    have := h.nd
    rw [← List.take_append_drop k bs, List.nodup_append] at this
    exact this.2.2 x q x hx rfl
  unfold isOwn at h1 ⊢
  simp only [Bool.and_eq_true, decide_eq_true_eq, Bool.not_eq_true'] at h1 ⊢
  refine ⟨h1.1, ?_⟩
  have h3 := h1.2
  unfold seenAt at h3 ⊢
  rw [stamp_at]
  cases q : st[x.toNat]? with
  | none => rfl
  | some t =>
    rw [q] at h3
    have : ((x.toNat : Nat) : Int) = x := by have := h1.1.1.1; omega
    simp [this, h2] at h3 ⊢
    exact h3
theorem beg_part {DL : D} {s2 s3 s4 s5 s6 s8 s9 s10 s11 s12 : Sl} (d : Dr DL) (h : Wa κ a (wf (sweb n R L) K last st T)) (w : WebOk n R L) (hs : st.length = n) (hm : bs.length ≤ 60) (hb : BegOk n L st last bs) :
    ∃ κ', (sIf (bOr (bCmp cGt (eBi bLen (aCons (eVar 7) aNil)) (eC (.int 0))) (bCmp cEq (eCall 2 f__law_take (aCons (eVar 0) (aCons (eC (.int 2)) aNil))) (eC (.int 0)))) (sIf (bAnd (bCmp cGt (eBi bLen (aCons (eVar 7) aNil)) (eC (.int 1))) (bCmp cEq (eCall 2 f__law_take (aCons (eVar 0) (aCons (eC (.int 2)) aNil))) (eC (.int 0)))) (sSeq (sExp (eMeth 1 "begin" 2 f_ClockWatch_begin (eVar 1) (aCons (eCut (eVar 7) sNone (sSome (eC (.int 1)))) aNil)))
      (sExp (eMeth 1 "begin" 2 f_ClockWatch_begin (eVar 1) (aCons (eCut (eVar 7) (sSome (eC (.int 1))) sNone) aNil)))) (sExp (eMeth 1 "begin" 2 f_ClockWatch_begin (eVar 1) (aCons (eVar 7) aNil)))) sNext) [.val DL, .val (.obj a), s2, s3, s4, s5, s6, .val (mm bs), s8, s9, s10, s11, s12] κ = some (.nx [.val DL, .val (.obj a), s2, s3, s4, s5, s6, .val (mm bs), s8, s9, s10, s11, s12], κ') ∧ Wa κ' a (wf (sweb n R L) K last (stamp st bs last) T) ∧ Fr [0, a] κ κ' := by
  have ml := fun κ => mm_len (κ := κ) (ms := bs)
  have mnb := mm_nb (ms := bs)
  have one : ∀ κ, Wa κ a (wf (sweb n R L) K last st T) → ∃ κ', (sExp (eMeth 1 "begin" 2 f_ClockWatch_begin (eVar 1) (aCons (eVar 7) aNil))) [.val DL, .val (.obj a), s2, s3, s4, s5, s6, .val (mm bs), s8, s9, s10, s11, s12] κ = some (.nx [.val DL, .val (.obj a), s2, s3, s4, s5, s6, .val (mm bs), s8, s9, s10, s11, s12], κ') ∧ Wa κ' a (wf (sweb n R L) K last (stamp st bs last) T) ∧ Fr [0, a] κ κ' := fun κ h => by
    have e1 := begin_ok h.ca w hs hm hb
    have e2 := wi_begin h.ca
    refine ⟨_, ?_, h.put, Fr.set (by simp)⟩
    generalize mm bs = B at *
    simp [e1, e2]
  by_cases q0 : 0 < bs.length
  case neg =>
    have : bs = [] := List.length_eq_zero_iff.mp (by omega)
    subst this
    obtain ⟨v, κ1, e1, hv, h1, f1⟩ := h.take d (many := 2) (by omega)
    rw [stamp_nil] at *
    by_cases q1 : v = 0
    · subst q1
      obtain ⟨κ2, e2, h2, f2⟩ := one κ1 h1
      refine ⟨κ2, ?_, h2, f1.trans f2⟩
      rw [ifT (κ' := κ1) (by rw [orF (κ' := κ) (by generalize mm [] = B at *; simp [ml])]; simp [e1])]
      rw [ifF (κ' := κ1) (by generalize mm [] = B at *; simp [ml])]
      exact e2
    · refine ⟨κ1, ?_, h1, f1⟩
      have q1' : ¬ (v : Int) = 0 := by omega
      rw [ifF (κ' := κ1) (by rw [orF (κ' := κ) (by generalize mm [] = B at *; simp [ml])]; simp [e1, q1])]
      rfl
  have q0' : (0 : Int) < bs.length := by omega
  have hT : bOr (bCmp cGt (eBi bLen (aCons (eVar 7) aNil)) (eC (.int 0))) (bCmp cEq (eCall 2 f__law_take (aCons (eVar 0) (aCons (eC (.int 2)) aNil))) (eC (.int 0))) [.val DL, .val (.obj a), s2, s3, s4, s5, s6, .val (mm bs), s8, s9, s10, s11, s12] κ = some (.ok true, κ) := orT (by generalize mm bs = B at *; simp [ml, q0])
  rw [ifT (κ' := κ) hT]
  by_cases q1 : (1 : Int) < bs.length
  case neg =>
    obtain ⟨κ2, e2, h2, f2⟩ := one κ h
    refine ⟨κ2, ?_, h2, f2⟩
    rw [ifF (κ' := κ) (by generalize mm bs = B at *; simp [ml, q1])]
    exact e2
  obtain ⟨v, κ1, e1, hv, h1, f1⟩ := h.take d (many := 2) (by omega)
  by_cases q2 : v = 0
  case neg =>
    obtain ⟨κ2, e2, h2, f2⟩ := one κ1 h1
    refine ⟨κ2, ?_, h2, f1.trans f2⟩
    rw [ifF (κ' := κ1) (by generalize mm bs = B at *; simp [ml, q1, e1, q2])]
    exact e2
  subst q2
  rw [ifT (κ' := κ1) (by generalize mm bs = B at *; simp [ml, q1, e1])]
  have e2 := begin_ok h1.ca w hs (ms := bs.take 1) (by simp; omega) hb.fst
  have h2 : Wa _ a (wf (sweb n R L) K last (stamp st (bs.take 1) last) T) := h1.put (fs' := wf (sweb n R L) K last (stamp st (bs.take 1) last) T)
  have e3 := begin_ok h2.ca w (by rw [stamp_len]; exact hs) (ms := bs.drop 1) (by simp; omega) hb.snd
  have h3 := h2.put (fs' := wf (sweb n R L) K last (stamp (stamp st (bs.take 1) last) (bs.drop 1) last) T)
  have i1 := wi_begin h1.ca
  have i2 := wi_begin h2.ca
  have x1 : oCut (mm bs) none (some 1) = some (mm (bs.take 1)) := by unfold mm; rw [oCut_tup, cutT (by omega)]; rfl
  have x2 : oCut (mm bs) (some 1) none = some (mm (bs.drop 1)) := by unfold mm; rw [oCut_tup, cutF (by omega)]; rfl
  refine ⟨_, ?_, by rw [stamp_app, List.take_append_drop] at h3; exact h3, f1.trans ((Fr.set (by simp)).trans (Fr.set (by simp)))⟩
  rw [stamp_app, List.take_append_drop] at e3
  generalize κ1.set a (Cell.ins 1 (wf (sweb n R L) K last (stamp st (bs.take 1) last) T)) = κ2 at *
  generalize mm (bs.take 1) = M1 at *
  generalize mm (bs.drop 1) = M2 at *
  generalize mm bs = B at *
  simp [x1, x2, e2, e3, i1, i2]
end
end K87
set_option Elab.async false
set_option linter.all false
set_option maxRecDepth 100000
set_option maxHeartbeats 4000000
/-! K87i: what is told at a tick, the walk. -/
namespace K87
open PySem L2 DL BF K82 SH
theorem range0_nat {n : Nat} : rangeD 0 n = (List.range n).map fun (k : Nat) => D.int k := by
  unfold rangeD
  rw [show ((n : Int) - 0).toNat = n by omega]
  simp
theorem opt_range {X : Os} {n : Nat} (h : X.length = n) : (List.range n).map (fun k => optI (X[k]?.getD none)) = X.map optI := by
  subst h
  apply List.ext_getElem
  · simp
  · intro i h1 h2
    have : i < X.length := by simpa using h2
    simp [List.getElem?_eq_getElem this]
theorem sm_ans {A : Ans} (h : AnsOk A) : Sm 12 (ansD A) := by
  cases A with
  | S w ks =>
    unfold ansD
    refine .tup (fun d hd => ?_) (by simp)
    simp only [List.mem_cons, List.not_mem_nil, or_false] at hd
    rcases hd with rfl | rfl
    · exact .str h.1
    · exact .ints _ (by have := h.2.2; omega)
  | X w c e =>
    unfold ansD
    refine .tup (fun d hd => ?_) (by simp)
    simp only [List.mem_cons, List.not_mem_nil, or_false] at hd
    rcases hd with rfl | rfl | rfl
    · exact .str h.1
    · exact .ints _ (by have := h.2.2.1; omega)
    · exact sm_st (by have := h.2.2.2; omega)
theorem word_str {A : Ans} (h : AnsOk A) : PyData.strOk (wordOf A) = true := by cases A <;> exact h.1
section
variable {p q r u : Int} {K T : D} {last : Int} {st : Os} {κ : Ka} {a lt : Nat} {n : Nat} {R : List Ru} {L : List Lk} {ms bs : List Int}
theorem word_of {A : Ans} (w : WebOk n R L) (h : StOk n L st lt) (ri : Right (lt + 1 + L.length) (stampR p q r u L st lt) L st lt A) (ki : (∃ ks, A = .S "strange" ks ∧ 0 < ks.length ∧ ks.length ≤ 2000) ∨ ∃ c e, A = .X "explained" c e) :
    (wordOf A = "strange" ∧ Bad (lt + 1 + L.length) (stampR p q r u L st lt)) ∨ (wordOf A = "explained" ∧ ¬ Bad (lt + 1 + L.length) (stampR p q r u L st lt)) := by
  have hR := stamp_bd (p := p) (q := q) (r := r) (u := u) w h
  rcases ki with ⟨ks, rfl, _⟩ | ⟨c, e, rfl⟩
  · exact .inl ⟨rfl, bad_bad (fun x hx => ⟨(hR x hx).1, (hR x hx).2.1⟩) ri.2⟩
  · exact .inr ⟨rfl, right_good ri.2⟩
theorem now_comp {f g : Nat} {ρ : List Sl} {X : Os} (hX : X.length = n) (n6 : n ≤ 1000) (hρ : ρ.length = 13) (h2 : ρ[2]? = some (.val (sweb n R L))) (h5 : ρ[5]? = some (.val (.int last))) (hf : ρ[f]? = some (.val (mm ms))) (hg : ρ[g]? = some (.val (stD X))) (f12 : f ≠ 12) (g12 : g ≠ 12) (hl : last + 1 = (lt : Nat)) :
    eComp [12] (iRange1 (aCons (eIdx (eVar 2) (eC (.int 0))) aNil)) (gNm 12) bYes (eIf (bCmp cIn (eVar 12) (eVar f)) (eOp oAdd (eVar 5) (eC (.int 1))) (eIdx (eVar g) (eVar 12))) ρ κ = some (.ok ((stamp X ms lt).map optI), κ) := by
  have w0 : ∀ κ : Ka, oIdx κ (sweb n R L) (.int 0) = some (.int n) := fun κ => sw_0
  have nw := sw_nb (n := n) (R := R) (L := L)
  have es := fun (k : Nat) t (hk : X[k]? = some t) => st_at (κ := κ) hk
  have mi := fun v => mm_in v ms
  generalize sweb n R L = W at *
  generalize stD X = S at *
  generalize mm ms = M at *
  have eV : ∀ (ρ : List Sl) (κ : Ka) (f : Nat) (d : D), ρ[f]? = some (.val d) → eVar f ρ κ = some (.ok d, κ) := fun ρ κ f d h => by unfold eVar; simp [h]
  have e := eComp_tyM (vs := [12]) (n := iRange1 (aCons (eIdx (eVar 2) (eC (.int 0))) aNil)) (g := gNm 12) (e := eIf (bCmp cIn (eVar 12) (eVar f)) (eOp oAdd (eVar 5) (eC (.int 1))) (eIdx (eVar g) (eVar 12))) (ρ := ρ) (κ := κ) (κ1 := κ) (fun (k : Nat) => D.int k) (List.range n) (fun k => optI ((stamp X ms lt)[k]?.getD none)) (by rw [← range0_nat]; exact range1_ok (by omega) (by simp [eV ρ κ 2 W h2, w0])) (by simp; omega) (fun k hk => by
    have hk := List.mem_range.mp hk
    refine ⟨_, gNm_ok rfl, optI_nb, ?_⟩
    obtain ⟨t, ht⟩ : ∃ t, X[k]? = some t := ⟨_, List.getElem?_eq_getElem (by omega)⟩
    have e1 := es k t ht
    have e2 := mi k
    have k1 := eV ((wipeR ρ [12]).set 12 (.val (.int k))) κ 12 (.int k) (by simp [hρ])
    have k2 := eV ((wipeR ρ [12]).set 12 (.val (.int k))) κ f M (by simp [hf, Ne.symm f12])
    have k3 := eV ((wipeR ρ [12]).set 12 (.val (.int k))) κ 5 (.int last) (by simp [h5])
    have k4 := eV ((wipeR ρ [12]).set 12 (.val (.int k))) κ g S (by simp [hg, Ne.symm g12])
    generalize (wipeR ρ [12]).set 12 (.val (.int k)) = ρ2 at *
    rw [stamp_at, ht]
    by_cases q : (k : Int) ∈ ms
    · simp [k1, k2, k3, e2, q, optI, hl]
    · simp [k1, k2, k4, e2, q, e1])
  rw [e, opt_range (by rw [stamp_len, hX])]
theorem told_ok {DL : D} (d : Dr DL) (h : Wa κ a (wf (sweb n R L) (kd p q r u) last st T)) (w : WebOk n R L) (k : Ki p q r u) (hs : st.length = n) (hm : ms.length ≤ 60) (hm2 : bs.length ≤ 60) (hl : last + 1 = (lt : Nat)) (hl2 : lt ≤ 100) (hL : L.length ≤ 50)
    (ok : TickOk n L st last ms) (hb : BegOk n L (stamp st ms lt) lt bs) :
    ∃ (wd : Str) (κ' : Ka) (A : D), f__law_told [DL, .obj a, sweb n R L, kd p q r u, stD st, .int last, mm ms, mm bs] κ = some (.ok (.tup [.str wd, stD (stamp (stamp st ms lt) bs lt)]), κ') ∧ Wa κ' a (wf (sweb n R L) (kd p q r u) lt (stamp (stamp st ms lt) bs lt) A) ∧ Fr [0, a] κ κ' ∧
      ((wd = "strange" ∧ Bad (lt + 1 + L.length) (stampR p q r u L (stamp st ms lt) lt)) ∨ (wd = "explained" ∧ ¬ Bad (lt + 1 + L.length) (stampR p q r u L (stamp st ms lt) lt))) := by
  have hok := ok.ok
  rw [hl] at hok
  have n6 := w.n6
  have eW := wrong_ok (DL := DL) h.ca w hs hL
  obtain ⟨t1, A1, e1, ao1, ri1, ki1⟩ := explain_ok 0 w hok k hl2 κ
  have h1 : Wa (κ ++ t1) a _ := h.app
  obtain ⟨t2, A2, e2, ao2, ri2, ki2⟩ := tick_ok h1.ca w k hs hm hl hl2 ok
  have h2 := (h1.put (fs' := wf (sweb n R L) (kd p q r u) lt (stamp st ms lt) (ansD A2))).app (t := t2)
  have f2 : Fr [0, a] κ ((κ ++ t1).set a (.ins 1 (wf (sweb n R L) (kd p q r u) lt (stamp st ms lt) (ansD A2))) ++ t2) := Fr.app.trans ((Fr.set (by simp)).trans Fr.app)
  have wd1 := word_of w hok ri1 ki1
  have wd2 := word_of w hok ri2 ki2
  have hw : wordOf A1 = wordOf A2 := by
    rcases wd1 with ⟨x1, y1⟩ | ⟨x1, y1⟩ <;> rcases wd2 with ⟨x2, y2⟩ | ⟨x2, y2⟩
    · rw [x1, x2]
    · exact absurd y1 y2
    · exact absurd y2 y1
    · rw [x1, x2]
  rw [← hl] at hb
  generalize hκ2 : (κ ++ t1).set a (.ins 1 (wf (sweb n R L) (kd p q r u) lt (stamp st ms lt) (ansD A2))) ++ t2 = κ2 at *
  have nA2 : isBor (ansD A2) = false := by cases A2 <;> rfl
  have nA1 : isBor (ansD A1) = false := by cases A1 <;> rfl
  have e3 := answer_ok h2.ca nA2
  obtain ⟨b4, e4, hb4⟩ := shows_explained_ok (κ := κ2) w hok k hl2 ao2
  have : b4 = true := hb4.mpr ri2
  subst this
  have ok2 := word_str ao2
  have e5 := same_ok (κ := κ2) (.str (k := 11) ok2)
  have c5 : cNe (.str (wordOf A2)) (.str (wordOf A2)) = some false := by rw [cNeS ok2 ok2, beq_self_eq_true]; rfl
  have a01 : ∀ κ : Ka, oIdx κ (ansD A1) (.int 0) = some (.str (wordOf A2)) := fun κ => by rw [← hw]; exact ans_0
  have a02 : ∀ κ : Ka, oIdx κ (ansD A2) (.int 0) = some (.str (wordOf A2)) := fun κ => ans_0
  have hs2 : (stamp st ms lt).length = n := by rw [stamp_len, hs]
  rw [hl] at hb
  have hbp := fun s2 s3 s4 s5 s6 s8 s9 s10 s11 s12 => beg_part (s2 := s2) (s3 := s3) (s4 := s4) (s5 := s5) (s6 := s6) (s8 := s8) (s9 := s9) (s10 := s10) (s11 := s11) (s12 := s12) d h2 w hs2 hm2 hb
  have i1 := wi_tick h1.ca
  have i2 := wi_answer h2.ca
  have c1 := now_comp (κ := κ) (ms := ms) (f := 6) (g := 4) (ρ := [.val DL, .val (.obj a), .val (sweb n R L), .val (kd p q r u), .val (stD st), .val (.int last), .val (mm ms), .val (mm bs), .no, .no, .no, .no, .no]) hs n6 rfl rfl rfl rfl rfl (by omega) (by omega) hl
  have c2 := fun κ => now_comp (κ := κ) (ms := bs) (f := 7) (g := 8) (ρ := [.val DL, .val (.obj a), .val (sweb n R L), .val (kd p q r u), .val (stD st), .val (.int last), .val (mm ms), .val (mm bs), .val (stD (stamp st ms lt)), .val (ansD A1), .val (.str (wordOf A2)), .val (ansD A2), .no]) hs2 n6 rfl rfl rfl rfl rfl (by omega) (by omega) hl
  have sA := fun κ => same_ok (κ := κ) (sm_ans ao2)
  have sS := fun κ => same_ok (κ := κ) (sm_seen (st := stamp (stamp st ms lt) bs lt) (v := lt) (by rw [stamp_len]; omega))
  suffices hh : wpE (f__law_told [DL, .obj a, sweb n R L, kd p q r u, stD st, .int last, mm ms, mm bs] κ) fun D κ' => D = .tup [.str (wordOf A2), stD (stamp (stamp st ms lt) bs lt)] ∧ Wa κ' a (wf (sweb n R L) (kd p q r u) lt (stamp (stamp st ms lt) bs lt) (ansD A2)) ∧ Fr [0, a] κ κ' by
    obtain ⟨D, κ', e, rfl, x1, x2⟩ := wpE_eq.mp hh
    exact ⟨_, κ', _, e, x1, x2, wd2⟩
  unfold f__law_told
  refine mean_wp ?_
  show wpS (m__law_told [.val DL, .val (.obj a), .val (sweb n R L), .val (kd p q r u), .val (stD st), .val (.int last), .val (mm ms), .val (mm bs), .no, .no, .no, .no, .no] κ) _ _ _ _
  unfold m__law_told
  simp only [wpS_seq]
  have nd := d.nb
  have nw := sw_nb (n := n) (R := R) (L := L)
  have nk : isBor (kd p q r u) = false := rfl
  have ns := fun s => st_nb (s := s)
  have nm := fun m => mm_nb (ms := m)
  have ns1 := ns st
  have ns2 := ns (stamp st ms lt)
  have ns3 := ns (stamp (stamp st ms lt) bs lt)
  have nm1 := nm ms
  have nm2 := nm bs
  have t1s : D.tup ((stamp st ms lt).map optI) = stD (stamp st ms lt) := rfl
  have t2s : D.tup ((stamp (stamp st ms lt) bs lt).map optI) = stD (stamp (stamp st ms lt) bs lt) := rfl
  generalize hκ1 : κ ++ t1 = κ1 at *
  have seen3 := fun {κ} (h : Wa κ a (wf (sweb n R L) (kd p q r u) lt (stamp (stamp st ms lt) bs lt) (ansD A2))) => seen_ok h.ca
  have ans3 := fun {κ} (h : Wa κ a (wf (sweb n R L) (kd p q r u) lt (stamp (stamp st ms lt) bs lt) (ansD A2))) => answer_ok h.ca nA2
  have is3 := fun {κ} (h : Wa κ a (wf (sweb n R L) (kd p q r u) lt (stamp (stamp st ms lt) bs lt) (ansD A2))) => wi_seen h.ca
  have ia3 := fun {κ} (h : Wa κ a (wf (sweb n R L) (kd p q r u) lt (stamp (stamp st ms lt) bs lt) (ansD A2))) => wi_answer h.ca
  generalize hFS : wf (sweb n R L) (kd p q r u) lt (stamp (stamp st ms lt) bs lt) (ansD A2) = FS at *
  generalize ansD A1 = X1 at *
  generalize ansD A2 = X2 at *
  generalize stD (stamp (stamp st ms lt) bs lt) = S3 at *
  generalize stD (stamp st ms lt) = S2 at *
  generalize (stamp (stamp st ms lt) bs lt).map optI = Z3 at *
  generalize (stamp st ms lt).map optI = Z2 at *
  generalize stD st = S1 at *
  generalize sweb n R L = W at *
  generalize kd p q r u = KK at *
  generalize mm ms = M at *
  generalize mm bs = B at *
  refine wpS_atom (k := κ) (ρ' := [.val DL, .val (.obj a), .val W, .val KK, .val S1, .val (.int last), .val M, .val B, .no, .no, .no, .no, .no]) (by simp [eW]) ?_
  refine wpS_atom (k := κ) (ρ' := [.val DL, .val (.obj a), .val W, .val KK, .val S1, .val (.int last), .val M, .val B, .val S2, .no, .no, .no, .no]) (by rw [sAsg_def, eBi_def, aCons_def, eFr_def, c1]; simp [t1s, ns2]) ?_
  refine wpS_atom (k := κ1) (ρ' := [.val DL, .val (.obj a), .val W, .val KK, .val S1, .val (.int last), .val M, .val B, .val S2, .val X1, .no, .no, .no]) (by simp [hl, e1, nA1]) ?_
  refine wpS_atom (k := κ2) (ρ' := [.val DL, .val (.obj a), .val W, .val KK, .val S1, .val (.int last), .val M, .val B, .val S2, .val X1, .val (.str (wordOf A2)), .no, .no]) (by simp [i1, e2]) ?_
  refine wpS_atom (k := κ2) (ρ' := [.val DL, .val (.obj a), .val W, .val KK, .val S1, .val (.int last), .val M, .val B, .val S2, .val X1, .val (.str (wordOf A2)), .val X2, .no]) (by simp [i2, e3, nA2]) ?_
  refine wpS_atom (k := κ2) (ρ' := [.val DL, .val (.obj a), .val W, .val KK, .val S1, .val (.int last), .val M, .val B, .val S2, .val X1, .val (.str (wordOf A2)), .val X2, .no]) (by simp [a01, a02, e5, c5, hl, e4]) ?_
  obtain ⟨κ3, e6, h6, f6⟩ := hbp (.val W) (.val KK) (.val S1) (.val (.int last)) (.val M) (.val S2) (.val X1) (.val (.str (wordOf A2))) (.val X2) .no
  refine wpS_atom (k := κ3) e6 ?_
  refine wpS_atom (k := κ3) (ρ' := [.val DL, .val (.obj a), .val W, .val KK, .val S1, .val (.int last), .val M, .val B, .val S3, .val X1, .val (.str (wordOf A2)), .val X2, .no]) (by rw [sAsg_def, eBi_def, aCons_def, eFr_def, c2]; simp [t2s, ns3]) ?_
  have x1 := seen3 h6
  have x2 := ans3 h6
  have x3 := is3 h6
  have x4 := ia3 h6
  refine wpS_atom (k := κ3) (ρ' := [.val DL, .val (.obj a), .val W, .val KK, .val S1, .val (.int last), .val M, .val B, .val S3, .val X1, .val (.str (wordOf A2)), .val X2, .no]) (by simp [x1, x2, x3, x4, sA, sS, hl, ns3]) ?_
  exact wpS_atomR (k := κ3) (d := .tup [.str (wordOf A2), S3]) (by simp [ns3]) ⟨rfl, h6, f2.trans f6⟩
end
end K87
set_option Elab.async false
set_option linter.all false
set_option maxRecDepth 100000
set_option maxHeartbeats 4000000
/-! K87j: which links end at a tick, plain. -/
namespace K87
open PySem L2 DL BF K82 SH
section
variable {st M : Os} {n : Nat} {R : List Ru} {L : List Lk} {E E' : List Int} {t : Int}
theorem stamp_congr (h : ∀ k : Int, k ∈ E ↔ k ∈ E') : stamp st E t = stamp st E' t := by
  apply List.ext_getElem?
  intro k
  rw [stamp_at, stamp_at]
  congr 1
  funext x
  simp only [h]
theorem stamp_snoc {k : Nat} (h : k < st.length) : stamp st (E ++ [(k : Int)]) t = (stamp st E t).set k (some t) := by
  apply List.ext_getElem?
  intro j
  rw [get_set (by rw [stamp_len]; exact h), stamp_at, stamp_at]
  by_cases q : j = k
  · subst q
    rw [List.getElem?_eq_getElem h]
    simp
  · rw [if_neg q]
    congr 1
    funext x
    have : ¬ (j : Int) = (k : Int) := by omega
    simp [this]
theorem StOk.mono {a b : Int} (h : StOk n L st a) (hab : a ≤ b) : StOk n L st b := ⟨by have := h.l0; omega, h.len, h.z, fun x hx => by have := h.bd x hx; omega, h.lk⟩
structure En (n : Nat) (L : List Lk) (st : Os) (E : List Int) (t : Int) (M : Os) : Prop where
  ls : st.length = n
  lm : M.length = n
  en : ∀ e ∈ E, isEnd n L e = true
  un : ∀ e ∈ E, st[e.toNat]? = some none
  nd : E.Nodup
  sm : ∀ k, seenAt M k = seenAt (stamp st E t) k
  lk : ∀ l ∈ L, (l.e : Int) ∈ E → seenAt (stamp st E t) l.b = true
  t1 : E ≠ [] → 1 ≤ t
theorem En.init (ls : st.length = n) (lm : M.length = n) (sm : ∀ k, seenAt M k = seenAt st k) : En n L st [] t M :=
  ⟨ls, lm, by simp, by simp, by simp, fun k => by rw [stamp_nil, sm], by simp, by simp⟩
theorem En.add {b : Nat} {l : Lk} {y : Int} (w : WebOk n R L) (h : En n L st E t M) (hb : L[b]? = some l) (h1 : (l.e : Int) ∉ E) (h2 : st[l.e]? = some none) (h3 : seenAt M l.b = true) (ht : 1 ≤ t) : En n L st (E ++ [(l.e : Int)]) t (M.set l.e (some y)) := by
  have wl := w.lk l (List.mem_of_getElem? hb)
  have ls := h.ls
  have lm := h.lm
  have hS : stamp st (E ++ [(l.e : Int)]) t = (stamp st E t).set l.e (some t) := stamp_snoc (by omega)
  have hle : l.e < (stamp st E t).length := by rw [stamp_len]; omega
  refine ⟨h.ls, by simp [h.lm], fun e he => ?_, fun e he => ?_, ?_, fun k => ?_, fun l' hl' he => ?_, fun _ => ht⟩
  · rcases List.mem_append.mp he with he | he
    · exact h.en e he
    · simp at he; subst he
      unfold isEnd
      have := lof_nd w.nd hb
      simp [this, wl.2.1]
  · rcases List.mem_append.mp he with he | he
    · exact h.un e he
    · simp at he; subst he; exact h2
  · rw [List.nodup_append]
    exact ⟨h.nd, by simp, fun x hx y hy e => by simp at hy; subst hy; subst e; exact h1 hx⟩
  · rw [hS, seen_set hle, seen_set (by omega), h.sm]
  · rw [hS, seen_set hle]
    split
    · rfl
    · rcases List.mem_append.mp he with he | he
      · exact h.lk l' hl' he
      · simp at he
        have : l' = l := by
          obtain ⟨b', hb'⟩ := List.mem_iff_getElem?.mp hl'
          have q1 := lof_nd w.nd hb
          have q2 := lof_nd w.nd hb'
          rw [show l'.e = l.e by omega, q1] at q2
          cases q2
          rw [hb] at hb'; cases hb'; rfl
        subst this
        rw [← h.sm]; exact h3
theorem En.stOk (w : WebOk n R L) (h : En n L st E t M) (hs : StOk n L st t) : StOk n L (stamp st E t) t := by
  have up : ∀ k, seenAt st k = true → seenAt (stamp st E t) k = true := fun k hk => by
    obtain ⟨x, hx⟩ := seen_some hk
    unfold seenAt
    rw [stamp_at, hx]
    simp only [Option.map_some, Option.getD_some]
    split <;> rfl
  refine ⟨hs.l0, by rw [stamp_len]; exact hs.len, ?_, fun x hx => ?_, fun l hl x hx => ?_⟩
  · rw [stamp_at, hs.z]
    have : (0 : Int) ∉ E := fun q => by have := h.un 0 q; simp at this; rw [hs.z] at this; cases this
    simp [this]
  · obtain ⟨k, hk⟩ := List.mem_iff_getElem?.mp hx
    rw [stamp_at] at hk
    obtain ⟨y, hy, e⟩ := Option.map_eq_some_iff.mp hk
    split at e
    · cases e; have := hs.l0; omega
    · subst e; exact hs.bd x (List.mem_of_getElem? hy)
  · rw [stamp_at] at hx
    obtain ⟨y, hy, e⟩ := Option.map_eq_some_iff.mp hx
    split at e
    · rename_i q
      cases e
      refine ⟨h.t1 (fun e => by rw [e] at q; cases q), fun q2 => ?_⟩
      have := h.lk l hl q
      rw [seen_none q2] at this; cases this
    · subst e
      have := hs.lk l hl x hy
      refine ⟨this.1, fun q2 => ?_⟩
      have wl := w.lk l hl
      have hlen := hs.len
      have h5 : seenAt st l.b = true := by
        obtain ⟨tb, htb⟩ : ∃ t, st[l.b]? = some t := ⟨_, List.getElem?_eq_getElem (by omega)⟩
        cases tb with
        | none => exact absurd htb this.2
        | some z => exact seen_of htb
      have h6 := up _ h5
      rw [seen_none q2] at h6; cases h6
theorem srt_mem {k : Int} : k ∈ srt E ↔ k ∈ E := (srt_perm E).mem_iff
theorem En.tick (w : WebOk n R L) (h : En n L st E t M) (hs : StOk n L st t) : TickOk n L st (t - 1) (srt E) := by
  refine ⟨fun k hk => h.en k (srt_mem.mp hk), fun k hk => h.un k (srt_mem.mp hk), ?_, ?_⟩
  · have h1 := srt_pair E
    have h2 := (srt_perm E).nodup_iff.mpr h.nd
    exact (h1.and h2).imp fun q => by obtain ⟨q1, q2⟩ := q; omega
  · rw [Int.sub_add_cancel, stamp_congr (E' := E) fun k => srt_mem]
    exact h.stOk w hs
end
end K87
set_option Elab.async false
set_option linter.all false
set_option maxRecDepth 100000
set_option maxHeartbeats 4000000
/-! K87k: which links end at a tick, the walk. -/
namespace K87
open PySem L2 DL BF K82 SH
/-- what may be drawn, and the minutes at m -/
structure Wm (κ : Ka) (m : Nat) (M : Os) : Prop where
  c0 : ∃ i : Int, 0 ≤ i ∧ κ[0]? = some (.lst [.int i])
  cm : κ[m]? = some (.lst (M.map optI))
  m0 : m ≠ 0
section
variable {κ : Ka} {m : Nat} {M : Os}
theorem Wm.take {DL : D} (h : Wm κ m M) (d : Dr DL) {many : Int} (hm : 0 < many) : ∃ (v : Nat) (κ' : Ka), f__law_take [DL, .int many] κ = some (.ok (.int v), κ') ∧ (v : Int) < many ∧ Wm κ' m M ∧ Fr [0, m] κ κ' := by
  obtain ⟨i, h0, hi⟩ := h.c0
  obtain ⟨v, e, hv⟩ := d.tk κ i many hi h0 hm
  exact ⟨v, _, e, hv, ⟨⟨i + 1, by omega, List.getElem?_set_self (List.getElem?_eq_some_iff.mp hi).1⟩, by rw [List.getElem?_set_ne (Ne.symm h.m0), h.cm], h.m0⟩, Fr.set (by simp)⟩
theorem Wm.put (h : Wm κ m M) {M' : Os} : Wm (κ.set m (.lst (M'.map optI))) m M' := by
  obtain ⟨i, h0, hi⟩ := h.c0
  exact ⟨⟨i, h0, by rw [List.getElem?_set_ne h.m0, hi]⟩, List.getElem?_set_self (List.getElem?_eq_some_iff.mp h.cm).1, h.m0⟩
theorem Wm.at (h : Wm κ m M) {k : Nat} {t : Option Int} (hk : M[k]? = some t) : oIdx κ (.obj m) (.int k) = some (optI t) := by
  unfold oIdx
  simp only [h.cm]
  have := tup_at (κ := []) (enc := optI) hk
  rwa [oIdx_tup] at this
theorem Wm.setO (h : Wm κ m M) {k : Nat} {x : Int} {ρ : List Sl} {mo mi mx : Ev D} (hk : k < M.length) (e1 : mx ρ κ = some (.ok (.int x), κ)) (e2 : mo ρ κ = some (.ok (.obj m), κ)) (e3 : mi ρ κ = some (.ok (.int k), κ)) :
    sSetO mo mi mx ρ κ = some (.nx ρ, κ.set m (.lst ((M.set k (some x)).map optI))) := by
  rw [sSetO_def, e1, bindS_ok, e2, bindS_ok, e3, bindS_ok]
  simp only [h.cm]
  rw [show ixN (M.map optI).length (k : Int) = some k from ixN_nat (by simpa using hk)]
  simp only
  rw [if_neg (by simp), List.map_set]
  rfl
variable {st : Os} {n : Nat} {R : List Ru} {L : List Lk} {lens : List Int} {F : Int → Int}
theorem own_notin (v : Int) (E : List Int) : cNotIn (.int v) (.bor (E.map D.int)) = some (!decide (v ∈ E)) := mm_notin v E
theorem lk_two {l : Lk} : oCut (lkD l) none (some 2) = some (.tup [.int l.b, .int l.e]) := by
  have e : lkD l = .tup (([(l.b : Int), l.e, l.lo, l.hi]).map D.int) := rfl
  rw [e, oCut_tup, cutT (by omega)]
  rfl
theorem ended_ok {DL : D} (d : Dr DL) (h : Wm κ m M) (w : WebOk n R L) (hL : L.length ≤ 50) {t len : Nat} {b : Bool} {low : Int} (hlen : lens.length = L.length) (ht : t < len) (hls : st.length = n)
    (hpos : ∀ (b : Nat) l, L[b]? = some l → 1 ≤ gI lens b) (hlow : low = F ((t - 1 : Nat) : Int)) (hD : b = true → Dy n L lens F t low st M) (hlm : M.length = n) (hsm : ∀ k, seenAt M k = seenAt st k) :
    ∃ (E : List Int) (M' : Os) (κ' : Ka), f__law_ended [DL, sweb n R L, clk len F, .int t, .tup [stD st, .obj m, .lst (lens.map D.int), .bl b]] κ = some (.ok (mm (srt E)), κ') ∧ Wm κ' m M' ∧ Fr [0, m] κ κ' ∧ En n L st E t M' ∧ (b = true → Dy n L lens F t (F t) (stamp st E t) M') := by
  suffices hh : wpE (f__law_ended [DL, sweb n R L, clk len F, .int t, .tup [stD st, .obj m, .lst (lens.map D.int), .bl b]] κ) fun D κ' => ∃ (E : List Int) (M' : Os), D = mm (srt E) ∧ Wm κ' m M' ∧ Fr [0, m] κ κ' ∧ En n L st E t M' ∧ (b = true → Dy n L lens F t (F t) (stamp st E t) M') by
    obtain ⟨D, κ', e, E, M', rfl, x⟩ := wpE_eq.mp hh
    exact ⟨E, M', κ', e, x⟩
  unfold f__law_ended
  refine mean_wp ?_
  show wpS (m__law_ended [.val DL, .val (sweb n R L), .val (clk len F), .val (.int t), .val (.tup [stD st, .obj m, .lst (lens.map D.int), .bl b]), .no, .no, .no, .no, .no, .no, .no, .no, .no] κ) _ _ _ _
  unfold m__law_ended
  simp only [wpS_seq]
  have w2 : ∀ κ : Ka, oIdx κ (sweb n R L) (.int 2) = some (.tup (L.map lkD)) := fun κ => sw_2
  have nw := sw_nb (n := n) (R := R) (L := L)
  have ns := st_nb (s := st)
  have nd := d.nb
  have es := fun (k : Nat) t (hk : st[k]? = some t) (κ : Ka) => st_at (κ := κ) hk
  have ct : ∀ (κ : Ka), oIdx κ (clk len F) (.int t) = some (.int (F t)) := fun κ => by unfold clk; rw [oIdx_tup, tab_at (by omega) (by omega)]
  have lat : ∀ (κ : Ka) b, b < L.length → oIdx κ (.lst (lens.map D.int)) (.int (b : Nat)) = some (.int (gI lens b)) := fun κ b hb => lst_at (by rw [gI_eq, List.getElem?_eq_getElem (by omega)]; rfl)
  have lln : ∀ κ : Ka, bLen κ [.tup (L.map lkD)] = some (.int L.length) := fun κ => by rw [bLen_tup, List.length_map]
  have gat : ∀ (κ : Ka) (b : Nat) l, L[b]? = some l → oIdx κ (.tup (L.map lkD)) (.int (b : Nat)) = some (lkD l) := fun κ b l hb => tup_at hb
  generalize D.tup (L.map lkD) = LT at *
  generalize sweb n R L = W at *
  generalize clk len F = C at *
  have nl : isBor (.lst (lens.map D.int)) = false := rfl
  generalize D.lst (lens.map D.int) = LN at *
  generalize hS : stD st = S at *
  generalize hST : D.tup [S, .obj m, LN, .bl b] = ST at *
  refine wpS_atom (k := κ) (ρ' := [.val DL, .val W, .val C, .val (.int t), .val ST, .val S, .val (.obj m), .val LN, .val (.bl b), .no, .no, .no, .no, .no]) (by rw [← hST]; simp [ns, nl]) ?_
  refine wpS_atom (k := κ) (ρ' := [.val DL, .val W, .val C, .val (.int t), .val ST, .val S, .val (.obj m), .val LN, .val (.bl b), .own (([] : List Int).map D.int), .no, .no, .no, .no]) (by simp) ?_
  refine wpS_forE (κ1 := κ) (rangeD 0 L.length) (range1_ok (by omega) (by simp [w2, lln])) (fun tr ρ κ' => ∃ (E : List Int) (M' : Os) (z10 z11 z12 z13 : Sl), Wm κ' m M' ∧ Fr [0, m] κ κ' ∧ ρ = [.val DL, .val W, .val C, .val (.int t), .val ST, .val S, .val (.obj m), .val LN, .val (.bl b), .own (E.map D.int), z10, z11, z12, z13] ∧ En n L st E t M' ∧ E.length ≤ tr * 50 ∧ (b = true → Dy n L lens F t low (stamp st E t) M' ∧ (Fix L lens (F t) M' L.length ∨ unE L M' + tr ≤ L.length))) ⟨[], M, _, _, _, _, h, Fr.refl, rfl, En.init hls hlm hsm, by simp, fun q => ⟨by rw [stamp_nil]; exact hD q, .inr (by have := unE_le (L := L) (M := M); omega)⟩⟩ ?_ ?_
  · rintro tr dd ρ κ1 hd ⟨E0, M0, z10, z11, z12, z13, h1, f1, rfl, n1, l1, d1⟩
    obtain ⟨rfl, htr⟩ := mem_range hd
    refine ⟨_, gNm_ok rfl, ?_⟩
    simp only [List.set_cons_succ, List.set_cons_zero]
    refine wpS_forE (κ1 := κ1) (rangeD 0 L.length) (range1_ok (by omega) (by simp [w2, lln])) (fun bb ρ κ' => ∃ (E : List Int) (M' : Os) (z11 z12 z13 : Sl), Wm κ' m M' ∧ Fr [0, m] κ κ' ∧ ρ = [.val DL, .val W, .val C, .val (.int t), .val ST, .val S, .val (.obj m), .val LN, .val (.bl b), .own (E.map D.int), .val (.int (0 + tr)), z11, z12, z13] ∧ En n L st E t M' ∧ E.length ≤ tr * 50 + bb ∧ (b = true → Dy n L lens F t low (stamp st E t) M' ∧ ((M' = M0 ∧ Fix L lens (F t) M' bb) ∨ unE L M' + tr + 1 ≤ L.length))) ⟨E0, M0, _, _, _, h1, f1, rfl, n1, by omega, fun q => ⟨(d1 q).1, .inl ⟨rfl, fun b l z h => by omega⟩⟩⟩ ?_ ?_
    · rintro bb d' ρ κ2 hd' ⟨E, M', z11, z12, z13, h2, f2, rfl, n2, l2, d2⟩
      obtain ⟨rfl, hb⟩ := mem_range hd'
      have hb' : bb < L.length := by omega
      rw [show (0 : Int) + (bb : Int) = (bb : Nat) by omega]
      refine ⟨_, gNm_ok rfl, ?_⟩
      simp only [List.set_cons_succ, List.set_cons_zero]
      obtain ⟨l, hl⟩ : ∃ l, L[bb]? = some l := ⟨_, List.getElem?_eq_getElem hb'⟩
      have wl := w.lk l (List.mem_of_getElem? hl)
      have lm := n2.lm
      have g1 := fun κ => gat κ bb l hl
      have g2 := lk_two (l := l)
      rw [wpS_seq]
      refine wpS_atom (k := κ2) (ρ' := [.val DL, .val W, .val C, .val (.int t), .val ST, .val S, .val (.obj m), .val LN, .val (.bl b), .own (E.map D.int), .val (.int (0 + tr)), .val (.int bb), .val (.int l.b), .val (.int l.e)]) (by simp [w2, g1, g2]) ?_
      obtain ⟨tb, htb⟩ : ∃ t, M'[l.b]? = some t := ⟨_, List.getElem?_eq_getElem (by omega)⟩
      obtain ⟨te, hte⟩ : ∃ t, M'[l.e]? = some t := ⟨_, List.getElem?_eq_getElem (by omega)⟩
      obtain ⟨se, hse⟩ : ∃ t, st[l.e]? = some t := ⟨_, List.getElem?_eq_getElem (by omega)⟩
      have g3 := h2.at htb
      have g4 := fun κ => es _ _ hse κ
      have g5 := own_notin l.e E
      have g6 := own_notin l.b E
      have g7 := fun κ => lat κ bb hb'
      have hEl : E.length ≤ 2600 := by
        have : tr * 50 ≤ 50 * 50 := Nat.mul_le_mul_right _ (by omega)
        omega
      have hEl2 : ¬ 16777216 ≤ (E.map D.int).length := by simp; omega
      have eApp : E.map D.int ++ [D.int l.e] = (E ++ [(l.e : Int)]).map D.int := by simp
      -- nothing changes
      have skip : ∀ κ3, Wm κ3 m M' → Fr [0, m] κ κ3 → (b = true → ∀ z, te = none → tb = some z → F t < z + gI lens bb) → ∃ (E' : List Int) (M2 : Os) (z11 z12 z13 : Sl), Wm κ3 m M2 ∧ Fr [0, m] κ κ3 ∧ [Sl.val DL, .val W, .val C, .val (.int t), .val ST, .val S, .val (.obj m), .val LN, .val (.bl b), .own (E.map D.int), .val (.int (0 + tr)), .val (.int bb), .val (.int l.b), .val (.int l.e)] = [.val DL, .val W, .val C, .val (.int t), .val ST, .val S, .val (.obj m), .val LN, .val (.bl b), .own (E'.map D.int), .val (.int (0 + tr)), z11, z12, z13] ∧ En n L st E' t M2 ∧ E'.length ≤ tr * 50 + (bb + 1) ∧ (b = true → Dy n L lens F t low (stamp st E' t) M2 ∧ ((M2 = M0 ∧ Fix L lens (F t) M2 (bb + 1)) ∨ unE L M2 + tr + 1 ≤ L.length)) := fun κ3 hm3 hf3 hno => by
        refine ⟨E, M', _, _, _, hm3, hf3, rfl, n2, by omega, fun q => ⟨(d2 q).1, (d2 q).2.imp (fun h => ⟨h.1, fun b' l' z hb2 hl2 he2 hz2 => ?_⟩) id⟩⟩
        by_cases q2 : b' < bb
        · exact h.2 b' l' z q2 hl2 he2 hz2
        · have : b' = bb := by omega
          subst this
          rw [hl] at hl2; cases hl2
          rw [hte] at he2; cases he2
          rw [htb] at hz2; cases hz2
          exact hno q z rfl rfl
      have hsE : te.isSome = (if (l.e : Int) ∈ E then true else se.isSome) := by
        have q1 := n2.sm l.e
        unfold seenAt at q1
        rw [hte, stamp_at, hse] at q1
        simp only [Option.getD_some, Option.map_some] at q1
        rw [q1]
        split <;> rfl
      by_cases c1 : (l.e : Int) ∈ E
      · refine wpS_atom (k := κ2) (ρ' := [.val DL, .val W, .val C, .val (.int t), .val ST, .val S, .val (.obj m), .val LN, .val (.bl b), .own (E.map D.int), .val (.int (0 + tr)), .val (.int bb), .val (.int l.b), .val (.int l.e)]) (by generalize E.map D.int = ED at *; simp [g5, c1]) (skip κ2 h2 f2 fun _ z hz _ => by rw [if_pos c1, hz] at hsE; cases hsE)
      rw [if_neg c1] at hsE
      cases se with
      | some x =>
        refine wpS_atom (k := κ2) (ρ' := [.val DL, .val W, .val C, .val (.int t), .val ST, .val S, .val (.obj m), .val LN, .val (.bl b), .own (E.map D.int), .val (.int (0 + tr)), .val (.int bb), .val (.int l.b), .val (.int l.e)]) (by generalize E.map D.int = ED at *; simp [g5, c1, g4, optI]) (skip κ2 h2 f2 fun _ z hz _ => by rw [hz] at hsE; cases hsE)
      | none =>
        have hte0 : te = none := by cases te with | none => rfl | some x => cases hsE
        subst hte0
        cases tb with
        | none =>
          refine wpS_atom (k := κ2) (ρ' := [.val DL, .val W, .val C, .val (.int t), .val ST, .val S, .val (.obj m), .val LN, .val (.bl b), .own (E.map D.int), .val (.int (0 + tr)), .val (.int bb), .val (.int l.b), .val (.int l.e)]) (by generalize E.map D.int = ED at *; simp [g5, c1, g4, g3, optI]) (skip κ2 h2 f2 fun _ z _ hz => by cases hz)
        | some z =>
          rw [wpS_if]
          refine wpE_atom (a := true) (k := κ2) (by generalize E.map D.int = ED at *; simp [g5, c1, g4, g3, optI]) ?_
          rw [if_pos rfl]
          have hsb : seenAt M' l.b = true := seen_of htb
          have hle : l.e < M'.length := by omega
          cases b with
          | true =>
            have hD1 := (d2 rfl).1
            by_cases hdue : z + gI lens bb ≤ F t
            case neg =>
              refine wpS_atom (k := κ2) (ρ' := [.val DL, .val W, .val C, .val (.int t), .val ST, .val S, .val (.obj m), .val LN, .val (.bl true), .own (E.map D.int), .val (.int (0 + tr)), .val (.int bb), .val (.int l.b), .val (.int l.e)]) (by generalize E.map D.int = ED at *; simp [g3, g7, ct, optI, hdue]) (skip κ2 h2 f2 fun _ z' _ hz => by cases hz; omega)
            rw [wpS_seq, wpS_if]
            refine wpE_atom (a := true) (k := κ2) (by generalize E.map D.int = ED at *; simp [g3, g7, ct, optI, hdue]) ?_
            rw [if_pos rfl, wpS_seq]
            refine wpS_atom (h2.setO (k := l.e) (x := z + gI lens bb) hle (by generalize E.map D.int = ED at *; simp [g3, g7, optI]) (by simp) (by simp)) ?_
            have h3 := h2.put (M' := M'.set l.e (some (z + gI lens bb)))
            have f3 : Fr [0, m] κ (κ2.set m (.lst ((M'.set l.e (some (z + gI lens bb))).map optI))) := f2.trans (Fr.set (by simp))
            generalize κ2.set m (.lst ((M'.set l.e (some (z + gI lens bb))).map optI)) = κ3 at *
            refine wpS_atom (k := κ3) (ρ' := [.val DL, .val W, .val C, .val (.int t), .val ST, .val S, .val (.obj m), .val LN, .val (.bl true), .own ((E ++ [(l.e : Int)]).map D.int), .val (.int (0 + tr)), .val (.int bb), .val (.int l.b), .val (.int l.e)]) (by rw [← eApp]; generalize E.map D.int = ED at *; simp at hEl2; simp; omega) ?_
            refine wpS_atom (k := κ3) (ρ' := [.val DL, .val W, .val C, .val (.int t), .val ST, .val S, .val (.obj m), .val LN, .val (.bl true), .own ((E ++ [(l.e : Int)]).map D.int), .val (.int (0 + tr)), .val (.int bb), .val (.int l.b), .val (.int l.e)]) (by generalize (E ++ [(l.e : Int)]).map D.int = ED at *; simp) ?_
            have hpe := hD1.pe bb l z hl hte htb
            have t1 : 1 ≤ t := by
              cases t with
              | zero =>
                simp only [Nat.zero_sub, Int.natCast_zero] at hlow hdue
                omega
              | succ t => omega
            have hlow' : low = F ((t : Int) - 1) := by rw [hlow, show ((t - 1 : Nat) : Int) = (t : Int) - 1 by omega]
            refine ⟨E ++ [(l.e : Int)], M'.set l.e (some (z + gI lens bb)), _, _, _, h3, f3, rfl, n2.add w hl c1 hse hsb (by omega), by simp; omega, fun _ => ⟨?_, .inr ?_⟩⟩
            · rw [stamp_snoc (by omega)]
              exact hD1.endL w hpos (by omega) hlow' hl hte htb hdue
            · have hdec := unE_set (L := L) (y := z + gI lens bb) hl hte
              rcases (d2 rfl).2 with ⟨hM, hf⟩ | hB
              · subst hM
                rcases (d1 rfl).2 with hf0 | hu
                · have := hf0 bb l z hb' hl hte htb; omega
                · omega
              · omega
          | false =>
            by_cases ht0 : 0 < t
            case neg =>
              refine wpS_atom (k := κ2) (ρ' := [.val DL, .val W, .val C, .val (.int t), .val ST, .val S, .val (.obj m), .val LN, .val (.bl false), .own (E.map D.int), .val (.int (0 + tr)), .val (.int bb), .val (.int l.b), .val (.int l.e)]) (by generalize E.map D.int = ED at *; simp [ht0]) (skip κ2 h2 f2 fun q => by cases q)
            obtain ⟨v, κ3, e8, hv, h3, f3⟩ := h2.take d (many := 4) (by omega)
            by_cases c2 : v = 0 ∧ (l.b : Int) ∉ E
            case neg =>
              refine wpS_atom (k := κ3) (ρ' := [.val DL, .val W, .val C, .val (.int t), .val ST, .val S, .val (.obj m), .val LN, .val (.bl false), .own (E.map D.int), .val (.int (0 + tr)), .val (.int bb), .val (.int l.b), .val (.int l.e)]) (by
                generalize E.map D.int = ED at *
                by_cases c3 : v = 0
                · have c4 : (l.b : Int) ∈ E := Classical.byContradiction fun q => c2 ⟨c3, q⟩
                  subst c3
                  simp at e8
                  simp [ht0, e8, g6, c4]
                · simp [ht0, e8, c3]) (skip κ3 h3 (f2.trans f3) fun q => by cases q)
            obtain ⟨rfl, c4⟩ := c2
            rw [wpS_seq]
            refine wpS_atom (k := κ2) (ρ' := [.val DL, .val W, .val C, .val (.int t), .val ST, .val S, .val (.obj m), .val LN, .val (.bl false), .own (E.map D.int), .val (.int (0 + tr)), .val (.int bb), .val (.int l.b), .val (.int l.e)]) (by generalize E.map D.int = ED at *; simp) ?_
            rw [wpS_if]
            refine wpE_atom (a := true) (k := κ3) (by generalize E.map D.int = ED at *; simp at e8; simp [ht0, e8, g6, c4]) ?_
            rw [if_pos rfl]
            simp only [wpS_seq]
            refine wpS_atom (h3.setO (k := l.e) (x := F t) hle (by generalize E.map D.int = ED at *; simp [ct]) (by simp) (by simp)) ?_
            have h4 := h3.put (M' := M'.set l.e (some (F t)))
            have f4 : Fr [0, m] κ (κ3.set m (.lst ((M'.set l.e (some (F t))).map optI))) := (f2.trans f3).trans (Fr.set (by simp))
            generalize κ3.set m (.lst ((M'.set l.e (some (F t))).map optI)) = κ4 at *
            refine wpS_atom (k := κ4) (ρ' := [.val DL, .val W, .val C, .val (.int t), .val ST, .val S, .val (.obj m), .val LN, .val (.bl false), .own ((E ++ [(l.e : Int)]).map D.int), .val (.int (0 + tr)), .val (.int bb), .val (.int l.b), .val (.int l.e)]) (by rw [← eApp]; generalize E.map D.int = ED at *; simp at hEl2; simp; omega) ?_
            exact ⟨E ++ [(l.e : Int)], M'.set l.e (some (F t)), _, _, _, h4, f4, rfl, n2.add w hl c1 hse hsb (by omega), by simp; omega, fun q => by cases q⟩
    · rintro ρ κ2 ⟨E, M', z11, z12, z13, h2, f2, rfl, n2, l2, d2⟩
      rw [range_len, show ((L.length : Int) - 0).toNat = L.length by omega] at d2 l2
      exact ⟨E, M', _, _, _, _, h2, f2, rfl, n2, by rw [Nat.succ_mul]; omega, fun q => ⟨(d2 q).1, (d2 q).2.imp (fun h => h.2) (fun h => by omega)⟩⟩
  · rintro ρ κ1 ⟨E, M', z10, z11, z12, z13, h1, f1, rfl, n1, l1, d1⟩
    rw [range_len, show ((L.length : Int) - 0).toNat = L.length by omega] at d1 l1
    have sq : (seqOf (.bor (E.map D.int))).bind intsOf = some E := by unfold seqOf; simp [intsOf_map]
    refine wpS_atomR (d := mm (srt E)) (k := κ1) (by generalize E.map D.int = ED at *; unfold mm; simp [sq]) ⟨E, M', rfl, h1, f1, n1, fun q => ?_⟩
    have hfix : Fix L lens (F t) M' L.length := by
      rcases (d1 q).2 with h | h
      · exact h
      · exact unE_fix (by omega) _ _
    exact (d1 q).1.low hfix
end
end K87
set_option Elab.async false
set_option linter.all false
set_option maxRecDepth 100000
set_option maxHeartbeats 4000000
/-! K87l: a day, plain. -/
namespace K87
open PySem L2 DL BF K82 SH
section
variable {st S S0 M : Os} {n : Nat} {R : List Ru} {L : List Lk} {E bs : List Int} {t t0 : Int}
theorem BegOk.nend (w : WebOk n R L) (h : BegOk n L st t bs) {l : Lk} (hl : l ∈ L) : (l.e : Int) ∉ bs := fun q => by
  have := h.ow _ q
  unfold isOwn at this
  obtain ⟨b, hb⟩ := List.mem_iff_getElem?.mp hl
  have h1 := lof_nd w.nd hb
  simp [h1] at this
theorem BegOk.none (h : BegOk n L st t bs) (hs : st.length = n) {k : Int} (hk : k ∈ bs) : ∃ j : Nat, k = (j : Nat) ∧ 1 ≤ j ∧ j < n ∧ lof L j = none ∧ st[j]? = some none := by
  have := h.ow _ hk
  unfold isOwn at this
  simp only [Bool.and_eq_true, decide_eq_true_eq, Bool.not_eq_true'] at this
  obtain ⟨⟨⟨h1, h2⟩, h3⟩, h4⟩ := this
  refine ⟨k.toNat, by omega, by omega, by omega, ?_, none_of (by omega) h4⟩
  cases q : lof L k.toNat with
  | none => rfl
  | some b => rw [q] at h3; cases h3
theorem stOk_begin (w : WebOk n R L) (h : StOk n L st t) (hb : BegOk n L st t bs) : StOk n L (stamp st bs t) t := by
  refine ⟨h.l0, by rw [stamp_len]; exact h.len, ?_, fun x hx => ?_, fun l hl x hx => ?_⟩
  · rw [stamp_at, h.z]
    have : (0 : Int) ∉ bs := fun q => by
      obtain ⟨j, h1, h2, _⟩ := hb.none h.len q
      omega
    simp [this]
  · obtain ⟨k, hk⟩ := List.mem_iff_getElem?.mp hx
    rw [stamp_at] at hk
    obtain ⟨y, hy, e⟩ := Option.map_eq_some_iff.mp hk
    split at e
    · cases e; have := h.l0; omega
    · subst e; exact h.bd x (List.mem_of_getElem? hy)
  · rw [stamp_at] at hx
    obtain ⟨y, hy, e⟩ := Option.map_eq_some_iff.mp hx
    rw [if_neg (hb.nend w hl)] at e
    subst e
    have := h.lk l hl x hy
    refine ⟨this.1, fun q2 => ?_⟩
    rw [stamp_at] at q2
    obtain ⟨z, hz, e⟩ := Option.map_eq_some_iff.mp q2
    split at e
    · cases e
    · subst e; exact this.2 hz
theorem mon_begin (w : WebOk n R L) (hs : st.length = n) (hb : BegOk n L st t bs) : Mon L st t (stamp st bs t) := by
  refine ⟨fun k x hx => ?_, fun l hl hx => .inl ?_⟩
  · rw [stamp_at, hx]
    have : (k : Int) ∉ bs := fun q => by
      obtain ⟨j, h1, h2, h3, h4, h5⟩ := hb.none hs q
      have : j = k := by omega
      subst this
      rw [hx] at h5; cases h5
    simp [this]
  · rw [stamp_at, hx]
    have := hb.nend w hl
    simp [this]
theorem mon_end (h : En n L S E t M) (m : Mon L S0 t0 S) (ht : t0 < t) : Mon L S0 t0 (stamp S E t) := by
  refine ⟨fun k x hx => ?_, fun l hl hx => ?_⟩
  · have h1 := m.up k x hx
    rw [stamp_at, h1]
    have : (k : Int) ∉ E := fun q => by
      have := h.un k q
      simp at this
      rw [h1] at this; cases this
    simp [this]
  · by_cases q : (l.e : Int) ∈ E
    · have := h.un _ q
      simp at this
      exact .inr ⟨t, by rw [stamp_at, this]; simp [q], ht⟩
    · rw [stamp_at]
      rcases m.en l hl hx with h1 | ⟨y, h1, h2⟩
      · exact .inl (by rw [h1]; simp [q])
      · exact .inr ⟨y, by rw [h1]; simp [q], h2⟩
theorem st0_at {k : Nat} {x : Int} (h : (st0 n)[k]? = some (some x)) : k = 0 ∧ x = 0 := by
  unfold st0 at h
  cases k with
  | zero => simp at h; exact ⟨rfl, h.symm⟩
  | succ k =>
    rw [List.getElem?_cons_succ, List.getElem?_replicate] at h
    split at h <;> cases h
theorem st0_len (hn : 1 ≤ n) : (st0 n).length = n := by unfold st0; simp; omega
theorem st0_ok (w : WebOk n R L) (ht : 0 ≤ t) : StOk n L (st0 n) t := by
  refine ⟨ht, st0_len (by have := w.n2; omega), rfl, fun x hx => ?_, fun l hl x hx => ?_⟩
  · obtain ⟨k, hk⟩ := List.mem_iff_getElem?.mp hx
    have := (st0_at hk).2; omega
  · have := (st0_at hx).1
    have := w.lk l hl
    omega
theorem tick0_ok (w : WebOk n R L) (ht : 0 ≤ t) : TickOk n L (st0 n) (t - 1) [] :=
  ⟨by simp, by simp, .nil, by rw [stamp_nil]; exact st0_ok w (by omega)⟩
/-- own moments that have not begun may begin after the ends are stamped -/
theorem beg_of (h : En n L S E t M) (ht : 0 ≤ t) (hn : bs.Nodup) (hb : ∀ k ∈ bs, isOwn n L S k = true) : BegOk n L (stamp S E t) t bs := by
  refine ⟨fun k hk => ?_, ht, hn⟩
  have h1 := hb k hk
  unfold isOwn at h1 ⊢
  simp only [Bool.and_eq_true, decide_eq_true_eq, Bool.not_eq_true'] at h1 ⊢
  obtain ⟨⟨⟨g1, g2⟩, g3⟩, g4⟩ := h1
  refine ⟨⟨⟨g1, g2⟩, g3⟩, ?_⟩
  have : k ∉ E := fun q => by
    have := h.en k q
    unfold isEnd at this
    simp only [Bool.and_eq_true] at this
    cases q2 : lof L k.toNat with
    | none => rw [q2] at this; simp at this
    | some b => rw [q2] at g3; cases g3
  have e : ((k.toNat : Nat) : Int) = k := by omega
  unfold seenAt at g4 ⊢
  rw [stamp_at]
  cases q : S[k.toNat]? with
  | none => rfl
  | some t => rw [q] at g4; simp [e, this] at g4 ⊢; exact g4
end
end K87
set_option Elab.async false
set_option linter.all false
set_option maxRecDepth 100000
set_option maxHeartbeats 4000000
/-! K87n: one tick of a day, the walk. -/
namespace K87
open PySem L2 DL BF K82 SH
def D0 (κ : Ka) : Prop := ∃ i : Int, 0 ≤ i ∧ κ[0]? = some (.lst [.int i])
theorem D0.take {κ : Ka} {DL : D} (h : D0 κ) (d : Dr DL) {many : Int} (hm : 0 < many) : ∃ (v : Nat) (κ' : Ka), f__law_take [DL, .int many] κ = some (.ok (.int v), κ') ∧ (v : Int) < many ∧ D0 κ' ∧ Fr [0] κ κ' := by
  obtain ⟨i, h0, hi⟩ := h
  obtain ⟨v, e, hv⟩ := d.tk κ i many hi h0 hm
  exact ⟨v, _, e, hv, ⟨i + 1, by omega, List.getElem?_set_self (List.getElem?_eq_some_iff.mp hi).1⟩, Fr.set (by simp)⟩
theorem se_ne : (("strange" : Str) == "explained") = false := by decide +kernel
theorem es_ne : (("explained" : Str) == "strange") = false := by decide +kernel
theorem in_words {x : Str} (h : x = "strange" ∨ x = "explained") : cNotIn (.str x) (.lst [.str "explained", .str "strange"]) = some false := by
  rcases h with rfl | rfl
  · unfold cNotIn cIn
    simp [items, flatD, scalEq]
  · unfold cNotIn cIn
    simp [items, flatD, scalEq]
structure DayI (p q r u : Int) (n : Nat) (R : List Ru) (L : List Lk) (lens : List Int) (F : Int → Int) (b : Bool) (wa wb mA : Nat) (l : Int) (x : Nat) (κ : Ka) (S M : Os) (wd : Str) : Prop where
  d0 : D0 κ
  ca : ∃ Ta, κ[wa]? = some (.ins 1 (wf (sweb n R L) (kd p q r u) l S Ta))
  cb : ∃ Tb, κ[wb]? = some (.ins 1 (wf (sweb n R L) (kd p q r u) l (st0 n) Tb))
  cm : κ[mA]? = some (.lst (M.map optI))
  so : StOk n L S x
  lm : M.length = n
  sm : ∀ k, seenAt M k = seenAt S k
  dy : b = true → Dy n L lens F x (F x) S M
  bf : wd = "explained" ∨ (wd = "strange" ∧ l = x ∧ ∃ S0, StOk n L S0 x ∧ Bad (x + 1 + L.length) (stampR p q r u L S0 x) ∧ Mon L S0 x S)
section
variable {p q r u : Int} {n : Nat} {R : List Ru} {L : List Lk} {lens : List Int} {F : Int → Int} {b : Bool} {wa wb mA : Nat} {κ : Ka} {S M : Os} {wd : Str}
/-- the moments that begin -/
theorem begun_comp {DL WS LN C TK : D} {S10 S12 S13 S14 S15 S16 S17 S18 S19 S20 S21 : Sl} {T9 : D} {bb : Bool} (d : Dr DL) (w : WebOk n R L) (hs : S.length = n) (h0 : D0 κ) :
    ∃ (bs : List Int) (κ' : Ka), eComp [16] (iRange2 (aCons (eC (.int 1)) (aCons (eIdx (eVar 1) (eC (.int 0))) aNil))) (gNm 16) (bAnd (bCmp cNotIn (eVar 16) (eVar 7)) (bAnd (bCmp cIs (eIdx (eVar 8) (eVar 16)) (eC .non)) (bCmp cEq (eCall 2 f__law_take (aCons (eVar 0) (aCons (eC (.int 3)) aNil))) (eC (.int 0))))) (eVar 16) [.val DL, .val (sweb n R L), .val (kd p q r u), .val C, .val (.bl bb), .val WS, .val LN, .val (.lst ((eN L).map D.int)), .val (stD S), .val T9, S10, .val TK, S12, S13, S14, S15, S16, S17, S18, S19, S20, S21] κ = some (.ok (bs.map D.int), κ') ∧ D0 κ' ∧ Fr [0] κ κ' ∧ (∀ k ∈ bs, isOwn n L S k = true) ∧ bs.Nodup ∧ bs.length ≤ n := by
  have n6 := w.n6
  have n2 := w.n2
  have w0 : ∀ κ : Ka, oIdx κ (sweb n R L) (.int 0) = some (.int n) := fun κ => sw_0
  have es := fun (k : Nat) t (hk : S[k]? = some t) (κ : Ka) => st_at (κ := κ) hk
  have enin := fun k => cNotIn_eN (L := L) k
  generalize (eN L).map D.int = EN at *
  generalize stD S = SD at *
  generalize sweb n R L = W at *
  generalize kd p q r u = KK at *
  have hn : iRange2 (aCons (eC (.int 1)) (aCons (eIdx (eVar 1) (eC (.int 0))) aNil)) [.val DL, .val W, .val KK, .val C, .val (.bl bb), .val WS, .val LN, .val (.lst EN), .val SD, .val T9, S10, .val TK, S12, S13, S14, S15, S16, S17, S18, S19, S20, S21] κ = some (.ok (rangeD 1 n), κ) := range2_ok (by omega) (by omega) (by simp [w0])
  have hh := wpE_compE (vs := [16]) (g := gNm 16) (t := bAnd (bCmp cNotIn (eVar 16) (eVar 7)) (bAnd (bCmp cIs (eIdx (eVar 8) (eVar 16)) (eC .non)) (bCmp cEq (eCall 2 f__law_take (aCons (eVar 0) (aCons (eC (.int 3)) aNil))) (eC (.int 0))))) (e := eVar 16) (rangeD 1 n) (fun i acc κ' => ∃ bs : List Int, acc = bs.map D.int ∧ D0 κ' ∧ Fr [0] κ κ' ∧ (∀ k ∈ bs, isOwn n L S k = true ∧ k < 1 + i) ∧ bs.Nodup ∧ bs.length ≤ i) (Q := fun acc κ' => ∃ bs : List Int, acc = bs.map D.int ∧ D0 κ' ∧ Fr [0] κ κ' ∧ (∀ k ∈ bs, isOwn n L S k = true) ∧ bs.Nodup ∧ bs.length ≤ n) hn (by rw [range_len]; omega) ⟨[], rfl, h0, Fr.refl, by simp, by simp, by simp⟩ ?_ ?_
  · obtain ⟨acc, κ', e, bs, rfl, x⟩ := wpE_eq.mp hh
    exact ⟨bs, κ', e, x⟩
  · rintro i dd acc κ' hd ⟨bs, rfl, h1, f1, hb, hnd, hl⟩
    obtain ⟨rfl, hi⟩ := mem_range hd
    refine ⟨_, gNm_ok rfl, ?_⟩
    simp only [wipeR_cons, wipeR_nil, List.set_cons_succ, List.set_cons_zero]
    obtain ⟨k, hk⟩ : ∃ k : Nat, (1 : Int) + (i : Int) = (k : Nat) := ⟨1 + i, by omega⟩
    rw [hk]
    have hkn : k < n := by omega
    obtain ⟨t, ht⟩ : ∃ t, S[k]? = some t := ⟨_, List.getElem?_eq_getElem (by omega)⟩
    have e1 := enin k
    have e2 := fun κ => es k t ht κ
    have no : ∀ κ2, D0 κ2 → Fr [0] κ κ2 → ∃ bs' : List Int, bs.map D.int = bs'.map D.int ∧ D0 κ2 ∧ Fr [0] κ κ2 ∧ (∀ k ∈ bs', isOwn n L S k = true ∧ k < 1 + ((i + 1 : Nat) : Int)) ∧ bs'.Nodup ∧ bs'.length ≤ i + 1 := fun κ2 hd2 hf2 => ⟨bs, rfl, hd2, hf2, fun k hk => ⟨(hb k hk).1, by have := (hb k hk).2; omega⟩, hnd, by omega⟩
    cases q1 : inE L k with
    | true =>
      rw [q1] at e1
      refine wpE_atom (a := false) (k := κ') (by simp [e1]) ?_
      rw [if_neg (by simp)]
      exact no κ' h1 f1
    | false =>
      rw [q1] at e1
      cases t with
      | some y =>
        refine wpE_atom (a := false) (k := κ') (by simp [e1, e2, optI]) ?_
        rw [if_neg (by simp)]
        exact no κ' h1 f1
      | none =>
        obtain ⟨v, κ2, e3, hv, h2, f2⟩ := h1.take d (many := 3) (by omega)
        by_cases q2 : v = 0
        case neg =>
          refine wpE_atom (a := false) (k := κ2) (by simp [e1, e2, optI, e3, q2]) ?_
          rw [if_neg (by simp)]
          exact no κ2 h2 (f1.trans f2)
        subst q2
        refine wpE_atom (a := true) (k := κ2) (by simp at e3; simp [e1, e2, optI, e3]) ?_
        rw [if_pos rfl]
        refine wpE_atom (a := .int k) (k := κ2) (by simp) ⟨rfl, bs ++ [(k : Int)], by simp, h2, f1.trans f2, fun j hj => ?_, ?_, by simp; omega⟩
        · rcases List.mem_append.mp hj with hj | hj
          · exact ⟨(hb j hj).1, by have := (hb j hj).2; omega⟩
          · simp at hj
            subst hj
            refine ⟨?_, by omega⟩
            have q3 := inE_end w (k : Int)
            rw [q1] at q3
            unfold isEnd at q3
            unfold isOwn
            have q4 := seen_none ht
            cases q5 : lof L k with
            | none => simp [q5, q4, hkn]; omega
            | some b => simp [q5, hkn] at q3
        · rw [List.nodup_append]
          refine ⟨hnd, by simp, fun x hx y hy e => ?_⟩
          simp at hy
          have := (hb x hx).2
          omega
  · rintro acc κ' ⟨bs, rfl, h1, f1, hb, hnd, hl⟩
    rw [range_len] at hl
    exact ⟨bs, rfl, h1, f1, fun k hk => (hb k hk).1, hnd, by omega⟩
end
end K87
set_option Elab.async false
set_option linter.all false
set_option maxRecDepth 100000
set_option maxHeartbeats 8000000
/-! K87o: one tick of a day, the walk, joined. -/
namespace K87
open PySem L2 DL BF K82 SH
section
variable {p q r u : Int} {n : Nat} {R : List Ru} {L : List Lk} {lens : List Int} {F : Int → Int} {b : Bool} {wa wb mA : Nat} {κ : Ka} {S M : Os} {wd : Str}
/-- the tick's statements -/
noncomputable def dayB : Es := (sSeq (sAsg (gNm 12) (eCall 5 f__law_ended (aCons (eVar 0) (aCons (eVar 1) (aCons (eVar 3) (aCons (eVar 11) (aCons (eTup (aCons (eVar 8) (aCons (eVar 9) (aCons (eVar 6) (aCons (eVar 4) aNil))))) aNil)))))))
      (sSeq (sAsg (gNm 13) (eBi bTuple (aCons (eFr (eComp [16] (iRange2 (aCons (eC (.int 1)) (aCons (eIdx (eVar 1) (eC (.int 0))) aNil))) (gNm 16) (bAnd (bCmp cNotIn (eVar 16) (eVar 7)) (bAnd (bCmp cIs (eIdx (eVar 8) (eVar 16)) (eC .non)) (bCmp cEq (eCall 2 f__law_take (aCons (eVar 0) (aCons (eC (.int 3)) aNil))) (eC (.int 0))))) (eVar 16))) aNil)))
      (sSeq (sIf (bCmp cEq (eCall 2 f__law_take (aCons (eVar 0) (aCons (eC (.int 2)) aNil))) (eC (.int 0))) (sAsg (gNm 13) (eRev (eVar 13))) sNext)
      (sSeq (sAsg (gNm 14) (eCall 8 f__law_told (aCons (eVar 0) (aCons (eIdx (eVar 5) (eC (.int 0))) (aCons (eVar 1) (aCons (eVar 2) (aCons (eVar 8) (aCons (eOp oSub (eVar 11) (eC (.int 1))) (aCons (eVar 12) (aCons (eVar 13) aNil))))))))))
      (sSeq (sIf (bOr (bCmp cIs (eVar 14) (eC .non)) (bCmp cNotIn (eMeth 1 "tick" 2 f_ClockWatch_tick (eIdx (eVar 5) (eC (.int 1))) (aCons (eTup aNil) aNil)) (eFr (fLst (aCons (eC (.str "explained")) (aCons (eC (.str "strange")) aNil)))))) (sRet (eC (.bl false))) sNext)
      (sSeq (sAsg (gTu 2 (gsCons (gNm 15) (gsCons (gNm 8) gsNil))) (eVar 14))
      (sSeq (sForE (iAny false (eVar 13)) (gNm 16) (sSetO (eVar 9) (eVar 16) (eIdx (eVar 3) (eVar 11))))
      (sSeq (sIf (bOr (bAnd (bOf (eVar 4)) (bCmp cNe (eVar 15) (eC (.str "explained")))) (bAnd (bCmp cEq (eVar 10) (eC (.str "strange"))) (bCmp cNe (eVar 15) (eC (.str "strange"))))) (sRet (eC (.bl false))) sNext)
      (sAsg (gNm 10) (eVar 15))))))))))
theorem noteW {x y : Str} (hx : x = "strange" ∨ x = "explained") (hy : y = "strange" ∨ y = "explained") : cNe (.str x) (.str y) = some (!decide (x = y)) ∧ cEq (.str x) (.str y) = some (decide (x = y)) := by
  have ox : PyData.strOk x = true := by rcases hx with rfl | rfl; exact ok_strange; exact ok_explained
  have oy : PyData.strOk y = true := by rcases hy with rfl | rfl; exact ok_strange; exact ok_explained
  constructor
  · rw [cNeS ox oy]
    congr 2
  · rw [cEqS ox oy]
    congr 1
theorem day_tick {DL : D} {len x τ : Nat} {l : Int} {S12 S13 S14 S15 S16 S17 S18 S19 S20 S21 : Sl} (d : Dr DL) (w : WebOk n R L) (hL : L.length ≤ 50) (hn50 : n ≤ 50) (k : Ki p q r u) (hlen : lens.length = L.length) (hτ : τ < len) (hτ2 : τ ≤ 100) (hG : Good p q r u len F)
    (hls : ∀ (b : Nat) l, L[b]? = some l → l.lo ≤ gI lens b ∧ gI lens b ≤ l.hi) (hx : x = τ - 1) (hl : l = (τ : Int) - 1) (dist : wa ≠ 0 ∧ wb ≠ 0 ∧ mA ≠ 0 ∧ wa ≠ wb ∧ wa ≠ mA ∧ wb ≠ mA)
    (I : DayI p q r u n R L lens F b wa wb mA l x κ S M wd) :
    wpS (dayB [.val DL, .val (sweb n R L), .val (kd p q r u), .val (clk len F), .val (.bl b), .val (.tup [.obj wa, .obj wb]), .val (.lst (lens.map D.int)), .val (.lst ((eN L).map D.int)), .val (stD S), .val (.obj mA), .val (.str wd), .val (.int τ), S12, S13, S14, S15, S16, S17, S18, S19, S20, S21] κ)
      (fun ρ' κ' => ∃ (S' M' : Os) (wd' : Str) (z12 z13 z14 z15 z16 : Sl), ρ' = [.val DL, .val (sweb n R L), .val (kd p q r u), .val (clk len F), .val (.bl b), .val (.tup [.obj wa, .obj wb]), .val (.lst (lens.map D.int)), .val (.lst ((eN L).map D.int)), .val (stD S'), .val (.obj mA), .val (.str wd'), .val (.int τ), z12, z13, z14, z15, z16, S17, S18, S19, S20, S21] ∧ DayI p q r u n R L lens F b wa wb mA τ τ κ' S' M' wd') (fun _ _ => False) (fun _ _ => False) (fun _ _ => False) := by
  obtain ⟨n1, n2', n3, n4, n5, n6'⟩ := dist
  have hpos : ∀ (b : Nat) l, L[b]? = some l → 1 ≤ gI lens b := fun b l hb => by have := hls b l hb; have := w.lk l (List.mem_of_getElem? hb); omega
  have n6 := w.n6
  have n2 := w.n2
  have hSl := I.so.len
  -- what ends
  obtain ⟨E, M1, κ1, e1, h1, f1, en1, dy1⟩ := ended_ok (κ := κ) (b := b) (F := F) (lens := lens) (low := F ((τ - 1 : Nat) : Int)) d (m := mA) (M := M) (st := S) ⟨I.d0, I.cm, n3⟩ w hL hlen hτ hSl hpos rfl (fun q => by have := I.dy q; rw [hx] at this; exact this.mono (by omega)) I.lm I.sm
  have soτ : StOk n L S (τ : Int) := StOk.mono I.so (by omega)
  have tk1 : TickOk n L S l (srt E) := by rw [hl]; exact en1.tick w soτ
  have so1 : StOk n L (stamp S E τ) τ := en1.stOk w soτ
  have cE : stamp S (srt E) τ = stamp S E τ := stamp_congr fun k => srt_mem
  -- what begins
  obtain ⟨bs, κ2, e2, h2, f2, hbs, hnd, hbl⟩ := begun_comp (κ := κ1) (S := S) (p := p) (q := q) (r := r) (u := u) (WS := .tup [.obj wa, .obj wb]) (LN := .lst (lens.map D.int)) (C := clk len F) (TK := .int τ) (T9 := .obj mA) (bb := b) (S10 := .val (.str wd)) (S12 := .val (mm (srt E))) (S13 := S13) (S14 := S14) (S15 := S15) (S16 := S16) (S17 := S17) (S18 := S18) (S19 := S19) (S20 := S20) (S21 := S21) d w hSl h1.c0
  obtain ⟨v3, κ3, e3, hv3, h3, f3⟩ := h2.take d (many := 2) (by omega)
  obtain ⟨bs', hbs', hnd', hbl', eB⟩ : ∃ bs' : List Int, (∀ k ∈ bs', isOwn n L S k = true) ∧ bs'.Nodup ∧ bs'.length ≤ n ∧ (sIf (bCmp cEq (eCall 2 f__law_take (aCons (eVar 0) (aCons (eC (.int 2)) aNil))) (eC (.int 0))) (sAsg (gNm 13) (eRev (eVar 13))) sNext) [.val DL, .val (sweb n R L), .val (kd p q r u), .val (clk len F), .val (.bl b), .val (.tup [.obj wa, .obj wb]), .val (.lst (lens.map D.int)), .val (.lst ((eN L).map D.int)), .val (stD S), .val (.obj mA), .val (.str wd), .val (.int τ), .val (mm (srt E)), .val (mm bs), S14, S15, S16, S17, S18, S19, S20, S21] κ2 = some (.nx [.val DL, .val (sweb n R L), .val (kd p q r u), .val (clk len F), .val (.bl b), .val (.tup [.obj wa, .obj wb]), .val (.lst (lens.map D.int)), .val (.lst ((eN L).map D.int)), .val (stD S), .val (.obj mA), .val (.str wd), .val (.int τ), .val (mm (srt E)), .val (mm bs'), S14, S15, S16, S17, S18, S19, S20, S21], κ3) := by
    by_cases q3 : v3 = 0
    · subst q3
      refine ⟨bs.reverse, fun k hk => hbs k (List.mem_reverse.mp hk), (List.reverse_perm bs).nodup_iff.mpr hnd, by simpa using hbl, ?_⟩
      rw [ifT (κ' := κ3) (by simp at e3; simp [e3])]
      have : oRev (mm bs) = some (mm bs.reverse) := by unfold mm; rw [oRev_tup, List.map_reverse]
      have nb := mm_nb (ms := bs.reverse)
      generalize mm bs.reverse = BR at *
      generalize mm bs = BB at *
      simp [this, nb]
    · refine ⟨bs, hbs, hnd, hbl, ?_⟩
      rw [ifF (κ' := κ3) (by simp [e3, q3])]
      rfl
  have hbeg : BegOk n L (stamp S E τ) τ bs' := beg_of en1 (by omega) hnd' hbs'
  -- the watches
  obtain ⟨Ta, ca⟩ := I.ca
  obtain ⟨Tb, cb⟩ := I.cb
  have f13 : Fr [0, mA] κ κ3 := f1.trans ((f2.trans f3).mono (by simp))
  have ca3 := f13.get ca (by simp [n1, n5])
  have cb3 := f13.get cb (by simp [n2', n6'])
  have cm3 := (f2.trans f3).get h1.cm (by simp [n3])
  have srl : (srt E).length ≤ 60 := by
    rw [(srt_perm E).length_eq]
    have h4 : E.length ≤ (eN L).length := en1.nd.length_le_of_subset (fun z hz => by
      have q1 := en1.en z hz
      rw [← inE_end w] at q1
      obtain ⟨j, b', l', e1, _, _, e2, e3⟩ := inE_of q1 w
      exact List.mem_map.mpr ⟨l', List.mem_of_getElem? e2, by rw [e3]; omega⟩)
    have h5 : (eN L).length = L.length := by simp [eN]
    omega
  obtain ⟨wd', κ4, A, e4, h4, f4, hw4⟩ := told_ok (κ := κ3) (a := wa) (last := l) (lt := τ) (st := S) (ms := srt E) (bs := bs') (T := Ta) d ⟨h3, ca3, n1⟩ w k hSl srl (by omega) (by omega) hτ2 hL tk1 (by rw [cE]; exact hbeg)
  rw [cE] at e4 h4 hw4
  have cb4 := f4.get cb3 (by simp [n2', Ne.symm n4])
  have cm4 := f4.get cm3 (by simp [n3, Ne.symm n5])
  obtain ⟨t5, A5, e5, ao5, ri5, ki5⟩ := tick_ok (lt := τ) (ms := []) cb4 w k (st0_len (by omega)) (by simp) (by omega) hτ2 (by rw [hl]; exact tick0_ok w (by omega))
  rw [stamp_nil] at e5 ri5
  have hw5 : wordOf A5 = "strange" ∨ wordOf A5 = "explained" := by
    rcases ki5 with ⟨ks, rfl, _⟩ | ⟨c, e, rfl⟩
    · exact .inl rfl
    · exact .inr rfl
  have hwd : wd' = "strange" ∨ wd' = "explained" := hw4.imp (·.1) (·.1)
  have hwd0 : wd = "strange" ∨ wd = "explained" := I.bf.elim .inr fun h => .inl h.1
  have f5 : Fr [0, wa, wb] κ4 (κ4.set wb (.ins 1 (wf (sweb n R L) (kd p q r u) τ (st0 n) (ansD A5))) ++ t5) := (Fr.set (by simp)).trans Fr.app
  have cb5 : (κ4.set wb (.ins 1 (wf (sweb n R L) (kd p q r u) τ (st0 n) (ansD A5))) ++ t5)[wb]? = some (.ins 1 (wf (sweb n R L) (kd p q r u) τ (st0 n) (ansD A5))) := by
    have := (List.getElem?_eq_some_iff.mp cb4).1
    rw [List.getElem?_append_left (by simpa using this)]
    exact List.getElem?_set_self this
  have f5' : Fr [wb] κ4 (κ4.set wb (.ins 1 (wf (sweb n R L) (kd p q r u) τ (st0 n) (ansD A5))) ++ t5) := (Fr.set (by simp)).trans Fr.app
  generalize hκ5 : κ4.set wb (.ins 1 (wf (sweb n R L) (kd p q r u) τ (st0 n) (ansD A5))) ++ t5 = κ5 at *
  have ca5 := f5'.get h4.ca (by simp [n4])
  have cm5 := f5'.get cm4 (by simp [Ne.symm n6'])
  have d5 : D0 κ5 := by
    obtain ⟨i, i0, hi⟩ := h4.c0
    exact ⟨i, i0, f5'.get hi (by simp [Ne.symm n2'])⟩
  -- words
  have hGτ : Good p q r u (τ + 1) F := fun a b ha hab hb => hG a b ha hab (by omega)
  have true_ok : b = true → wd' = "explained" := fun q => by
    rcases hw4 with ⟨_, hb⟩ | ⟨h, _⟩
    · exact absurd hb (pot_good (n := τ + 1 + L.length) ((dy1 q).keeps w k hls hGτ))
    · exact h
  have stay : wd = "strange" → wd' = "strange" := fun q => by
    rcases I.bf with h | ⟨_, hlx, S0, g1, g2, g3⟩
    · rw [h] at q; exact absurd q (by decide +kernel)
    · rcases hw4 with ⟨h, _⟩ | ⟨_, hb⟩
      · exact h
      · exact absurd (bad_mono w k g1 so1 (by omega) hτ2 (mon_end en1 g3 (by omega)) g2) hb
  have nxt : ∀ κ6 M6, D0 κ6 → (κ6[wa]? = κ5[wa]?) → (κ6[wb]? = κ5[wb]?) → κ6[mA]? = some (.lst (M6.map optI)) → M6.length = n → (∀ k, seenAt M6 k = seenAt (stamp (stamp S E τ) bs' τ) k) → (b = true → Dy n L lens F τ (F τ) (stamp (stamp S E τ) bs' τ) M6) → DayI p q r u n R L lens F b wa wb mA τ τ κ6 (stamp (stamp S E τ) bs' τ) M6 wd' := fun κ6 M6 g1 g2 g3 g4 g5 g6 g7 =>
    ⟨g1, ⟨A, by rw [g2]; exact ca5⟩, ⟨_, by rw [g3]; exact cb5⟩, g4, stOk_begin w so1 hbeg, g5, g6, g7, by
      rcases hw4 with ⟨h, hb⟩ | ⟨h, _⟩
      · exact .inr ⟨h, rfl, stamp S E τ, so1, hb, mon_begin w so1.len hbeg⟩
      · exact .inl h⟩
  -- the walk
  unfold dayB
  simp only [wpS_seq]
  have nw := sw_nb (n := n) (R := R) (L := L)
  have nk : isBor (kd p q r u) = false := rfl
  have ns := st_nb (s := S)
  have ns2 := st_nb (s := stamp (stamp S E τ) bs' τ)
  have nd := d.nb
  have nm1 := mm_nb (ms := srt E)
  have nm2 := mm_nb (ms := bs)
  have nm3 := mm_nb (ms := bs')
  have wk3 : walkD false (mm bs') = some (bs'.map D.int) := mm_walk
  have i5 := wi_tick cb4
  have ct : ∀ (κ : Ka), oIdx κ (clk len F) (.int τ) = some (.int (F τ)) := fun κ => by unfold clk; rw [oIdx_tup, tab_at (by omega) (by omega)]
  have inw := in_words hw5
  have ntu : ∀ ds, _root_.DL.isNon (.tup ds) = false := fun _ => rfl
  have tmm : D.tup (bs.map D.int) = mm bs := rfl
  have m0 : mm [] = .tup [] := rfl
  rw [m0] at e5
  have hlτ : (τ : Int) - 1 = l := hl.symm
  obtain ⟨c1, _⟩ := noteW hwd (.inr rfl : ("explained" : Str) = "strange" ∨ ("explained" : Str) = "explained")
  obtain ⟨c2, _⟩ := noteW hwd (.inl rfl : ("strange" : Str) = "strange" ∨ ("strange" : Str) = "explained")
  obtain ⟨_, c3⟩ := noteW hwd0 (.inl rfl : ("strange" : Str) = "strange" ∨ ("strange" : Str) = "explained")
  generalize hS2 : stD (stamp (stamp S E τ) bs' τ) = S2 at *
  generalize sweb n R L = W at *
  generalize kd p q r u = KK at *
  generalize clk len F = C at *
  generalize hS1 : stD S = S1 at *
  generalize hEN : (eN L).map D.int = EN at *
  have nl : isBor (.lst (lens.map D.int)) = false := rfl
  generalize D.lst (lens.map D.int) = LN at *
  generalize mm (srt E) = ME at *
  generalize hbm : bs.map D.int = Zb at *
  generalize mm bs = MB at *
  generalize hMB : mm bs' = MB' at *
  have ws0 : ∀ κ : Ka, oIdx κ (.tup [.obj wa, .obj wb]) (.int 0) = some (.obj wa) := fun κ => by rw [oIdx_tup, atI_0]
  have ws1 : ∀ κ : Ka, oIdx κ (.tup [.obj wa, .obj wb]) (.int 1) = some (.obj wb) := fun κ => by rw [oIdx_tup, atI_1]
  have nws : isBor (.tup [.obj wa, .obj wb]) = false := rfl
  generalize hWS : D.tup [.obj wa, .obj wb] = WS at *
  refine wpS_atom (k := κ1) (ρ' := [.val DL, .val W, .val KK, .val C, .val (.bl b), .val WS, .val LN, .val (.lst EN), .val S1, .val (.obj mA), .val (.str wd), .val (.int τ), .val ME, S13, S14, S15, S16, S17, S18, S19, S20, S21]) (by simp [ns, nl, e1, nm1]) ?_
  refine wpS_atom (k := κ2) (ρ' := [.val DL, .val W, .val KK, .val C, .val (.bl b), .val WS, .val LN, .val (.lst EN), .val S1, .val (.obj mA), .val (.str wd), .val (.int τ), .val ME, .val MB, S14, S15, S16, S17, S18, S19, S20, S21]) (by rw [sAsg_def, eBi_def, aCons_def, eFr_def, e2]; simp [tmm, nm2]) ?_
  refine wpS_atom (k := κ3) eB ?_
  refine wpS_atom (k := κ4) (ρ' := [.val DL, .val W, .val KK, .val C, .val (.bl b), .val WS, .val LN, .val (.lst EN), .val S1, .val (.obj mA), .val (.str wd), .val (.int τ), .val ME, .val MB', .val (.tup [.str wd', S2]), S15, S16, S17, S18, S19, S20, S21]) (by simp [ws0, hlτ, e4]) ?_
  refine wpS_atom (k := κ5) (ρ' := [.val DL, .val W, .val KK, .val C, .val (.bl b), .val WS, .val LN, .val (.lst EN), .val S1, .val (.obj mA), .val (.str wd), .val (.int τ), .val ME, .val MB', .val (.tup [.str wd', S2]), S15, S16, S17, S18, S19, S20, S21]) (by simp [ws1, i5, e5, inw, ntu]) ?_
  refine wpS_atom (k := κ5) (ρ' := [.val DL, .val W, .val KK, .val C, .val (.bl b), .val WS, .val LN, .val (.lst EN), .val S2, .val (.obj mA), .val (.str wd), .val (.int τ), .val ME, .val MB', .val (.tup [.str wd', S2]), .val (.str wd'), S16, S17, S18, S19, S20, S21]) (by simp [ns2]) ?_
  refine wpS_forE (κ1 := κ5) (bs'.map D.int) (by simp [wk3]) (fun i ρ κ' => ∃ (M6 : Os) (z16 : Sl), ρ = [.val DL, .val W, .val KK, .val C, .val (.bl b), .val WS, .val LN, .val (.lst EN), .val S2, .val (.obj mA), .val (.str wd), .val (.int τ), .val ME, .val MB', .val (.tup [.str wd', S2]), .val (.str wd'), z16, S17, S18, S19, S20, S21] ∧ D0 κ' ∧ Fr [mA] κ5 κ' ∧ κ'[mA]? = some (.lst (M6.map optI)) ∧ M6.length = n ∧ (∀ k, seenAt M6 k = seenAt (stamp (stamp S E τ) (bs'.take i) τ) k) ∧ (b = true → Dy n L lens F τ (F τ) (stamp (stamp S E τ) (bs'.take i) τ) M6)) ⟨M1, _, rfl, d5, Fr.refl, cm5, en1.lm, fun k => by rw [List.take_zero, stamp_nil]; exact en1.sm k, fun q => by rw [List.take_zero, stamp_nil]; exact dy1 q⟩ ?_ ?_
  · rintro i dd ρ κ' hd ⟨M6, z16, rfl, g1, gf, g2, g3, g4, g5⟩
    rw [List.getElem?_map] at hd
    obtain ⟨kk, hk, rfl⟩ := Option.map_eq_some_iff.mp hd
    have hil := (List.getElem?_eq_some_iff.mp hk).1
    obtain ⟨j, rfl, j1, j2, j3, j4⟩ := hbeg.none so1.len (List.mem_of_getElem? hk)
    refine ⟨_, gNm_ok rfl, ?_⟩
    simp only [List.set_cons_succ, List.set_cons_zero]
    have wm : Wm κ' mA M6 := ⟨g1, g2, n3⟩
    have eS := wm.setO (k := j) (x := F τ) (ρ := [.val DL, .val W, .val KK, .val C, .val (.bl b), .val WS, .val LN, .val (.lst EN), .val S2, .val (.obj mA), .val (.str wd), .val (.int τ), .val ME, .val MB', .val (.tup [.str wd', S2]), .val (.str wd'), .val (.int j), S17, S18, S19, S20, S21]) (mo := eVar 9) (mi := eVar 16) (mx := eIdx (eVar 3) (eVar 11)) (by omega) (by simp [ct]) (by simp) (by simp)
    have etk : bs'.take (i + 1) = bs'.take i ++ [(j : Int)] := by rw [List.take_add_one, hk]; rfl
    have hj0 : (j : Int) ∉ bs'.take i := fun q => by
      obtain ⟨i2, hi2⟩ := List.mem_iff_getElem?.mp q
      rw [List.getElem?_take] at hi2
      split at hi2
      · have := (List.getElem?_inj hil hnd').mp (hk.trans hi2.symm)
        omega
      · cases hi2
    have hsl : (stamp S E τ).length = n := so1.len
    have hst : stamp (stamp S E τ) (bs'.take (i + 1)) τ = (stamp (stamp S E τ) (bs'.take i) τ).set j (some (τ : Int)) := by
      rw [etk]
      exact stamp_snoc (by omega)
    have hjn : (stamp (stamp S E τ) (bs'.take i) τ)[j]? = some none := by
      rw [stamp_at, j4]; simp [hj0]
    refine wpS_atom eS ⟨M6.set j (some (F τ)), _, rfl, ?_, gf.trans (Fr.set (by simp)), (wm.put (M' := M6.set j (some (F τ)))).cm, by simp [g3], fun k' => ?_, fun q => ?_⟩
    · exact (wm.put (M' := M6.set j (some (F τ)))).c0
    · rw [hst, seen_set (by omega), seen_set (by rw [stamp_len]; omega), g4]
    · rw [hst]
      exact (g5 q).own w hpos (by omega) (Int.le_refl _) j2 j3 hjn
  · rintro ρ κ' ⟨M6, z16, rfl, g1, gf, g2, g3, g4, g5⟩
    rw [List.length_map, List.take_length] at g4 g5
    have fin := nxt κ' M6 g1 (gf.eq wa (List.getElem?_eq_some_iff.mp ca5).1 (by simp [n5])) (gf.eq wb (List.getElem?_eq_some_iff.mp cb5).1 (by simp [n6'])) g2 g3 g4 g5
    refine wpS_atom (k := κ') (ρ' := [.val DL, .val W, .val KK, .val C, .val (.bl b), .val WS, .val LN, .val (.lst EN), .val S2, .val (.obj mA), .val (.str wd), .val (.int τ), .val ME, .val MB', .val (.tup [.str wd', S2]), .val (.str wd'), z16, S17, S18, S19, S20, S21]) ?_ ?_
    · rcases hwd with h | h
      · have hb : b = false := by cases b with | false => rfl | true => have := true_ok rfl; rw [h] at this; exact absurd this (by decide +kernel)
        subst hb
        have c2' : cNe (.str wd') (.str "strange") = some false := by rw [c2, h]; simp
        by_cases q : wd = "strange"
        · have c3' : cEq (.str wd) (.str "strange") = some true := by rw [c3, q]; simp
          simp [c2', c3']
        · have c3' : cEq (.str wd) (.str "strange") = some false := by rw [c3]; simp [q]
          simp [c3']
      · have c1' : cNe (.str wd') (.str "explained") = some false := by rw [c1, h]; simp
        have q : ¬ wd = "strange" := fun q => by have := stay q; rw [h] at this; exact absurd this (by decide +kernel)
        have c3' : cEq (.str wd) (.str "strange") = some false := by rw [c3]; simp [q]
        cases b <;> simp [c1', c3']
    · exact wpS_atom (k := κ') (ρ' := [.val DL, .val W, .val KK, .val C, .val (.bl b), .val WS, .val LN, .val (.lst EN), .val S2, .val (.obj mA), .val (.str wd'), .val (.int τ), .val ME, .val MB', .val (.tup [.str wd', S2]), .val (.str wd'), z16, S17, S18, S19, S20, S21]) (by simp) ⟨_, M6, wd', _, _, _, _, _, by rw [hS2], fin⟩
end
end K87
set_option Elab.async false
set_option linter.all false
set_option maxRecDepth 100000
set_option maxHeartbeats 8000000
/-! K87p: a day. -/
namespace K87
open PySem L2 DL BF K82 SH
section
variable {p q r u : Int} {n : Nat} {R : List Ru} {L : List Lk} {lens : List Int} {F : Int → Int} {b : Bool} {wa wb mA : Nat} {κ : Ka} {S M : Os} {wd : Str}
theorem lens_comp {DL : D} {ρ : List Sl} (d : Dr DL) (w : WebOk n R L) (h0 : D0 κ) (h22 : ρ.length = 22) (hr0 : ρ[0]? = some (.val DL)) (hr1 : ρ[1]? = some (.val (sweb n R L))) :
    ∃ (ls : List Int) (κ' : Ka), eComp [17, 18, 19, 20] (iAny true (eIdx (eVar 1) (eC (.int 2)))) (gTu 4 (gsCons (gNm 17) (gsCons (gNm 18) (gsCons (gNm 19) (gsCons (gNm 20) gsNil))))) bYes (eOp oAdd (eVar 19) (eCall 2 f__law_take (aCons (eVar 0) (aCons (eOp oAdd (eOp oSub (eVar 20) (eVar 19)) (eC (.int 1))) aNil)))) ρ κ = some (.ok (ls.map D.int), κ') ∧ D0 κ' ∧ Fr [0] κ κ' ∧ ls.length = L.length ∧ ∀ (b : Nat) l, L[b]? = some l → l.lo ≤ gI ls b ∧ gI ls b ≤ l.hi := by
  have w2 : ∀ κ : Ka, oIdx κ (sweb n R L) (.int 2) = some (.tup (L.map lkD)) := fun κ => sw_2
  have hL := w.ll
  generalize sweb n R L = W at *
  have eV : ∀ (ρ : List Sl) (κ : Ka) (f : Nat) (d : D), ρ[f]? = some (.val d) → eVar f ρ κ = some (.ok d, κ) := fun ρ κ f d h => by unfold eVar; simp [h]
  have hn : iAny true (eIdx (eVar 1) (eC (.int 2))) ρ κ = some (.ok (L.map lkD), κ) := by simp [eV ρ κ 1 W hr1, w2]
  have hh := wpE_compE (vs := [17, 18, 19, 20]) (g := gTu 4 (gsCons (gNm 17) (gsCons (gNm 18) (gsCons (gNm 19) (gsCons (gNm 20) gsNil))))) (t := bYes) (e := eOp oAdd (eVar 19) (eCall 2 f__law_take (aCons (eVar 0) (aCons (eOp oAdd (eOp oSub (eVar 20) (eVar 19)) (eC (.int 1))) aNil)))) (L.map lkD) (fun b acc κ' => ∃ ls : List Int, acc = ls.map D.int ∧ D0 κ' ∧ Fr [0] κ κ' ∧ ls.length = b ∧ ∀ (b' : Nat) l, b' < b → L[b']? = some l → l.lo ≤ gI ls b' ∧ gI ls b' ≤ l.hi) (Q := fun acc κ' => ∃ ls : List Int, acc = ls.map D.int ∧ D0 κ' ∧ Fr [0] κ κ' ∧ ls.length = L.length ∧ ∀ (b : Nat) l, L[b]? = some l → l.lo ≤ gI ls b ∧ gI ls b ≤ l.hi) hn (by simp; omega) ⟨[], rfl, h0, Fr.refl, rfl, fun b' l h => by omega⟩ ?_ ?_
  · obtain ⟨acc, κ', e, ls, rfl, x⟩ := wpE_eq.mp hh
    exact ⟨ls, κ', e, x⟩
  · rintro b dd acc κ' hd ⟨ls, rfl, h1, f1, hb, hls⟩
    rw [List.getElem?_map] at hd
    obtain ⟨l, hl, rfl⟩ := Option.map_eq_some_iff.mp hd
    have wl := w.lk l (List.mem_of_getElem? hl)
    obtain ⟨v, κ2, e1, hv, h2, f2⟩ := h1.take d (many := l.hi - l.lo + 1) (by omega)
    refine ⟨_, lk_get, ?_⟩
    rw [bYes_def, wpE_ok, if_pos rfl]
    have k0 := eV (((((wipeR ρ [17, 18, 19, 20]).set 17 (.val (.int l.b))).set 18 (.val (.int l.e))).set 19 (.val (.int l.lo))).set 20 (.val (.int l.hi))) κ' 0 DL (by simp [hr0])
    have k1 := fun κ => eV (((((wipeR ρ [17, 18, 19, 20]).set 17 (.val (.int l.b))).set 18 (.val (.int l.e))).set 19 (.val (.int l.lo))).set 20 (.val (.int l.hi))) κ 19 (.int l.lo) (by simp [h22])
    have k2 := eV (((((wipeR ρ [17, 18, 19, 20]).set 17 (.val (.int l.b))).set 18 (.val (.int l.e))).set 19 (.val (.int l.lo))).set 20 (.val (.int l.hi))) κ' 20 (.int l.hi) (by simp [h22])
    generalize ((((wipeR ρ [17, 18, 19, 20]).set 17 (.val (.int l.b))).set 18 (.val (.int l.e))).set 19 (.val (.int l.lo))).set 20 (.val (.int l.hi)) = ρ2 at *
    refine wpE_atom (a := .int (l.lo + v)) (k := κ2) (by simp [k0, k1, k2, e1]) ⟨rfl, ls ++ [l.lo + v], by simp, h2, f1.trans f2, by simp [hb], ?_⟩
    intro b' l' hb' hl'
    by_cases q : b' < b
    · have := hls b' l' q hl'
      have e : gI (ls ++ [l.lo + v]) b' = gI ls b' := by rw [gI_eq, gI_eq, List.getElem?_append_left (by omega)]
      rw [e]; exact this
    · have : b' = b := by omega
      subst this
      rw [hl] at hl'; cases hl'
      have e : gI (ls ++ [l.lo + v]) b' = l.lo + v := by rw [gI_eq, List.getElem?_append_right (by omega), hb, Nat.sub_self]; rfl
      rw [e]; omega
  · rintro acc κ' ⟨ls, rfl, h1, f1, hb, hls⟩
    simp only [List.length_map] at hb hls
    exact ⟨ls, rfl, h1, f1, hb, fun b l hl => hls b l (List.getElem?_eq_some_iff.mp hl).1 hl⟩
theorem day_ok {DL : D} {len : Nat} (d : Dr DL) (w : WebOk n R L) (hL : L.length ≤ 50) (hn50 : n ≤ 50) (k : Ki p q r u) (hlen : len ≤ 100) (hC : Clock p q r u len F) (h0 : D0 κ) (ca : κ[wa]? = some (.ins 1 (wf (sweb n R L) (kd p q r u) (-1) (st0 n) .non))) (cb : κ[wb]? = some (.ins 1 (wf (sweb n R L) (kd p q r u) (-1) (st0 n) .non))) (hab : wa ≠ wb) :
    ∃ κ', f__law_day [DL, sweb n R L, kd p q r u, clk len F, .bl b, .tup [.obj wa, .obj wb]] κ = some (.ok (.bl true), κ') ∧ D0 κ' := by
  have n6 := w.n6
  have n2 := w.n2
  have wa0 : wa ≠ 0 := by
    rintro rfl
    obtain ⟨i, _, hi⟩ := h0
    rw [hi] at ca; cases ca
  have wb0 : wb ≠ 0 := by
    rintro rfl
    obtain ⟨i, _, hi⟩ := h0
    rw [hi] at cb; cases cb
  have wal := (List.getElem?_eq_some_iff.mp ca).1
  have wbl := (List.getElem?_eq_some_iff.mp cb).1
  obtain ⟨hl0, hF0, hG⟩ := hC
  suffices hh : wpE (f__law_day [DL, sweb n R L, kd p q r u, clk len F, .bl b, .tup [.obj wa, .obj wb]] κ) fun D κ' => D = .bl true ∧ D0 κ' by
    obtain ⟨D, κ', e, rfl, x⟩ := wpE_eq.mp hh
    exact ⟨κ', e, x⟩
  unfold f__law_day
  refine mean_wp ?_
  show wpS (m__law_day [.val DL, .val (sweb n R L), .val (kd p q r u), .val (clk len F), .val (.bl b), .val (.tup [.obj wa, .obj wb]), .no, .no, .no, .no, .no, .no, .no, .no, .no, .no, .no, .no, .no, .no, .no, .no] κ) _ _ _ _
  unfold m__law_day
  obtain ⟨lens, κ1, e1, h1, f1, hlens, hls⟩ := lens_comp (κ := κ) (ρ := [.val DL, .val (sweb n R L), .val (kd p q r u), .val (clk len F), .val (.bl b), .val (.tup [.obj wa, .obj wb]), .no, .no, .no, .no, .no, .no, .no, .no, .no, .no, .no, .no, .no, .no, .no, .no]) d w h0 rfl rfl rfl
  have hpos : ∀ (b : Nat) l, L[b]? = some l → 1 ≤ gI lens b := fun b l hb => by have := hls b l hb; have := w.lk l (List.mem_of_getElem? hb); omega
  have ca1 := f1.get ca (by simp [wa0])
  have cb1 := f1.get cb (by simp [wb0])
  have eE := ends_comp (f := 1) (v := 21) (ρ := [.val DL, .val (sweb n R L), .val (kd p q r u), .val (clk len F), .val (.bl b), .val (.tup [.obj wa, .obj wb]), .val (.lst (lens.map D.int)), .no, .no, .no, .no, .no, .no, .no, .no, .no, .no, .no, .no, .no, .no, .no]) (κ := κ1) (z := .non) w rfl (by simp) (by simp)
  have sm := st0_mul (n := n) (by omega) (by omega)
  have sa := st0_add (n := n) (by omega)
  have hmA : κ1.length ≠ 0 := by
    obtain ⟨i, _, hi⟩ := h1
    have := (List.getElem?_eq_some_iff.mp hi).1; omega
  have fa : Fr [0] κ1 (κ1 ++ [.lst ((st0 n).map optI)]) := Fr.app
  have I0 : DayI p q r u n R L lens F b wa wb κ1.length (((0 : Nat) : Int) - 1) (0 - 1) (κ1 ++ [.lst ((st0 n).map optI)]) (st0 n) (st0 n) "explained" := by
    refine ⟨?_, ⟨_, by simpa using fa.get ca1 (by simp [wa0])⟩, ⟨_, by simpa using fa.get cb1 (by simp [wb0])⟩, by simp, st0_ok w (by simp), st0_len (by omega), fun k => rfl, fun _ => Dy.init w hpos hF0, .inl rfl⟩
    obtain ⟨i, i0, hi⟩ := h1
    exact ⟨i, i0, by rw [List.getElem?_append_left (List.getElem?_eq_some_iff.mp hi).1, hi]⟩
  have dist : wa ≠ 0 ∧ wb ≠ 0 ∧ κ1.length ≠ 0 ∧ wa ≠ wb ∧ wa ≠ κ1.length ∧ wb ≠ κ1.length := by
    have := f1.le
    exact ⟨wa0, wb0, hmA, hab, by omega, by omega⟩
  have w0 : ∀ κ : Ka, oIdx κ (sweb n R L) (.int 0) = some (.int n) := fun κ => sw_0
  have nw := sw_nb (n := n) (R := R) (L := L)
  have nk : isBor (kd p q r u) = false := rfl
  have cl : ∀ κ : Ka, bLen κ [clk len F] = some (.int len) := fun κ => by unfold clk; rw [bLen_tup, tab_len]
  have ns := st_nb (s := st0 n)
  have nd := d.nb
  have step := fun {τ : Nat} {κ S M wd} {S12 S13 S14 S15 S16 : Sl} (hτ : τ < len) (I : DayI p q r u n R L lens F b wa wb κ1.length ((τ : Int) - 1) (τ - 1) κ S M wd) => day_tick (S12 := S12) (S13 := S13) (S14 := S14) (S15 := S15) (S16 := S16) (S17 := .no) (S18 := .no) (S19 := .no) (S20 := .no) (S21 := .no) d w hL hn50 k hlens hτ (by omega) hG hls rfl rfl dist I
  simp only [wpS_seq]
  have ini : ∀ ρ, ρ[1]? = some (.val (sweb n R L)) → (eSt (fCat (eFr (fLst (aCons (eC (.int 0)) aNil))) (eFr (fRep (eFr (fLst (aCons (eC .non) aNil))) (eOp oSub (eIdx (eVar 1) (eC (.int 0))) (eC (.int 1))))))) ρ κ1 = some (.ok (.obj κ1.length), κ1 ++ [.lst ((st0 n).map optI)]) := fun ρ h1 => by
    have hv : eVar 1 ρ κ1 = some (.ok (sweb n R L), κ1) := by unfold eVar; rw [h1]
    have er := fRep_one (ma := eFr (fLst (aCons (eC .non) aNil))) (mb := eOp oSub (eIdx (eVar 1) (eC (.int 0))) (eC (.int 1))) (x := .non) (ρ := ρ) (κ := κ1) (n := n - 1) (by simp) (by simp [hv, w0]; omega) (by omega)
    have l1 : 1 + (n - 1) ≤ 16777216 := by omega
    unfold eSt
    rw [fCat_def]
    simp [-fRep_def, er, l1, optI, st0]
  have sS := fun κ => same_ok (κ := κ) (sm_seen (st := st0 n) (v := (len : Int) - 1) (by rw [st0_len (by omega)]; omega))
  have clf : ∀ (κ : Ka) (ρ : List Sl), True := fun _ _ => trivial
  have ini1 := ini [.val DL, .val (sweb n R L), .val (kd p q r u), .val (clk len F), .val (.bl b), .val (.tup [.obj wa, .obj wb]), .val (.lst (lens.map D.int)), .val (.lst ((eN L).map D.int)), .val (stD (st0 n)), .no, .no, .no, .no, .no, .no, .no, .no, .no, .no, .no, .no, .no] rfl
  clear ini
  generalize hmAA : κ1.length = mA at *
  generalize hκ2 : κ1 ++ [.lst ((st0 n).map optI)] = κ2 at *
  generalize (List.replicate (n - 1) (none : Option Int)).map optI = Z at *
  refine wpS_atom (k := κ1) (ρ' := [.val DL, .val (sweb n R L), .val (kd p q r u), .val (clk len F), .val (.bl b), .val (.tup [.obj wa, .obj wb]), .val (.lst (lens.map D.int)), .no, .no, .no, .no, .no, .no, .no, .no, .no, .no, .no, .no, .no, .no, .no]) (by rw [sAsg_def, eFr_def, e1]; rfl) ?_
  refine wpS_atom (k := κ1) (ρ' := [.val DL, .val (sweb n R L), .val (kd p q r u), .val (clk len F), .val (.bl b), .val (.tup [.obj wa, .obj wb]), .val (.lst (lens.map D.int)), .val (.lst ((eN L).map D.int)), .no, .no, .no, .no, .no, .no, .no, .no, .no, .no, .no, .no, .no, .no]) (by rw [sAsg_def, eFr_def, eE]; rfl) ?_
  refine wpS_atom (k := κ1) (ρ' := [.val DL, .val (sweb n R L), .val (kd p q r u), .val (clk len F), .val (.bl b), .val (.tup [.obj wa, .obj wb]), .val (.lst (lens.map D.int)), .val (.lst ((eN L).map D.int)), .val (stD (st0 n)), .no, .no, .no, .no, .no, .no, .no, .no, .no, .no, .no, .no, .no]) (by
    generalize stD (st0 n) = SS at *
    generalize sweb n R L = W at *
    generalize kd p q r u = KK at *
    generalize clk len F = C at *
    generalize lens.map D.int = LN at *
    generalize (eN L).map D.int = EN at *
    simp [w0, sm, sa, ns]) ?_
  refine wpS_atom (k := κ2) (ρ' := [.val DL, .val (sweb n R L), .val (kd p q r u), .val (clk len F), .val (.bl b), .val (.tup [.obj wa, .obj wb]), .val (.lst (lens.map D.int)), .val (.lst ((eN L).map D.int)), .val (stD (st0 n)), .val (.obj mA), .no, .no, .no, .no, .no, .no, .no, .no, .no, .no, .no, .no]) (by rw [sAsg_def, ini1]; rfl) ?_
  refine wpS_atom (k := κ2) (ρ' := [.val DL, .val (sweb n R L), .val (kd p q r u), .val (clk len F), .val (.bl b), .val (.tup [.obj wa, .obj wb]), .val (.lst (lens.map D.int)), .val (.lst ((eN L).map D.int)), .val (stD (st0 n)), .val (.obj mA), .val (.str "explained"), .no, .no, .no, .no, .no, .no, .no, .no, .no, .no, .no]) rfl ?_
  refine wpS_forE (κ1 := κ2) (rangeD 0 len) (range1_ok (by omega) (by generalize clk len F = C at *; simp [cl])) (fun τ ρ κ => ∃ (S M : Os) (wd : Str) (z11 z12 z13 z14 z15 z16 : Sl), ρ = [.val DL, .val (sweb n R L), .val (kd p q r u), .val (clk len F), .val (.bl b), .val (.tup [.obj wa, .obj wb]), .val (.lst (lens.map D.int)), .val (.lst ((eN L).map D.int)), .val (stD S), .val (.obj mA), .val (.str wd), z11, z12, z13, z14, z15, z16, .no, .no, .no, .no, .no] ∧ DayI p q r u n R L lens F b wa wb mA ((τ : Int) - 1) (τ - 1) κ S M wd) ⟨_, _, _, _, _, _, _, _, _, rfl, I0⟩ ?_ ?_
  · rintro τ dd ρ κ' hd ⟨S, M, wd, z11, z12, z13, z14, z15, z16, rfl, I⟩
    obtain ⟨rfl, hτ⟩ := mem_range hd
    rw [show (0 : Int) + (τ : Int) = (τ : Nat) by omega]
    refine ⟨_, gNm_ok rfl, ?_⟩
    simp only [List.set_cons_succ, List.set_cons_zero]
    have hs := step (S12 := z12) (S13 := z13) (S14 := z14) (S15 := z15) (S16 := z16) (show τ < len by omega) I
    refine wpS_mono hs ?_ (fun _ _ h => h.elim) (fun _ _ h => h.elim) (fun _ _ h => h.elim)
    rintro ρ' κ'' ⟨S', M', wd', y12, y13, y14, y15, y16, rfl, I'⟩
    refine ⟨S', M', wd', _, _, _, _, _, _, rfl, ?_⟩
    rw [Nat.add_sub_cancel, show ((τ + 1 : Nat) : Int) - 1 = (τ : Int) by omega]
    exact I'
  · rintro ρ κ' ⟨S, M, wd, z11, z12, z13, z14, z15, z16, rfl, I⟩
    rw [range_len, show ((len : Int) - 0).toNat = len by omega] at I
    obtain ⟨Tb, cb⟩ := I.cb
    have e5 := seen_ok cb
    have e6 := wi_seen cb
    have d0 := I.d0
    have ns2 := st_nb (s := S)
    generalize stD (st0 n) = SS at *
    generalize stD S = S' at *
    generalize sweb n R L = W at *
    generalize kd p q r u = KK at *
    generalize clk len F = C at *
    generalize lens.map D.int = LN at *
    generalize (eN L).map D.int = EN at *
    have ws1 : ∀ κ : Ka, oIdx κ (.tup [.obj wa, .obj wb]) (.int 1) = some (.obj wb) := fun κ => by rw [oIdx_tup, atI_1]
    generalize D.tup [.obj wa, .obj wb] = WS at *
    exact wpS_atomR (d := .bl true) (k := κ') (by simp [w0, cl, ws1, e5, e6, sm, sa, ns, sS]) ⟨rfl, d0⟩
end
end K87
set_option Elab.async false
set_option linter.all false
set_option maxRecDepth 100000
set_option maxHeartbeats 8000000
/-! K87q: the law. -/
namespace K87
open PySem L2 DL BF K82 SH
theorem D0.clock {p q r s : Int} {κ : Ka} (h : D0 κ) (Rr : List Int) (t L : Int) (k : Ki p q r s) (l0 : 0 ≤ L) (l1 : L ≤ 100) : ∃ F κ', f__law_clock [dealD Rr t, kd p q r s, .int L] κ = some (.ok (clk (L + 1).toNat F), κ') ∧ Clock p q r s (L + 1).toNat F ∧ D0 κ' ∧ Fr [0] κ κ' := by
  obtain ⟨i, h0, hi⟩ := h
  cases κ with
  | nil => simp at hi
  | cons c tl =>
    simp at hi; subst hi
    obtain ⟨F, j, e, hC, hj⟩ := clock_okK Rr t i L tl h0 k l0 l1
    refine ⟨F, _, e, hC, ⟨j, hj, rfl⟩, ⟨by simp [atK], fun c hc hx => ?_⟩⟩
    cases c with
    | zero => simp at hx
    | succ c => rfl
theorem make_ok {K : D} {n : Nat} {R : List Ru} {L : List Lk} {κ : Ka} {ρ : List Sl} (hn : 1 ≤ n) (hn2 : n ≤ 1000) (hK : isBor K = false) (e1 : ∀ κ, eVar 2 ρ κ = some (.ok (sweb n R L), κ)) (e2 : ∀ κ, eVar 3 ρ κ = some (.ok K, κ)) :
    eMake 1 3 f_ClockWatch___init__ (aCons (eVar 2) (aCons (eVar 3) aNil)) ρ κ = some (.ok (.obj κ.length), κ ++ [.ins 1 (wf (sweb n R L) K (-1) (st0 n) .non)]) := by
  rw [eMake_def, aCons_def, e1]
  simp only [bind_ok, aCons_def, e2, aNil_def]
  rw [if_pos (by simp), init_ok hn hn2 hK (by simp)]
  simp
theorem law_true (ns : List Int) (hl : ns.length ≤ 63) : ∃ κ, f_law [.rol (ns.map D.int)] [] = some (.ok (.bl true), κ) := by
  suffices h : wpE (f_law [.rol (ns.map D.int)] []) fun d _ => d = .bl true by
    obtain ⟨d, κ, e, rfl⟩ := wpE_eq.mp h
    exact ⟨κ, e⟩
  obtain ⟨r, t, e1⟩ := deal_ok ns hl
  unfold f_law
  refine mean_wp ?_
  show wpS (m_law [.val (.rol (ns.map D.int)), .no, .no, .no, .no, .no, .no, .no] []) _ _ _ _
  unfold m_law
  simp only [wpS_seq]
  generalize D.rol (ns.map D.int) = SC at *
  refine wpS_atom (k := at_ 0) (ρ' := [.val SC, .val (dealD r t), .no, .no, .no, .no, .no, .no]) (by simp [e1, dealD]) ?_
  obtain ⟨x1, f1, g1⟩ := take_at r t 0 4 (by omega) (by omega)
  obtain ⟨R, L, j1, f2, w, hj1, hL3, hR5⟩ := seen_web_ok r t 1 (by omega) (m := 2 + x1) (by omega) (by omega)
  obtain ⟨p, q, ru, u, j2, f3, k, hj2⟩ := kind_ok r t j1 hj1
  rw [Int.zero_add] at f1
  have hnI : (2 : Int) + (x1 : Int) = ((2 + x1 : Nat) : Int) := by omega
  generalize hn : 2 + x1 = n at *
  have n6 := w.n6
  have n2 := w.n2
  have d : Dr (dealD r t) := dr_deal r t
  have nw := sw_nb (n := n) (R := R) (L := L)
  have nk : isBor (kd p q ru u) = false := rfl
  have nd := d.nb
  have ck := fun {κ : Ka} (h : D0 κ) (v : Nat) (hv : v < 6) => h.clock r t (2 + (v : Int)) k (by omega) (by omega)
  generalize hDL : dealD r t = DL at *
  refine wpS_atom (k := at_ j1) (ρ' := [.val SC, .val DL, .val (sweb n R L), .no, .no, .no, .no, .no]) (by generalize sweb n R L = W at *; simp [f1, hnI, f2, nw]) ?_
  refine wpS_atom (k := at_ j2) (ρ' := [.val SC, .val DL, .val (sweb n R L), .val (kd p q ru u), .no, .no, .no, .no]) (by generalize kd p q ru u = KK at *; generalize sweb n R L = W at *; simp [f3, nk]) ?_
  refine wpS_forE (κ1 := at_ j2) [.bl true, .bl false] (by simp) (fun i ρ κ => D0 κ ∧ ∃ z4 z5 z6 z7, ρ = [.val SC, .val DL, .val (sweb n R L), .val (kd p q ru u), z4, z5, z6, z7]) ⟨⟨j2, hj2, rfl⟩, _, _, _, _, rfl⟩ ?_ ?_
  · rintro i dd ρ κ hd ⟨h0, z4, z5, z6, z7, rfl⟩
    obtain ⟨b, rfl⟩ : ∃ b, dd = .bl b := by
      cases i with
      | zero => simp at hd; exact ⟨_, hd.symm⟩
      | succ i => cases i with
        | zero => simp at hd; exact ⟨_, hd.symm⟩
        | succ i => simp at hd
    refine ⟨_, gNm_ok rfl, ?_⟩
    simp only [List.set_cons_succ, List.set_cons_zero, wpS_seq]
    have m1 := make_ok (K := kd p q ru u) (n := n) (R := R) (L := L) (κ := κ) (ρ := [.val SC, .val DL, .val (sweb n R L), .val (kd p q ru u), .val (.bl b), z5, z6, z7]) (by omega) (by omega) nk (fun _ => rfl) (fun _ => rfl)
    have m2 := make_ok (K := kd p q ru u) (n := n) (R := R) (L := L) (κ := κ ++ [.ins 1 (wf (sweb n R L) (kd p q ru u) (-1) (st0 n) .non)]) (ρ := [.val SC, .val DL, .val (sweb n R L), .val (kd p q ru u), .val (.bl b), z5, z6, z7]) (by omega) (by omega) nk (fun _ => rfl) (fun _ => rfl)
    have c1 : (κ ++ [Cell.ins 1 (wf (sweb n R L) (kd p q ru u) (-1) (st0 n) .non)] ++ [Cell.ins 1 (wf (sweb n R L) (kd p q ru u) (-1) (st0 n) .non)])[κ.length]? = some (.ins 1 (wf (sweb n R L) (kd p q ru u) (-1) (st0 n) .non)) := by simp
    have c2 : (κ ++ [Cell.ins 1 (wf (sweb n R L) (kd p q ru u) (-1) (st0 n) .non)] ++ [Cell.ins 1 (wf (sweb n R L) (kd p q ru u) (-1) (st0 n) .non)])[(κ ++ [Cell.ins 1 (wf (sweb n R L) (kd p q ru u) (-1) (st0 n) .non)]).length]? = some (.ins 1 (wf (sweb n R L) (kd p q ru u) (-1) (st0 n) .non)) := by simp
    have hd2 : D0 (κ ++ [Cell.ins 1 (wf (sweb n R L) (kd p q ru u) (-1) (st0 n) .non)] ++ [Cell.ins 1 (wf (sweb n R L) (kd p q ru u) (-1) (st0 n) .non)]) := by
      obtain ⟨i, i0, hi⟩ := h0
      have := (List.getElem?_eq_some_iff.mp hi).1
      exact ⟨i, i0, by rw [List.append_assoc, List.getElem?_append_left this, hi]⟩
    have hne : κ.length ≠ (κ ++ [Cell.ins 1 (wf (sweb n R L) (kd p q ru u) (-1) (st0 n) .non)]).length := by simp
    generalize hκ2 : κ ++ [Cell.ins 1 (wf (sweb n R L) (kd p q ru u) (-1) (st0 n) .non)] ++ [Cell.ins 1 (wf (sweb n R L) (kd p q ru u) (-1) (st0 n) .non)] = κ2 at *
    generalize (κ ++ [Cell.ins 1 (wf (sweb n R L) (kd p q ru u) (-1) (st0 n) .non)]).length = wb at *
    generalize κ.length = wa at *
    refine wpS_atom (k := κ2) (ρ' := [.val SC, .val DL, .val (sweb n R L), .val (kd p q ru u), .val (.bl b), .val (.obj wa), .val (.obj wb), z7]) (by rw [sPar_def, aCons_def, m1, bind_ok, aCons_def, m2]; rfl) ?_
    have a1 := answer_ok c1 rfl
    have s1 := seen_ok c1
    have i1 := wi_answer c1
    have i2 := wi_seen c1
    have w0 : ∀ κ : Ka, oIdx κ (sweb n R L) (.int 0) = some (.int n) := fun κ => sw_0
    have sm := st0_mul (n := n) (by omega) (by omega)
    have sa := st0_add (n := n) (by omega)
    have ns := st_nb (s := st0 n)
    have sS := fun κ => same_ok (κ := κ) (sm_seen (st := st0 n) (v := -1) (by rw [st0_len (by omega)]; omega))
    obtain ⟨v, κ3, e3, hv, h3, f3'⟩ := hd2.take d (many := 6) (by omega)
    obtain ⟨F, κ4, e4, hC, h4, f4⟩ := ck h3 v (by omega)
    have wa0 : wa ≠ 0 := by
      rintro rfl
      obtain ⟨i, _, hi⟩ := hd2
      rw [hi] at c1; cases c1
    have wb0 : wb ≠ 0 := by
      rintro rfl
      obtain ⟨i, _, hi⟩ := hd2
      rw [hi] at c2; cases c2
    have c14 := (f3'.trans f4).get c1 (by simp [wa0])
    have c24 := (f3'.trans f4).get c2 (by simp [wb0])
    obtain ⟨κ5, e5, h5⟩ := day_ok (b := b) d w (by omega) (by omega) k (by omega) hC h4 c14 c24 hne
    have nc : isBor (clk (2 + (v : Int) + 1).toNat F) = false := rfl
    have ws : noBor [D.obj wa, .obj wb] = true := rfl
    generalize clk (2 + (v : Int) + 1).toNat F = C at *
    generalize stD (st0 n) = SS at *
    generalize (List.replicate (n - 1) (none : Option Int)).map optI = Z at *
    generalize sweb n R L = W at *
    generalize kd p q ru u = KK at *
    refine wpS_atom (k := κ2) (ρ' := [.val SC, .val DL, .val W, .val KK, .val (.bl b), .val (.obj wa), .val (.obj wb), z7]) (by simp [a1, s1, i1, i2, w0, sm, sa, ns, sS]) ?_
    refine wpS_atom (k := κ4) (ρ' := [.val SC, .val DL, .val W, .val KK, .val (.bl b), .val (.obj wa), .val (.obj wb), .val C]) (by simp [e3, e4, nc]) ?_
    exact wpS_atom (k := κ5) (ρ' := [.val SC, .val DL, .val W, .val KK, .val (.bl b), .val (.obj wa), .val (.obj wb), .val C]) (by simp [e5]) ⟨h5, _, _, _, _, rfl⟩
  · rintro ρ κ ⟨h0, z4, z5, z6, z7, rfl⟩
    exact wpS_atomR (d := .bl true) (k := κ) (by simp) rfl
end K87
set_option Elab.async false
set_option linter.all false
set_option maxRecDepth 100000
set_option maxHeartbeats 4000000
namespace K87
open PySem PySem.Spec PyProof.Rows L2 DL
def topS (i : Nat) : Stmt := PySem.Challenge.pw_dayholds_k87_whole_clocks_watched_by_tic.main.body.getD i (.Pass ⟨0, 0, 0, 0⟩)
abbrev s_keeps_rule : Stmt := topS 6
abbrev N_keeps_rule : List Str := ["times", "rule"]
theorem sc_keeps_rule : FnScope N_keeps_rule ["times", "rule"] (defScope s_keeps_rule) := ⟨rfl, rfl, rfl, by decide +kernel, rfl, by decide +kernel, by decide +kernel⟩
abbrev s_keeps : Stmt := topS 7
abbrev N_keeps : List Str := ["web", "times", "rule"]
theorem sc_keeps : FnScope N_keeps ["web", "times"] (defScope s_keeps) := ⟨rfl, rfl, rfl, by decide +kernel, rfl, by decide +kernel, by decide +kernel⟩
abbrev s_shifted : Stmt := topS 8
abbrev N_shifted : List Str := ["times", "t"]
theorem sc_shifted : FnScope N_shifted ["times"] (defScope s_shifted) := ⟨rfl, rfl, rfl, by decide +kernel, rfl, by decide +kernel, by decide +kernel⟩
abbrev s_is_walk : Stmt := topS 9
abbrev N_is_walk : List Str := ["web", "walk", "k", "one", "two"]
theorem sc_is_walk : FnScope N_is_walk ["web", "walk"] (defScope s_is_walk) := ⟨rfl, rfl, rfl, by decide +kernel, rfl, by decide +kernel, by decide +kernel⟩
abbrev s_length : Stmt := topS 10
abbrev N_length : List Str := ["web", "walk", "k"]
theorem sc_length : FnScope N_length ["web", "walk"] (defScope s_length) := ⟨rfl, rfl, rfl, by decide +kernel, rfl, by decide +kernel, by decide +kernel⟩
abbrev s_ends_of : Stmt := topS 11
abbrev N_ends_of : List Str := ["web", "walk"]
theorem sc_ends_of : FnScope N_ends_of ["web", "walk"] (defScope s_ends_of) := ⟨rfl, rfl, rfl, by decide +kernel, rfl, by decide +kernel, by decide +kernel⟩
abbrev s_is_bad_ring : Stmt := topS 12
abbrev N_is_bad_ring : List Str := ["web", "walk", "first", "last"]
theorem sc_is_bad_ring : FnScope N_is_bad_ring ["web", "walk"] (defScope s_is_bad_ring) := ⟨rfl, rfl, rfl, by decide +kernel, rfl, by decide +kernel, by decide +kernel⟩
abbrev s_Spreading___init__ : Stmt := inClass (topS 16) 0
abbrev N_Spreading___init__ : List Str := ["self", "web", "firsts", "k"]
theorem sc_Spreading___init__ : FnScope N_Spreading___init__ ["self", "web", "firsts"] (defScope s_Spreading___init__) := ⟨rfl, rfl, rfl, by decide +kernel, rfl, by decide +kernel, by decide +kernel⟩
abbrev s_Spreading_step : Stmt := inClass (topS 16) 1
abbrev N_Spreading_step : List Str := ["self", "found", "k", "i", "j", "most", "there"]
theorem sc_Spreading_step : FnScope N_Spreading_step ["self"] (defScope s_Spreading_step) := ⟨rfl, rfl, rfl, by decide +kernel, rfl, by decide +kernel, by decide +kernel⟩
abbrev s_Spreading_spread : Stmt := inClass (topS 16) 2
abbrev N_Spreading_spread : List Str := ["self", "turn", "found"]
theorem sc_Spreading_spread : FnScope N_Spreading_spread ["self"] (defScope s_Spreading_spread) := ⟨rfl, rfl, rfl, by decide +kernel, rfl, by decide +kernel, by decide +kernel⟩
abbrev s_Spreading_ring_from : Stmt := inClass (topS 16) 3
abbrev N_Spreading_ring_from : List Str := ["self", "moment", "turn", "walk", "here"]
theorem sc_Spreading_ring_from : FnScope N_Spreading_ring_from ["self", "moment"] (defScope s_Spreading_ring_from) := ⟨rfl, rfl, rfl, by decide +kernel, rfl, by decide +kernel, by decide +kernel⟩
abbrev s_holds_answer : Stmt := topS 17
abbrev N_holds_answer : List Str := ["web", "spreading", "found"]
theorem sc_holds_answer : FnScope N_holds_answer ["web"] (defScope s_holds_answer) := ⟨rfl, rfl, rfl, by decide +kernel, rfl, by decide +kernel, by decide +kernel⟩
abbrev s_link_of : Stmt := topS 19
abbrev N_link_of : List Str := ["web", "moment", "found", "b", "link"]
theorem sc_link_of : FnScope N_link_of ["web", "moment"] (defScope s_link_of) := ⟨rfl, rfl, rfl, by decide +kernel, rfl, by decide +kernel, by decide +kernel⟩
abbrev s_least_minutes : Stmt := topS 23
abbrev N_least_minutes : List Str := ["kind", "ticks"]
theorem sc_least_minutes : FnScope N_least_minutes ["kind", "ticks"] (defScope s_least_minutes) := ⟨rfl, rfl, rfl, by decide +kernel, rfl, by decide +kernel, by decide +kernel⟩
abbrev s_most_minutes : Stmt := topS 24
abbrev N_most_minutes : List Str := ["kind", "ticks"]
theorem sc_most_minutes : FnScope N_most_minutes ["kind", "ticks"] (defScope s_most_minutes) := ⟨rfl, rfl, rfl, by decide +kernel, rfl, by decide +kernel, by decide +kernel⟩
abbrev s_are_stamps : Stmt := topS 25
abbrev N_are_stamps : List Str := ["web", "stamps", "last", "begin", "end", "_", "t"]
theorem sc_are_stamps : FnScope N_are_stamps ["web", "stamps", "last"] (defScope s_are_stamps) := ⟨rfl, rfl, rfl, by decide +kernel, rfl, by decide +kernel, by decide +kernel⟩
abbrev s_true_moment : Stmt := topS 26
abbrev N_true_moment : List Str := ["web", "stamps", "last", "k", "b"]
theorem sc_true_moment : FnScope N_true_moment ["web", "stamps", "last", "k"] (defScope s_true_moment) := ⟨rfl, rfl, rfl, by decide +kernel, rfl, by decide +kernel, by decide +kernel⟩
abbrev s_clock_rules : Stmt := topS 27
abbrev N_clock_rules : List Str := ["kind", "last", "found", "a", "b"]
theorem sc_clock_rules : FnScope N_clock_rules ["kind", "last"] (defScope s_clock_rules) := ⟨rfl, rfl, rfl, by decide +kernel, rfl, by decide +kernel, by decide +kernel⟩
abbrev s_link_rules : Stmt := topS 28
abbrev N_link_rules : List Str := ["web", "stamps", "last", "b", "begin", "end", "least", "most", "here", "there", "found"]
theorem sc_link_rules : FnScope N_link_rules ["web", "stamps", "last", "b"] (defScope s_link_rules) := ⟨rfl, rfl, rfl, by decide +kernel, rfl, by decide +kernel, by decide +kernel⟩
abbrev s_stamp_web : Stmt := topS 29
abbrev N_stamp_web : List Str := ["web", "kind", "stamps", "last", "rules", "b", "link"]
theorem sc_stamp_web : FnScope N_stamp_web ["web", "kind", "stamps", "last"] (defScope s_stamp_web) := ⟨rfl, rfl, rfl, by decide +kernel, rfl, by decide +kernel, by decide +kernel⟩
abbrev s_explain_answer : Stmt := topS 30
abbrev N_explain_answer : List Str := ["web", "kind", "stamps", "last", "answer", "ends", "told", "link", "t"]
theorem sc_explain_answer : FnScope N_explain_answer ["web", "kind", "stamps", "last"] (defScope s_explain_answer) := ⟨rfl, rfl, rfl, by decide +kernel, rfl, by decide +kernel, by decide +kernel⟩
abbrev s_shows_explained : Stmt := topS 31
abbrev N_shows_explained : List Str := ["web", "kind", "stamps", "last", "answer", "there", "link", "t"]
theorem sc_shows_explained : FnScope N_shows_explained ["web", "kind", "stamps", "last", "answer"] (defScope s_shows_explained) := ⟨rfl, rfl, rfl, by decide +kernel, rfl, by decide +kernel, by decide +kernel⟩
abbrev s_ClockWatch___init__ : Stmt := inClass (topS 32) 0
abbrev N_ClockWatch___init__ : List Str := ["self", "web", "kind"]
theorem sc_ClockWatch___init__ : FnScope N_ClockWatch___init__ ["self", "web", "kind"] (defScope s_ClockWatch___init__) := ⟨rfl, rfl, rfl, by decide +kernel, rfl, by decide +kernel, by decide +kernel⟩
abbrev s_ClockWatch_stamped : Stmt := inClass (topS 32) 1
abbrev N_ClockWatch_stamped : List Str := ["self", "moments", "last", "k", "t"]
theorem sc_ClockWatch_stamped : FnScope N_ClockWatch_stamped ["self", "moments", "last"] (defScope s_ClockWatch_stamped) := ⟨rfl, rfl, rfl, by decide +kernel, rfl, by decide +kernel, by decide +kernel⟩
abbrev s_ClockWatch_tick : Stmt := inClass (topS 32) 2
abbrev N_ClockWatch_tick : List Str := ["self", "ended", "fresh", "stamps", "k"]
theorem sc_ClockWatch_tick : FnScope N_ClockWatch_tick ["self", "ended"] (defScope s_ClockWatch_tick) := ⟨rfl, rfl, rfl, by decide +kernel, rfl, by decide +kernel, by decide +kernel⟩
abbrev s_ClockWatch_begin : Stmt := inClass (topS 32) 3
abbrev N_ClockWatch_begin : List Str := ["self", "begun", "own", "k"]
theorem sc_ClockWatch_begin : FnScope N_ClockWatch_begin ["self", "begun"] (defScope s_ClockWatch_begin) := ⟨rfl, rfl, rfl, by decide +kernel, rfl, by decide +kernel, by decide +kernel⟩
abbrev s_ClockWatch_answer : Stmt := inClass (topS 32) 4
abbrev N_ClockWatch_answer : List Str := ["self"]
theorem sc_ClockWatch_answer : FnScope N_ClockWatch_answer ["self"] (defScope s_ClockWatch_answer) := ⟨rfl, rfl, rfl, by decide +kernel, rfl, by decide +kernel, by decide +kernel⟩
abbrev s_ClockWatch_seen : Stmt := inClass (topS 32) 5
abbrev N_ClockWatch_seen : List Str := ["self"]
theorem sc_ClockWatch_seen : FnScope N_ClockWatch_seen ["self"] (defScope s_ClockWatch_seen) := ⟨rfl, rfl, rfl, by decide +kernel, rfl, by decide +kernel, by decide +kernel⟩
abbrev s__law_deal : Stmt := topS 34
abbrev N__law_deal : List Str := ["script", "row", "k", "cell", "turn", "total"]
theorem sc__law_deal : FnScope N__law_deal ["script"] (defScope s__law_deal) := ⟨rfl, rfl, rfl, by decide +kernel, rfl, by decide +kernel, by decide +kernel⟩
abbrev s__law_take : Stmt := topS 35
abbrev N__law_take : List Str := ["deal", "many", "at", "cell", "turn"]
theorem sc__law_take : FnScope N__law_take ["deal", "many"] (defScope s__law_take) := ⟨rfl, rfl, rfl, by decide +kernel, rfl, by decide +kernel, by decide +kernel⟩
abbrev s__law_same : Stmt := topS 36
abbrev N__law_same : List Str := ["a", "b", "k"]
theorem sc__law_same : FnScope N__law_same ["a", "b"] (defScope s__law_same) := ⟨rfl, rfl, rfl, by decide +kernel, rfl, by decide +kernel, by decide +kernel⟩
abbrev s__law_bool : Stmt := topS 37
abbrev N__law_bool : List Str := ["answer", "due"]
theorem sc__law_bool : FnScope N__law_bool ["answer", "due"] (defScope s__law_bool) := ⟨rfl, rfl, rfl, by decide +kernel, rfl, by decide +kernel, by decide +kernel⟩
abbrev s__law_seen_web : Stmt := topS 38
abbrev N__law_seen_web : List Str := ["deal", "many", "links", "taken", "turn", "end", "begin", "least", "rules", "i", "j"]
theorem sc__law_seen_web : FnScope N__law_seen_web ["deal", "many"] (defScope s__law_seen_web) := ⟨rfl, rfl, rfl, by decide +kernel, rfl, by decide +kernel, by decide +kernel⟩
abbrev s__law_kind : Stmt := topS 39
abbrev N__law_kind : List Str := ["deal", "way", "q", "s"]
theorem sc__law_kind : FnScope N__law_kind ["deal"] (defScope s__law_kind) := ⟨rfl, rfl, rfl, by decide +kernel, rfl, by decide +kernel, by decide +kernel⟩
abbrev s__law_low : Stmt := topS 40
abbrev N__law_low : List Str := ["kind", "ticks"]
theorem sc__law_low : FnScope N__law_low ["kind", "ticks"] (defScope s__law_low) := ⟨rfl, rfl, rfl, by decide +kernel, rfl, by decide +kernel, by decide +kernel⟩
abbrev s__law_high : Stmt := topS 41
abbrev N__law_high : List Str := ["kind", "ticks"]
theorem sc__law_high : FnScope N__law_high ["kind", "ticks"] (defScope s__law_high) := ⟨rfl, rfl, rfl, by decide +kernel, rfl, by decide +kernel, by decide +kernel⟩
abbrev s__law_clock : Stmt := topS 42
abbrev N__law_clock : List Str := ["deal", "kind", "last", "found", "way", "c", "low", "high", "a"]
theorem sc__law_clock : FnScope N__law_clock ["deal", "kind", "last"] (defScope s__law_clock) := ⟨rfl, rfl, rfl, by decide +kernel, rfl, by decide +kernel, by decide +kernel⟩
abbrev s__law_refuses : Stmt := topS 43
abbrev N__law_refuses : List Str := ["watch", "word", "moments", "e"]
theorem sc__law_refuses : FnScope N__law_refuses ["watch", "word", "moments"] (defScope s__law_refuses) := ⟨rfl, rfl, rfl, by decide +kernel, rfl, by decide +kernel, by decide +kernel⟩
abbrev s__law_may_tick : Stmt := topS 44
abbrev N__law_may_tick : List Str := ["web", "stamps", "last", "ended", "ends", "k", "begin", "link"]
theorem sc__law_may_tick : FnScope N__law_may_tick ["web", "stamps", "last", "ended"] (defScope s__law_may_tick) := ⟨rfl, rfl, rfl, by decide +kernel, rfl, by decide +kernel, by decide +kernel⟩
abbrev s__law_wrong : Stmt := topS 45
abbrev N__law_wrong : List Str := ["deal", "watch", "web", "stamps", "last", "ends", "odds", "odd", "link", "k"]
theorem sc__law_wrong : FnScope N__law_wrong ["deal", "watch", "web", "stamps", "last"] (defScope s__law_wrong) := ⟨rfl, rfl, rfl, by decide +kernel, rfl, by decide +kernel, by decide +kernel⟩
abbrev s__law_told : Stmt := topS 46
abbrev N__law_told : List Str := ["deal", "watch", "web", "kind", "stamps", "last", "ended", "begun", "now", "due", "word", "told", "k"]
theorem sc__law_told : FnScope N__law_told ["deal", "watch", "web", "kind", "stamps", "last", "ended", "begun"] (defScope s__law_told) := ⟨rfl, rfl, rfl, by decide +kernel, rfl, by decide +kernel, by decide +kernel⟩
abbrev s__law_ended : Stmt := topS 47
abbrev N__law_ended : List Str := ["deal", "web", "clock", "tick", "state", "stamps", "minutes", "lengths", "is_true", "ended", "turn", "b", "begin", "end"]
theorem sc__law_ended : FnScope N__law_ended ["deal", "web", "clock", "tick", "state"] (defScope s__law_ended) := ⟨rfl, rfl, rfl, by decide +kernel, rfl, by decide +kernel, by decide +kernel⟩
abbrev s__law_day : Stmt := topS 48
abbrev N__law_day : List Str := ["deal", "web", "kind", "clock", "is_true", "watches", "lengths", "ends", "stamps", "minutes", "before", "tick", "ended", "begun", "told", "word", "k", "begin", "end", "least", "most", "link"]
theorem sc__law_day : FnScope N__law_day ["deal", "web", "kind", "clock", "is_true", "watches"] (defScope s__law_day) := ⟨rfl, rfl, rfl, by decide +kernel, rfl, by decide +kernel, by decide +kernel⟩
abbrev s_law : Stmt := topS 49
abbrev N_law : List Str := ["script", "deal", "web", "kind", "is_true", "watch", "other", "clock"]
theorem sc_law : FnScope N_law ["script"] (defScope s_law) := ⟨rfl, rfl, rfl, by decide +kernel, rfl, by decide +kernel, by decide +kernel⟩
structure Txt (mg : Str → Option Value) (K : PySem.W.Frag) (G : Gx) : Prop where
  z_abs : mg "abs" = none
  z_bool : mg "bool" = none
  z_enumerate : mg "enumerate" = none
  z_int : mg "int" = none
  z_isinstance : mg "isinstance" = none
  z_len : mg "len" = none
  z_list : mg "list" = none
  z_max : mg "max" = none
  z_min : mg "min" = none
  z_range : mg "range" = none
  z_set : mg "set" = none
  z_sorted : mg "sorted" = none
  z_str : mg "str" = none
  z_sum : mg "sum" = none
  z_tuple : mg "tuple" = none
  z_zip : mg "zip" = none
  c_EXPLAINED : ∃ t, mg "EXPLAINED" = some (.str "explained" t)
  c_HOLDS : ∃ t, mg "HOLDS" = some (.str "holds" t)
  c_RING : ∃ t, mg "RING" = some (.str "ring" t)
  c_STRANGE : ∃ t, mg "STRANGE" = some (.str "strange" t)
  cl_Spreading : Cls K (G.cls 0)
  cl_ClockWatch : Cls K (G.cls 1)
  na_ClockWatch_kind : NoAttr K (G.cls 1) "kind"
  na_ClockWatch_last : NoAttr K (G.cls 1) "last"
  na_ClockWatch_stamps : NoAttr K (G.cls 1) "stamps"
  na_ClockWatch_told : NoAttr K (G.cls 1) "told"
  na_ClockWatch_web : NoAttr K (G.cls 1) "web"
  na_Spreading_far : NoAttr K (G.cls 0) "far"
  na_Spreading_last : NoAttr K (G.cls 0) "last"
  na_Spreading_web : NoAttr K (G.cls 0) "web"
  xf_DayError : ExF K mg "DayError" (G.exc 0)
  hd_DayError : PySem.W.hasDictIn K (G.exc 0) = true
  xf_NotLet : ExF K mg "NotLet" (G.exc 1)
  hd_NotLet : PySem.W.hasDictIn K (G.exc 1) = true
  xf_BadDeed : ExF K mg "BadDeed" (G.exc 2)
  hd_BadDeed : PySem.W.hasDictIn K (G.exc 2) = true
  ec_BadDeed : ExcC K (G.exc 2)
  sb_BadDeed_BadDeed : PySem.W.subIn K (.ref (G.exc 2)) (.ref (G.exc 2)) = some true
  sb_BadDeed_DayError : PySem.W.subIn K (.ref (G.exc 2)) (.ref (G.exc 0)) = some true
  sb_BadDeed_NotLet : PySem.W.subIn K (.ref (G.exc 2)) (.ref (G.exc 1)) = some false
  zz : True
section
variable {P : Program} {w : World} {K : PySem.W.Frag} {mg : Str → Option Value} {base : Heap} {G : Gx}
theorem ok_keeps_rule (T : Txt mg K G)  {f : Addr} {fd : FuncData} (F : Fun K "keeps_rule" "keeps_rule" s_keeps_rule f fd) (b : Binds K fd ["times", "rule"] []) (m : mg "keeps_rule" = some (.ref f)) : FD P w K mg base G 1 "keeps_rule" 2 f_keeps_rule :=
  fn_fd F sc_keeps_rule b m fun cdv A outer s0 H E hr =>
    have nd := sc_keeps_rule.nd
    show PSsd _ _ _ _ m_keeps_rule from
    (s_one (s_ret (d_cmp k_le (d_sub (d_idx (pd_var 0) (d_idx (pd_var 1) pd_int)) (d_idx (pd_var 0) (d_idx (pd_var 1) pd_int))) (d_idx (pd_var 1) pd_int))))
theorem ok_keeps (T : Txt mg K G) (G_keeps_rule : FD P w K mg base G 1 "keeps_rule" 2 f_keeps_rule) {f : Addr} {fd : FuncData} (F : Fun K "keeps" "keeps" s_keeps f fd) (b : Binds K fd ["web", "times"] []) (m : mg "keeps" = some (.ref f)) : FD P w K mg base G 2 "keeps" 2 f_keeps :=
  fn_fd F sc_keeps b m fun cdv A outer s0 H E hr =>
    have nd := sc_keeps.nd
    show PSsd _ _ _ _ m_keeps from
    (s_cons (s_if (PBW.pb (pbw_or (b_cmp (k_ne hr.units) (w_len T.z_len (pd_var 1)) (d_idx (pd_var 0) pd_int)) (pbw_or1 (b_cmp (k_ne hr.units) (d_idx (pd_var 1) pd_int) pd_int)))) (s_one (s_ret pd_bl)) s_nil)
      (s_one (s_ret (d_cmp (k_eq hr.units) (w_len T.z_len (pd_fr (w_comp (own := [("rule", 2)]) rfl nd (d_iter (d_idx (pd_var 0) pd_int)) (by kernel_rfl) (fun _ _ _ _ _ => (t_name 2 nd)) (fun _ _ _ _ _ => (c_one (pb_not (pb_of (d_call G_keeps_rule hr (pl_cons (pd_var 1) (pl_cons (pd_var 2) pl_nil))))))) (fun _ _ _ _ _ => pd_int)))) pd_int))))
theorem ok_shifted (T : Txt mg K G)  {f : Addr} {fd : FuncData} (F : Fun K "shifted" "shifted" s_shifted f fd) (b : Binds K fd ["times"] []) (m : mg "shifted" = some (.ref f)) : FD P w K mg base G 1 "shifted" 1 f_shifted :=
  fn_fd F sc_shifted b m fun cdv A outer s0 H E hr =>
    have nd := sc_shifted.nd
    show PSsd _ _ _ _ m_shifted from
    (s_one (s_ret (w_tuple T.z_tuple (pd_fr (w_compO (own := [("t", 1)]) rfl nd (pd_var 0) (by kernel_rfl) (fun _ _ _ _ _ => (t_name 1 nd)) (fun _ _ _ _ _ => c_nil) (fun _ _ _ _ _ => (d_sub (pd_var 1) (d_idx (pd_var 0) pd_int))))))))
theorem ok_is_walk (T : Txt mg K G)  {f : Addr} {fd : FuncData} (F : Fun K "is_walk" "is_walk" s_is_walk f fd) (b : Binds K fd ["web", "walk"] []) (m : mg "is_walk" = some (.ref f)) : FD P w K mg base G 1 "is_walk" 2 f_is_walk :=
  fn_fd F sc_is_walk b m fun cdv A outer s0 H E hr =>
    have nd := sc_is_walk.nd
    show PSsd _ _ _ _ m_is_walk from
    (s_cons (s_if (b_cmp k_gt (w_len T.z_len (pd_fr (w_comp (own := [("k", 2)]) rfl nd (d_iter (pd_var 1)) (by kernel_rfl) (fun _ _ _ _ _ => (t_name 2 nd)) (fun _ _ _ _ _ => (c_one (pb_not (b_chain k_le k_lt pd_int (pd_var 2) (w_len T.z_len (d_idx (pd_var 0) pd_int)))))) (fun _ _ _ _ _ => pd_int)))) pd_int) (s_one (s_ret pd_bl)) s_nil)
      (s_one (s_ret (d_cmp (k_eq hr.units) (w_len T.z_len (pd_fr (w_comp (own := [("one", 3), ("two", 4)]) rfl nd (w_zip T.z_zip (pd_var 1) (d_cut (pd_var 1) (p_some pd_int) p_none)) (by kernel_rfl) (fun _ _ _ _ _ => (t_tup (K := K) rfl (ts_cons (t_name 3 nd) (ts_cons (t_name 4 nd) ts_nil)))) (fun _ _ _ _ _ => (c_one (b_cmp (k_ne hr.units) (d_idx (d_idx (d_idx (pd_var 0) pd_int) (pd_var 3)) pd_int) (d_idx (d_idx (d_idx (pd_var 0) pd_int) (pd_var 4)) pd_int)))) (fun _ _ _ _ _ => pd_int)))) pd_int))))
theorem ok_length (T : Txt mg K G)  {f : Addr} {fd : FuncData} (F : Fun K "length" "length" s_length f fd) (b : Binds K fd ["web", "walk"] []) (m : mg "length" = some (.ref f)) : FD P w K mg base G 1 "length" 2 f_length :=
  fn_fd F sc_length b m fun cdv A outer s0 H E hr =>
    have nd := sc_length.nd
    show PSsd _ _ _ _ m_length from
    (s_one (s_ret (w_sum T.z_sum (pd_fr (w_comp (own := [("k", 2)]) rfl nd (d_iter (pd_var 1)) (by kernel_rfl) (fun _ _ _ _ _ => (t_name 2 nd)) (fun _ _ _ _ _ => c_nil) (fun _ _ _ _ _ => (d_idx (d_idx (d_idx (pd_var 0) pd_int) (pd_var 2)) pd_int)))))))
theorem ok_ends_of (T : Txt mg K G)  {f : Addr} {fd : FuncData} (F : Fun K "ends_of" "ends_of" s_ends_of f fd) (b : Binds K fd ["web", "walk"] []) (m : mg "ends_of" = some (.ref f)) : FD P w K mg base G 1 "ends_of" 2 f_ends_of :=
  fn_fd F sc_ends_of b m fun cdv A outer s0 H E hr =>
    have nd := sc_ends_of.nd
    show PSsd _ _ _ _ m_ends_of from
    (s_one (s_ret (pd_tup (pl_cons (d_idx (d_idx (d_idx (pd_var 0) pd_int) (d_idx (pd_var 1) pd_int)) pd_int) (pl_cons (d_idx (d_idx (d_idx (pd_var 0) pd_int) (d_idx (pd_var 1) (d_neg' pd_int))) pd_int) pl_nil)))))
theorem ok_is_bad_ring (T : Txt mg K G) (G_is_walk : FD P w K mg base G 1 "is_walk" 2 f_is_walk) (G_ends_of : FD P w K mg base G 1 "ends_of" 2 f_ends_of) (G_length : FD P w K mg base G 1 "length" 2 f_length) {f : Addr} {fd : FuncData} (F : Fun K "is_bad_ring" "is_bad_ring" s_is_bad_ring f fd) (b : Binds K fd ["web", "walk"] []) (m : mg "is_bad_ring" = some (.ref f)) : FD P w K mg base G 2 "is_bad_ring" 2 f_is_bad_ring :=
  fn_fd F sc_is_bad_ring b m fun cdv A outer s0 H E hr =>
    have nd := sc_is_bad_ring.nd
    show PSsd _ _ _ _ m_is_bad_ring from
    (s_cons (s_if (PBW.pb (pbw_or (b_cmp (k_eq hr.units) (pd_var 1) (pd_tup pl_nil)) (pbw_or1 (pb_not (pb_of (d_call G_is_walk hr (pl_cons (pd_var 0) (pl_cons (pd_var 1) pl_nil)))))))) (s_one (s_ret pd_bl)) s_nil)
      (s_cons (s_asg (d_call G_ends_of hr (pl_cons (pd_var 0) (pl_cons (pd_var 1) pl_nil))) (t_tup (K := K) rfl (ts_cons (t_name 2 nd) (ts_cons (t_name 3 nd) ts_nil))))
      (s_one (s_ret (pd_and (d_cmp (k_eq hr.units) (pd_var 2) (pd_var 3)) (pd_one (d_cmp k_lt (d_call G_length hr (pl_cons (pd_var 0) (pl_cons (pd_var 1) pl_nil))) pd_int)))))))
theorem ok_Spreading___init__ (T : Txt mg K G)  {f : Addr} {fd : FuncData} (F : Fun K "__init__" "Spreading.__init__" s_Spreading___init__ f fd) (b : Binds K fd ["self", "web", "firsts"] []) (m : Mk K (G.cls 0) f) (hx : mg "Spreading" = some (.ref (G.cls 0))) : FK P w K mg base G 1 0 "Spreading" 3 f_Spreading___init__ :=
  fk_of F sc_Spreading___init__ b m hx fun cdv A outer s0 H E hr =>
    have nd := sc_Spreading___init__.nd
    show PSsd _ _ _ _ m_Spreading___init__ from
    (s_cons (s_fld (pd_var 0) (pd_var 1) T.cl_Spreading T.na_Spreading_web)
      (s_cons (s_fld (pd_var 0) (d_st (w_comp (own := [("k", 3)]) rfl nd (w_range1 T.z_range (d_idx (pd_var 1) pd_int)) (by kernel_rfl) (fun _ _ _ _ _ => (t_name 3 nd)) (fun _ _ _ _ _ => c_nil) (fun _ _ _ _ _ => (pd_if (b_cmp k_in (pd_var 3) (pd_var 2)) pd_int pd_non)))) T.cl_Spreading T.na_Spreading_far)
      (s_one (s_fld (pd_var 0) (d_st (pf_rep (pd_fr (pf_lst (pl_cons pd_non pl_nil))) (d_idx (pd_var 1) pd_int))) T.cl_Spreading T.na_Spreading_last))))
theorem ok_Spreading_step (T : Txt mg K G)  {f : Addr} {fd : FuncData} (F : Fun K "step" "Spreading.step" s_Spreading_step f fd) (b : Binds K fd ["self"] []) (m : Meth K (G.cls 0) "step" f) : FM P w K mg base G 1 0 "step" 1 f_Spreading_step :=
  fm_of F sc_Spreading_step b m fun cdv A outer s0 H E hr =>
    have nd := sc_Spreading_step.nd
    show PSsd _ _ _ _ m_Spreading_step from
    (s_cons (s_set (i := 1) nd pd_non)
      (s_cons (s_for PassesOwn.never rfl (w_enum T.z_enumerate (d_idx (d_attr (pd_var 0) T.cl_Spreading T.na_Spreading_web) pd_int)) (t_tup (K := K) rfl (ts_cons (t_name 2 nd) (ts_cons (t_tup (K := K) rfl (ts_cons (t_name 3 nd) (ts_cons (t_name 4 nd) (ts_cons (t_name 5 nd) ts_nil)))) ts_nil))) (s_one (s_if (b_cmp k_isnot (d_idx (d_attr (pd_var 0) T.cl_Spreading T.na_Spreading_far) (pd_var 3)) pd_non) (s_cons (s_set (i := 6) nd (d_add (d_idx (d_attr (pd_var 0) T.cl_Spreading T.na_Spreading_far) (pd_var 3)) (pd_var 5)))
      (s_one (s_if (PBW.pb (pbw_or (b_cmp k_isn (d_idx (d_attr (pd_var 0) T.cl_Spreading T.na_Spreading_far) (pd_var 4)) pd_non) (pbw_or1 (b_cmp k_lt (pd_var 6) (d_idx (d_attr (pd_var 0) T.cl_Spreading T.na_Spreading_far) (pd_var 4)))))) (s_cons (s_seto (pd_var 6) (d_attr (pd_var 0) T.cl_Spreading T.na_Spreading_far) (pd_var 4))
      (s_cons (s_seto (pd_var 2) (d_attr (pd_var 0) T.cl_Spreading T.na_Spreading_last) (pd_var 4))
      (s_one (s_set (i := 1) nd (pd_var 4))))) s_nil))) s_nil)))
      (s_one (s_ret (pd_var 1)))))
theorem ok_Spreading_spread (T : Txt mg K G) (G_Spreading_step : FM P w K mg base G 1 0 "step" 1 f_Spreading_step) {f : Addr} {fd : FuncData} (F : Fun K "spread" "Spreading.spread" s_Spreading_spread f fd) (b : Binds K fd ["self"] []) (m : Meth K (G.cls 0) "spread" f) : FM P w K mg base G 2 0 "spread" 1 f_Spreading_spread :=
  fm_of F sc_Spreading_spread b m fun cdv A outer s0 H E hr =>
    have nd := sc_Spreading_spread.nd
    show PSsd _ _ _ _ m_Spreading_spread from
    (s_cons (s_for PassesOwn.never rfl (w_range1 T.z_range (d_idx (d_attr (pd_var 0) T.cl_Spreading T.na_Spreading_web) pd_int)) (t_name 1 nd) (s_cons (s_set (i := 2) nd (d_meth0 G_Spreading_step hr T.cl_Spreading (pd_var 0)))
      (s_one (s_if (b_cmp k_isn (pd_var 2) pd_non) (s_one (s_ret pd_non)) s_nil))))
      (s_one (s_ret (pd_var 2))))
theorem ok_Spreading_ring_from (T : Txt mg K G)  {f : Addr} {fd : FuncData} (F : Fun K "ring_from" "Spreading.ring_from" s_Spreading_ring_from f fd) (b : Binds K fd ["self", "moment"] []) (m : Meth K (G.cls 0) "ring_from" f) : FM P w K mg base G 1 0 "ring_from" 2 f_Spreading_ring_from :=
  fm_of F sc_Spreading_ring_from b m fun cdv A outer s0 H E hr =>
    have nd := sc_Spreading_ring_from.nd
    show PSsd _ _ _ _ m_Spreading_ring_from from
    (s_cons (s_for PassesOwn.never rfl (w_range1 T.z_range (d_idx (d_attr (pd_var 0) T.cl_Spreading T.na_Spreading_web) pd_int)) (t_name 2 nd) (s_one (s_set (i := 1) nd (d_idx (d_idx (d_idx (d_attr (pd_var 0) T.cl_Spreading T.na_Spreading_web) pd_int) (d_idx (d_attr (pd_var 0) T.cl_Spreading T.na_Spreading_last) (pd_var 1))) pd_int))))
      (s_cons (s_own (i := 3) nd (pf_lst pl_nil))
      (s_cons (s_set (i := 4) nd (pd_var 1))
      (s_cons (s_while PassesOwn.never (PBW.pb (pbw_or (b_cmp (k_eq hr.units) (pd_var 3) (pd_fr (pf_lst pl_nil))) (pbw_or1 (b_cmp (k_ne hr.units) (pd_var 4) (pd_var 1))))) (s_cons (s_app (i := 3) (d_idx (d_attr (pd_var 0) T.cl_Spreading T.na_Spreading_last) (pd_var 4)))
      (s_one (s_set (i := 4) nd (d_idx (d_idx (d_idx (d_attr (pd_var 0) T.cl_Spreading T.na_Spreading_web) pd_int) (d_idx (d_attr (pd_var 0) T.cl_Spreading T.na_Spreading_last) (pd_var 4))) pd_int)))))
      (s_one (s_ret (w_tuple T.z_tuple (d_rev (pd_var 3)))))))))
theorem ok_holds_answer (T : Txt mg K G) (G_Spreading___init__ : FK P w K mg base G 1 0 "Spreading" 3 f_Spreading___init__) (G_Spreading_spread : FM P w K mg base G 2 0 "spread" 1 f_Spreading_spread) (G_Spreading_ring_from : FM P w K mg base G 1 0 "ring_from" 2 f_Spreading_ring_from) (G_shifted : FD P w K mg base G 1 "shifted" 1 f_shifted) {f : Addr} {fd : FuncData} (F : Fun K "holds_answer" "holds_answer" s_holds_answer f fd) (b : Binds K fd ["web"] []) (m : mg "holds_answer" = some (.ref f)) : FD P w K mg base G 3 "holds_answer" 1 f_holds_answer :=
  fn_fd F sc_holds_answer b m fun cdv A outer s0 H E hr =>
    have nd := sc_holds_answer.nd
    show PSsd _ _ _ _ m_holds_answer from
    (s_cons (s_set (i := 1) nd (d_make G_Spreading___init__ hr (pl_cons (pd_var 0) (pl_cons (pd_fr (w_lrg1 T.z_list T.z_range (d_idx (pd_var 0) pd_int))) pl_nil))))
      (s_cons (s_set (i := 2) nd (d_meth0 G_Spreading_spread hr T.cl_Spreading (pd_var 1)))
      (s_cons (s_if (b_cmp k_isnot (pd_var 2) pd_non) (s_one (s_ret (pd_tup (pl_cons (d_gstr T.c_RING) (pl_cons (d_meth G_Spreading_ring_from hr T.cl_Spreading (pd_var 1) (pl_cons (pd_var 2) pl_nil)) pl_nil))))) s_nil)
      (s_one (s_ret (pd_tup (pl_cons (d_gstr T.c_HOLDS) (pl_cons (d_call G_shifted hr (pl_cons (d_attr (pd_var 1) T.cl_Spreading T.na_Spreading_far) pl_nil)) pl_nil))))))))
theorem ok_link_of (T : Txt mg K G)  {f : Addr} {fd : FuncData} (F : Fun K "link_of" "link_of" s_link_of f fd) (b : Binds K fd ["web", "moment"] []) (m : mg "link_of" = some (.ref f)) : FD P w K mg base G 1 "link_of" 2 f_link_of :=
  fn_fd F sc_link_of b m fun cdv A outer s0 H E hr =>
    have nd := sc_link_of.nd
    show PSsd _ _ _ _ m_link_of from
    (s_cons (w_setLc (i := 2) (own := [("b", 3), ("link", 4)]) rfl nd (w_enum T.z_enumerate (d_idx (pd_var 0) pd_int)) (by kernel_rfl) (fun _ _ _ _ _ => (t_tup (K := K) rfl (ts_cons (t_name 3 nd) (ts_cons (t_name 4 nd) ts_nil)))) (fun _ _ _ _ _ => (c_one (b_cmp (k_eq hr.units) (d_idx (pd_var 4) pd_int) (pd_var 1)))) (fun _ _ _ _ _ => (pd_var 3)))
      (s_one (s_ret (pd_if (b_cmp (k_eq hr.units) (pd_var 2) (pd_fr (pf_lst pl_nil))) pd_non (d_idx (pd_var 2) pd_int)))))
theorem ok_least_minutes (T : Txt mg K G)  {f : Addr} {fd : FuncData} (F : Fun K "least_minutes" "least_minutes" s_least_minutes f fd) (b : Binds K fd ["kind", "ticks"] []) (m : mg "least_minutes" = some (.ref f)) : FD P w K mg base G 1 "least_minutes" 2 f_least_minutes :=
  fn_fd F sc_least_minutes b m fun cdv A outer s0 H E hr =>
    have nd := sc_least_minutes.nd
    show PSsd _ _ _ _ m_least_minutes from
    (s_one (s_ret (d_fdiv (d_mul (pd_var 1) (d_idx (pd_var 0) pd_int)) (d_idx (pd_var 0) pd_int))))
theorem ok_most_minutes (T : Txt mg K G)  {f : Addr} {fd : FuncData} (F : Fun K "most_minutes" "most_minutes" s_most_minutes f fd) (b : Binds K fd ["kind", "ticks"] []) (m : mg "most_minutes" = some (.ref f)) : FD P w K mg base G 1 "most_minutes" 2 f_most_minutes :=
  fn_fd F sc_most_minutes b m fun cdv A outer s0 H E hr =>
    have nd := sc_most_minutes.nd
    show PSsd _ _ _ _ m_most_minutes from
    (s_one (s_ret (d_neg' (d_fdiv (d_mul (d_neg' (pd_var 1)) (d_idx (pd_var 0) pd_int)) (d_idx (pd_var 0) pd_int)))))
theorem ok_are_stamps (T : Txt mg K G)  {f : Addr} {fd : FuncData} (F : Fun K "are_stamps" "are_stamps" s_are_stamps f fd) (b : Binds K fd ["web", "stamps", "last"] []) (m : mg "are_stamps" = some (.ref f)) : FD P w K mg base G 1 "are_stamps" 3 f_are_stamps :=
  fn_fd F sc_are_stamps b m fun cdv A outer s0 H E hr =>
    have nd := sc_are_stamps.nd
    show PSsd _ _ _ _ m_are_stamps from
    (s_cons (s_if (PBW.pb (pbw_or (b_cmp k_lt (pd_var 2) pd_int) (pbw_or (b_cmp (k_ne hr.units) (w_len T.z_len (pd_var 1)) (d_idx (pd_var 0) pd_int)) (pbw_or1 (b_cmp (k_ne hr.units) (d_idx (pd_var 1) pd_int) pd_int))))) (s_one (s_ret pd_bl)) s_nil)
      (s_cons (s_if (b_cmp k_gt (w_len T.z_len (pd_fr (w_comp (own := [("t", 6)]) rfl nd (d_iter (pd_var 1)) (by kernel_rfl) (fun _ _ _ _ _ => (t_name 6 nd)) (fun _ _ _ _ _ => (c_one (PBW.pb (pbw_and (b_cmp k_isnot (pd_var 6) pd_non) (pbw_and1 (pb_not (b_chain k_le k_le pd_int (pd_var 6) (pd_var 2)))))))) (fun _ _ _ _ _ => pd_int)))) pd_int) (s_one (s_ret pd_bl)) s_nil)
      (s_cons (s_for PassesOwn.never rfl (d_iter (d_idx (pd_var 0) pd_int)) (t_tup (K := K) rfl (ts_cons (t_name 3 nd) (ts_cons (t_name 4 nd) (ts_cons (t_name 5 nd) (ts_cons (t_name 5 nd) ts_nil))))) (s_one (s_if (PBW.pb (pbw_and (b_cmp k_isnot (d_idx (pd_var 1) (pd_var 4)) pd_non) (pbw_and1 (PBW.pb (pbw_or (b_cmp k_lt (d_idx (pd_var 1) (pd_var 4)) pd_int) (pbw_or1 (b_cmp k_isn (d_idx (pd_var 1) (pd_var 3)) pd_non))))))) (s_one (s_ret pd_bl)) s_nil)))
      (s_one (s_ret pd_bl)))))
theorem ok_true_moment (T : Txt mg K G) (G_link_of : FD P w K mg base G 1 "link_of" 2 f_link_of) {f : Addr} {fd : FuncData} (F : Fun K "true_moment" "true_moment" s_true_moment f fd) (b : Binds K fd ["web", "stamps", "last", "k"] []) (m : mg "true_moment" = some (.ref f)) : FD P w K mg base G 2 "true_moment" 4 f_true_moment :=
  fn_fd F sc_true_moment b m fun cdv A outer s0 H E hr =>
    have nd := sc_true_moment.nd
    show PSsd _ _ _ _ m_true_moment from
    (s_cons (s_set (i := 4) nd (d_call G_link_of hr (pl_cons (pd_var 0) (pl_cons (pd_var 3) pl_nil))))
      (s_one (s_ret (pd_if (b_cmp k_isn (pd_var 4) pd_non) (d_idx (pd_var 1) (pd_var 3)) (d_add (d_add (pd_var 2) pd_int) (pd_var 4))))))
theorem ok_clock_rules (T : Txt mg K G) (G_most_minutes : FD P w K mg base G 1 "most_minutes" 2 f_most_minutes) (G_least_minutes : FD P w K mg base G 1 "least_minutes" 2 f_least_minutes) {f : Addr} {fd : FuncData} (F : Fun K "clock_rules" "clock_rules" s_clock_rules f fd) (b : Binds K fd ["kind", "last"] []) (m : mg "clock_rules" = some (.ref f)) : FD P w K mg base G 2 "clock_rules" 2 f_clock_rules :=
  fn_fd F sc_clock_rules b m fun cdv A outer s0 H E hr =>
    have nd := sc_clock_rules.nd
    show PSsd _ _ _ _ m_clock_rules from
    (s_cons (s_set (i := 2) nd (pd_fr (pf_lst pl_nil)))
      (s_cons (s_for PassesOwn.never rfl (w_range1 T.z_range (d_add (pd_var 1) pd_int)) (t_name 3 nd) (s_one (s_for PassesOwn.never rfl (w_range2 T.z_range (d_add (pd_var 3) pd_int) (d_add (pd_var 1) pd_int)) (t_name 4 nd) (s_one (s_set (i := 2) nd (d_add (pd_var 2) (pd_fr (pf_lst (pl_cons (pd_tup (pl_cons (pd_var 3) (pl_cons (pd_var 4) (pl_cons (d_call G_most_minutes hr (pl_cons (pd_var 0) (pl_cons (d_sub (pd_var 4) (pd_var 3)) pl_nil))) pl_nil)))) (pl_cons (pd_tup (pl_cons (pd_var 4) (pl_cons (pd_var 3) (pl_cons (d_neg' (d_call G_least_minutes hr (pl_cons (pd_var 0) (pl_cons (d_sub (pd_var 4) (pd_var 3)) pl_nil)))) pl_nil)))) pl_nil))))))))))
      (s_one (s_ret (pd_var 2)))))
theorem ok_link_rules (T : Txt mg K G) (G_true_moment : FD P w K mg base G 2 "true_moment" 4 f_true_moment) {f : Addr} {fd : FuncData} (F : Fun K "link_rules" "link_rules" s_link_rules f fd) (b : Binds K fd ["web", "stamps", "last", "b"] []) (m : mg "link_rules" = some (.ref f)) : FD P w K mg base G 3 "link_rules" 4 f_link_rules :=
  fn_fd F sc_link_rules b m fun cdv A outer s0 H E hr =>
    have nd := sc_link_rules.nd
    show PSsd _ _ _ _ m_link_rules from
    (s_cons (s_asg (d_idx (d_idx (pd_var 0) pd_int) (pd_var 3)) (t_tup (K := K) rfl (ts_cons (t_name 4 nd) (ts_cons (t_name 5 nd) (ts_cons (t_name 6 nd) (ts_cons (t_name 7 nd) ts_nil))))))
      (s_cons (s_par (i := 8) (j := 9) rfl nd (pl_cons (d_call G_true_moment hr (pl_cons (pd_var 0) (pl_cons (pd_var 1) (pl_cons (pd_var 2) (pl_cons (pd_var 4) pl_nil))))) (pl_cons (d_add (d_add (pd_var 2) pd_int) (pd_var 3)) pl_nil)) rfl)
      (s_cons (s_set (i := 10) nd (pd_fr (pf_lst (pl_cons (pd_tup (pl_cons (pd_var 8) (pl_cons (pd_var 9) (pl_cons (pd_var 7) pl_nil)))) (pl_cons (pd_tup (pl_cons (pd_var 9) (pl_cons (pd_var 8) (pl_cons (d_neg' (pd_var 6)) pl_nil)))) pl_nil)))))
      (s_cons (s_if (b_cmp k_isn (d_idx (pd_var 1) (pd_var 5)) pd_non) (s_one (s_ret (d_add (pd_var 10) (pd_fr (pf_lst (pl_cons (pd_tup (pl_cons (pd_var 9) (pl_cons (pd_var 2) (pl_cons (d_neg' pd_int) pl_nil)))) pl_nil)))))) s_nil)
      (s_one (s_ret (d_add (pd_var 10) (pd_fr (pf_lst (pl_cons (pd_tup (pl_cons (d_idx (pd_var 1) (pd_var 5)) (pl_cons (pd_var 9) (pl_cons pd_int pl_nil)))) (pl_cons (pd_tup (pl_cons (pd_var 9) (pl_cons (d_sub (d_idx (pd_var 1) (pd_var 5)) pd_int) (pl_cons (d_neg' pd_int) pl_nil)))) pl_nil)))))))))))
theorem ok_stamp_web (T : Txt mg K G) (G_clock_rules : FD P w K mg base G 2 "clock_rules" 2 f_clock_rules) (G_link_rules : FD P w K mg base G 3 "link_rules" 4 f_link_rules) {f : Addr} {fd : FuncData} (F : Fun K "stamp_web" "stamp_web" s_stamp_web f fd) (b : Binds K fd ["web", "kind", "stamps", "last"] []) (m : mg "stamp_web" = some (.ref f)) : FD P w K mg base G 4 "stamp_web" 4 f_stamp_web :=
  fn_fd F sc_stamp_web b m fun cdv A outer s0 H E hr =>
    have nd := sc_stamp_web.nd
    show PSsd _ _ _ _ m_stamp_web from
    (s_cons (s_set (i := 4) nd (d_call G_clock_rules hr (pl_cons (pd_var 1) (pl_cons (pd_var 3) pl_nil))))
      (s_cons (s_for PassesOwn.never rfl (w_enum T.z_enumerate (d_idx (pd_var 0) pd_int)) (t_tup (K := K) rfl (ts_cons (t_name 5 nd) (ts_cons (t_name 6 nd) ts_nil))) (s_one (s_if (b_cmp k_isnot (d_idx (pd_var 2) (d_idx (pd_var 6) pd_int)) pd_non) (s_one (s_set (i := 4) nd (d_add (pd_var 4) (d_call G_link_rules hr (pl_cons (pd_var 0) (pl_cons (pd_var 2) (pl_cons (pd_var 3) (pl_cons (pd_var 5) pl_nil)))))))) s_nil)))
      (s_one (s_ret (pd_tup (pl_cons (d_add (d_add (pd_var 3) pd_int) (w_len T.z_len (d_idx (pd_var 0) pd_int))) (pl_cons (w_tuple T.z_tuple (pd_var 4)) pl_nil)))))))
theorem ok_explain_answer (T : Txt mg K G) (G_stamp_web : FD P w K mg base G 4 "stamp_web" 4 f_stamp_web) (G_holds_answer : FD P w K mg base G 3 "holds_answer" 1 f_holds_answer) {f : Addr} {fd : FuncData} (F : Fun K "explain_answer" "explain_answer" s_explain_answer f fd) (b : Binds K fd ["web", "kind", "stamps", "last"] []) (m : mg "explain_answer" = some (.ref f)) : FD P w K mg base G 5 "explain_answer" 4 f_explain_answer :=
  fn_fd F sc_explain_answer b m fun cdv A outer s0 H E hr =>
    have nd := sc_explain_answer.nd
    show PSsd _ _ _ _ m_explain_answer from
    (s_cons (s_set (i := 4) nd (d_call G_holds_answer hr (pl_cons (d_call G_stamp_web hr (pl_cons (pd_var 0) (pl_cons (pd_var 1) (pl_cons (pd_var 2) (pl_cons (pd_var 3) pl_nil))))) pl_nil)))
      (s_cons (s_if (b_cmp (k_eq hr.units) (d_idx (pd_var 4) pd_int) (d_gstr T.c_RING)) (s_one (s_ret (pd_tup (pl_cons (d_gstr T.c_STRANGE) (pl_cons (d_idx (pd_var 4) pd_int) pl_nil))))) s_nil)
      (s_cons (s_set (i := 5) nd (d_cut (d_idx (pd_var 4) pd_int) (p_some (d_add (pd_var 3) pd_int)) p_none))
      (s_cons (w_setLc (i := 6) (own := [("link", 7), ("t", 8)]) rfl nd (w_zip T.z_zip (d_idx (pd_var 0) pd_int) (pd_var 5)) (by kernel_rfl) (fun _ _ _ _ _ => (t_tup (K := K) rfl (ts_cons (t_name 7 nd) (ts_cons (t_name 8 nd) ts_nil)))) (fun _ _ _ _ _ => c_nil) (fun _ _ _ _ _ => (pd_if (b_cmp k_isn (d_idx (pd_var 2) (d_idx (pd_var 7) pd_int)) pd_non) pd_non (pd_var 8))))
      (s_one (s_ret (pd_tup (pl_cons (d_gstr T.c_EXPLAINED) (pl_cons (d_cut (d_idx (pd_var 4) pd_int) p_none (p_some (d_add (pd_var 3) pd_int))) (pl_cons (w_tuple T.z_tuple (pd_var 6)) pl_nil))))))))))
theorem ok_shows_explained (T : Txt mg K G) (G_stamp_web : FD P w K mg base G 4 "stamp_web" 4 f_stamp_web) (G_is_bad_ring : FD P w K mg base G 2 "is_bad_ring" 2 f_is_bad_ring) (G_keeps : FD P w K mg base G 2 "keeps" 2 f_keeps) {f : Addr} {fd : FuncData} (F : Fun K "shows_explained" "shows_explained" s_shows_explained f fd) (b : Binds K fd ["web", "kind", "stamps", "last", "answer"] []) (m : mg "shows_explained" = some (.ref f)) : FD P w K mg base G 5 "shows_explained" 5 f_shows_explained :=
  fn_fd F sc_shows_explained b m fun cdv A outer s0 H E hr =>
    have nd := sc_shows_explained.nd
    show PSsd _ _ _ _ m_shows_explained from
    (s_cons (s_set (i := 5) nd (d_call G_stamp_web hr (pl_cons (pd_var 0) (pl_cons (pd_var 1) (pl_cons (pd_var 2) (pl_cons (pd_var 3) pl_nil))))))
      (s_cons (s_if (b_cmp (k_eq hr.units) (d_idx (pd_var 4) pd_int) (d_gstr T.c_STRANGE)) (s_one (s_ret (d_call G_is_bad_ring hr (pl_cons (pd_var 5) (pl_cons (d_idx (pd_var 4) pd_int) pl_nil))))) s_nil)
      (s_cons (s_if (PBW.pb (pbw_or (b_cmp (k_ne hr.units) (d_idx (pd_var 4) pd_int) (d_gstr T.c_EXPLAINED)) (pbw_or (b_cmp (k_ne hr.units) (w_len T.z_len (d_idx (pd_var 4) pd_int)) (d_add (pd_var 3) pd_int)) (pbw_or1 (b_cmp (k_ne hr.units) (w_len T.z_len (d_idx (pd_var 4) pd_int)) (w_len T.z_len (d_idx (pd_var 0) pd_int))))))) (s_one (s_ret pd_bl)) s_nil)
      (s_cons (s_if (b_cmp k_gt (w_len T.z_len (pd_fr (w_comp (own := [("link", 6), ("t", 7)]) rfl nd (w_zip T.z_zip (d_idx (pd_var 0) pd_int) (d_idx (pd_var 4) pd_int)) (by kernel_rfl) (fun _ _ _ _ _ => (t_tup (K := K) rfl (ts_cons (t_name 6 nd) (ts_cons (t_name 7 nd) ts_nil)))) (fun _ _ _ _ _ => (c_one (b_cmp (k_ne hr.units) (d_cmp k_isn (pd_var 7) pd_non) (d_cmp k_isn (d_idx (pd_var 2) (d_idx (pd_var 6) pd_int)) pd_non)))) (fun _ _ _ _ _ => pd_int)))) pd_int) (s_one (s_ret pd_bl)) s_nil)
      (s_one (s_ret (d_call G_keeps hr (pl_cons (pd_var 5) (pl_cons (d_add (d_idx (pd_var 4) pd_int) (w_tuple T.z_tuple (pd_fr (w_comp (own := [("t", 7)]) rfl nd (d_iter (d_idx (pd_var 4) pd_int)) (by kernel_rfl) (fun _ _ _ _ _ => (t_name 7 nd)) (fun _ _ _ _ _ => c_nil) (fun _ _ _ _ _ => (pd_if (b_cmp k_isn (pd_var 7) pd_non) pd_int (pd_var 7))))))) pl_nil)))))))))
theorem ok_ClockWatch___init__ (T : Txt mg K G)  {f : Addr} {fd : FuncData} (F : Fun K "__init__" "ClockWatch.__init__" s_ClockWatch___init__ f fd) (b : Binds K fd ["self", "web", "kind"] []) (m : Mk K (G.cls 1) f) (hx : mg "ClockWatch" = some (.ref (G.cls 1))) : FK P w K mg base G 1 1 "ClockWatch" 3 f_ClockWatch___init__ :=
  fk_of F sc_ClockWatch___init__ b m hx fun cdv A outer s0 H E hr =>
    have nd := sc_ClockWatch___init__.nd
    show PSsd _ _ _ _ m_ClockWatch___init__ from
    (s_cons (s_fld (pd_var 0) (pd_var 1) T.cl_ClockWatch T.na_ClockWatch_web)
      (s_cons (s_fld (pd_var 0) (pd_var 2) T.cl_ClockWatch T.na_ClockWatch_kind)
      (s_cons (s_fld (pd_var 0) (d_neg' pd_int) T.cl_ClockWatch T.na_ClockWatch_last)
      (s_cons (s_fld (pd_var 0) (d_add (pd_tup (pl_cons pd_int pl_nil)) (d_mult (pd_tup (pl_cons pd_non pl_nil)) (d_sub (d_idx (pd_var 1) pd_int) pd_int))) T.cl_ClockWatch T.na_ClockWatch_stamps)
      (s_one (s_fld (pd_var 0) pd_non T.cl_ClockWatch T.na_ClockWatch_told))))))
theorem ok_ClockWatch_stamped (T : Txt mg K G)  {f : Addr} {fd : FuncData} (F : Fun K "stamped" "ClockWatch.stamped" s_ClockWatch_stamped f fd) (b : Binds K fd ["self", "moments", "last"] []) (m : Meth K (G.cls 1) "stamped" f) : FM P w K mg base G 1 1 "stamped" 3 f_ClockWatch_stamped :=
  fm_of F sc_ClockWatch_stamped b m fun cdv A outer s0 H E hr =>
    have nd := sc_ClockWatch_stamped.nd
    show PSsd _ _ _ _ m_ClockWatch_stamped from
    (s_one (s_ret (w_tuple T.z_tuple (pd_fr (w_comp (own := [("k", 3), ("t", 4)]) rfl nd (w_enum T.z_enumerate (d_attr (pd_var 0) T.cl_ClockWatch T.na_ClockWatch_stamps)) (by kernel_rfl) (fun _ _ _ _ _ => (t_tup (K := K) rfl (ts_cons (t_name 3 nd) (ts_cons (t_name 4 nd) ts_nil)))) (fun _ _ _ _ _ => c_nil) (fun _ _ _ _ _ => (pd_if (b_cmp k_in (pd_var 3) (pd_var 1)) (pd_var 2) (pd_var 4))))))))
theorem ok_ClockWatch_tick (T : Txt mg K G) (G_link_of : FD P w K mg base G 1 "link_of" 2 f_link_of) (G_ClockWatch_stamped : FM P w K mg base G 1 1 "stamped" 3 f_ClockWatch_stamped) (G_are_stamps : FD P w K mg base G 1 "are_stamps" 3 f_are_stamps) (G_explain_answer : FD P w K mg base G 5 "explain_answer" 4 f_explain_answer) {f : Addr} {fd : FuncData} (F : Fun K "tick" "ClockWatch.tick" s_ClockWatch_tick f fd) (b : Binds K fd ["self", "ended"] []) (m : Meth K (G.cls 1) "tick" f) : FMX P w K mg base G 6 1 "tick" 2 f_ClockWatch_tick :=
  fm_ofX F sc_ClockWatch_tick b m fun cdv A outer s0 H E hr =>
    have nd := sc_ClockWatch_tick.nd
    show PSsd _ _ _ _ m_ClockWatch_tick from
    (s_cons (w_setLc (i := 2) (own := [("k", 4)]) rfl nd (d_iter (pd_var 1)) (by kernel_rfl) (fun _ _ _ _ _ => (t_name 4 nd)) (fun _ _ _ _ _ => (c_one (PBW.pb (pbw_and (b_chain k_le k_lt pd_int (pd_var 4) (d_idx (d_attr (pd_var 0) T.cl_ClockWatch T.na_ClockWatch_web) pd_int)) (pbw_and1 (b_cmp k_isnot (d_call G_link_of hr (pl_cons (d_attr (pd_var 0) T.cl_ClockWatch T.na_ClockWatch_web) (pl_cons (pd_var 4) pl_nil))) pd_non)))))) (fun _ _ _ _ _ => (pd_var 4)))
      (s_cons (s_if (PBW.pb (pbw_or (b_cmp (k_ne hr.units) (w_len T.z_len (pd_var 2)) (w_len T.z_len (pd_var 1))) (pbw_or1 (b_cmp k_gt (w_len T.z_len (pd_fr (w_comp (own := [("k", 4)]) rfl nd (d_iter (pd_var 1)) (by kernel_rfl) (fun _ _ _ _ _ => (t_name 4 nd)) (fun _ _ _ _ _ => (c_one (b_cmp k_isnot (d_idx (d_attr (pd_var 0) T.cl_ClockWatch T.na_ClockWatch_stamps) (pd_var 4)) pd_non))) (fun _ _ _ _ _ => pd_int)))) pd_int)))) (s_one (s_raise T.xf_BadDeed (takes_of rfl rfl rfl rfl))) s_nil)
      (s_cons (s_set (i := 3) nd (d_meth G_ClockWatch_stamped hr T.cl_ClockWatch (pd_var 0) (pl_cons (pd_var 1) (pl_cons (d_add (d_attr (pd_var 0) T.cl_ClockWatch T.na_ClockWatch_last) pd_int) pl_nil))))
      (s_cons (s_if (PBW.pb (pbw_or (b_cmp (k_ne hr.units) (w_tuple T.z_tuple (pd_fr (w_sortSet T.z_sorted T.z_set (pd_var 1)))) (pd_var 1)) (pbw_or1 (pb_not (pb_of (d_call G_are_stamps hr (pl_cons (d_attr (pd_var 0) T.cl_ClockWatch T.na_ClockWatch_web) (pl_cons (pd_var 3) (pl_cons (d_add (d_attr (pd_var 0) T.cl_ClockWatch T.na_ClockWatch_last) pd_int) pl_nil))))))))) (s_one (s_raise T.xf_BadDeed (takes_of rfl rfl rfl rfl))) s_nil)
      (s_cons (s_flda in_add opi_add (pd_var 0) pd_int T.cl_ClockWatch T.na_ClockWatch_last)
      (s_cons (s_fld (pd_var 0) (pd_var 3) T.cl_ClockWatch T.na_ClockWatch_stamps)
      (s_cons (s_fld (pd_var 0) (d_call G_explain_answer hr (pl_cons (d_attr (pd_var 0) T.cl_ClockWatch T.na_ClockWatch_web) (pl_cons (d_attr (pd_var 0) T.cl_ClockWatch T.na_ClockWatch_kind) (pl_cons (d_attr (pd_var 0) T.cl_ClockWatch T.na_ClockWatch_stamps) (pl_cons (d_attr (pd_var 0) T.cl_ClockWatch T.na_ClockWatch_last) pl_nil))))) T.cl_ClockWatch T.na_ClockWatch_told)
      (s_one (s_ret (d_idx (d_attr (pd_var 0) T.cl_ClockWatch T.na_ClockWatch_told) pd_int))))))))))
theorem ok_ClockWatch_begin (T : Txt mg K G) (G_link_of : FD P w K mg base G 1 "link_of" 2 f_link_of) (G_ClockWatch_stamped : FM P w K mg base G 1 1 "stamped" 3 f_ClockWatch_stamped) {f : Addr} {fd : FuncData} (F : Fun K "begin" "ClockWatch.begin" s_ClockWatch_begin f fd) (b : Binds K fd ["self", "begun"] []) (m : Meth K (G.cls 1) "begin" f) : FMX P w K mg base G 2 1 "begin" 2 f_ClockWatch_begin :=
  fm_ofX F sc_ClockWatch_begin b m fun cdv A outer s0 H E hr =>
    have nd := sc_ClockWatch_begin.nd
    show PSsd _ _ _ _ m_ClockWatch_begin from
    (s_cons (w_setLc (i := 2) (own := [("k", 3)]) rfl nd (d_iter (pd_var 1)) (by kernel_rfl) (fun _ _ _ _ _ => (t_name 3 nd)) (fun _ _ _ _ _ => (c_one (PBW.pb (pbw_and (b_chain k_le k_lt pd_int (pd_var 3) (d_idx (d_attr (pd_var 0) T.cl_ClockWatch T.na_ClockWatch_web) pd_int)) (pbw_and (b_cmp k_isn (d_call G_link_of hr (pl_cons (d_attr (pd_var 0) T.cl_ClockWatch T.na_ClockWatch_web) (pl_cons (pd_var 3) pl_nil))) pd_non) (pbw_and1 (b_cmp k_isn (d_idx (d_attr (pd_var 0) T.cl_ClockWatch T.na_ClockWatch_stamps) (pd_var 3)) pd_non))))))) (fun _ _ _ _ _ => (pd_var 3)))
      (s_cons (s_if (PBW.pb (pbw_or (b_cmp k_lt (d_attr (pd_var 0) T.cl_ClockWatch T.na_ClockWatch_last) pd_int) (pbw_or (b_cmp (k_ne hr.units) (w_len T.z_len (pd_var 2)) (w_len T.z_len (pd_var 1))) (pbw_or1 (b_cmp (k_ne hr.units) (w_lenSet T.z_len T.z_set (pd_var 1)) (w_len T.z_len (pd_var 1))))))) (s_one (s_raise T.xf_BadDeed (takes_of rfl rfl rfl rfl))) s_nil)
      (s_one (s_fld (pd_var 0) (d_meth G_ClockWatch_stamped hr T.cl_ClockWatch (pd_var 0) (pl_cons (pd_var 1) (pl_cons (d_attr (pd_var 0) T.cl_ClockWatch T.na_ClockWatch_last) pl_nil))) T.cl_ClockWatch T.na_ClockWatch_stamps))))
theorem ok_ClockWatch_answer (T : Txt mg K G)  {f : Addr} {fd : FuncData} (F : Fun K "answer" "ClockWatch.answer" s_ClockWatch_answer f fd) (b : Binds K fd ["self"] []) (m : Meth K (G.cls 1) "answer" f) : FM P w K mg base G 1 1 "answer" 1 f_ClockWatch_answer :=
  fm_of F sc_ClockWatch_answer b m fun cdv A outer s0 H E hr =>
    have nd := sc_ClockWatch_answer.nd
    show PSsd _ _ _ _ m_ClockWatch_answer from
    (s_one (s_ret (d_attr (pd_var 0) T.cl_ClockWatch T.na_ClockWatch_told)))
theorem ok_ClockWatch_seen (T : Txt mg K G)  {f : Addr} {fd : FuncData} (F : Fun K "seen" "ClockWatch.seen" s_ClockWatch_seen f fd) (b : Binds K fd ["self"] []) (m : Meth K (G.cls 1) "seen" f) : FM P w K mg base G 1 1 "seen" 1 f_ClockWatch_seen :=
  fm_of F sc_ClockWatch_seen b m fun cdv A outer s0 H E hr =>
    have nd := sc_ClockWatch_seen.nd
    show PSsd _ _ _ _ m_ClockWatch_seen from
    (s_one (s_ret (pd_tup (pl_cons (d_attr (pd_var 0) T.cl_ClockWatch T.na_ClockWatch_last) (pl_cons (d_attr (pd_var 0) T.cl_ClockWatch T.na_ClockWatch_stamps) pl_nil)))))
theorem ok__law_deal (T : Txt mg K G)  {f : Addr} {fd : FuncData} (F : Fun K "_law_deal" "_law_deal" s__law_deal f fd) (b : Binds K fd ["script"] []) (m : mg "_law_deal" = some (.ref f)) : FD P w K mg base G 1 "_law_deal" 1 f__law_deal :=
  fn_fd F sc__law_deal b m fun cdv A outer s0 H E hr =>
    have nd := sc__law_deal.nd
    show PSsd _ _ _ _ m__law_deal from
    (s_cons (s_own (i := 1) nd (pf_lst pl_nil))
      (s_cons (s_for PassesOwn.never rfl (w_range1 T.z_range (w_min2 T.z_min (w_len T.z_len (pd_var 0)) pd_int)) (t_name 2 nd) (s_cons (s_set (i := 3) nd (w_abs T.z_abs (w_int T.z_int (d_idx (pd_var 0) (pd_var 2)))))
      (s_one (s_if (b_cmp k_ge (pd_var 3) (d_pow pd_int pd_int)) (s_one (s_for PassesOwn.never rfl (w_range1 T.z_range pd_int) (t_name 4 nd) (s_one (s_if (b_cmp k_gt (pd_var 3) pd_int) (s_cons (s_app (i := 1) (d_mod (pd_var 3) pd_int))
      (s_one (s_set (i := 3) nd (d_fdiv (pd_var 3) pd_int)))) s_nil)))) (s_cons (s_set (i := 3) nd (d_add (d_add (d_mul (d_mod (pd_var 3) pd_int) pd_int) (d_mul (pd_var 2) pd_int)) pd_int))
      (s_one (s_for PassesOwn.never rfl (w_range1 T.z_range pd_int) (t_name 4 nd) (s_cons (s_set (i := 3) nd (d_mod (d_add (d_add (d_mul (pd_var 3) pd_int) pd_int) (pd_var 4)) pd_int))
      (s_one (s_app (i := 1) (d_mod (d_fdiv (pd_var 3) pd_int) pd_int)))))))))))
      (s_cons (s_set (i := 5) nd (d_add (w_sum T.z_sum (pd_var 1)) (w_len T.z_len (pd_var 0))))
      (s_one (s_frz 1 (s_ret (pd_fr (pf_lst (pl_cons (pd_var 1) (pl_cons (d_st (pf_lst (pl_cons pd_int pl_nil))) (pl_cons (pd_var 5) pl_nil)))))))))))
theorem ok__law_take (T : Txt mg K G)  {f : Addr} {fd : FuncData} (F : Fun K "_law_take" "_law_take" s__law_take f fd) (b : Binds K fd ["deal", "many"] []) (m : mg "_law_take" = some (.ref f)) : FD P w K mg base G 1 "_law_take" 2 f__law_take :=
  fn_fd F sc__law_take b m fun cdv A outer s0 H E hr =>
    have nd := sc__law_take.nd
    show PSsd _ _ _ _ m__law_take from
    (s_cons (s_set (i := 2) nd (d_idx (d_idx (pd_var 0) pd_int) pd_int))
      (s_cons (s_seto (d_add (pd_var 2) pd_int) (d_idx (pd_var 0) pd_int) pd_int)
      (s_cons (s_if (b_cmp k_lt (pd_var 2) (w_len T.z_len (d_idx (pd_var 0) pd_int))) (s_one (s_ret (d_mod (d_idx (d_idx (pd_var 0) pd_int) (pd_var 2)) (pd_var 1)))) s_nil)
      (s_cons (s_set (i := 3) nd (d_mod (d_add (d_add (d_mul (pd_var 2) pd_int) (d_mul (d_idx (pd_var 0) pd_int) pd_int)) pd_int) pd_int))
      (s_cons (s_for PassesOwn.never rfl (w_range1 T.z_range pd_int) (t_name 4 nd) (s_one (s_set (i := 3) nd (d_mod (d_add (d_add (d_mul (pd_var 3) (pd_var 3)) (d_mul pd_int (pd_var 2))) pd_int) pd_int))))
      (s_one (s_ret (d_mod (d_fdiv (pd_var 3) pd_int) (pd_var 1)))))))))
theorem ok__law_sameN (T : Txt mg K G)  {f : Addr} {fd : FuncData} (F : Fun K "_law_same" "_law_same" s__law_same f fd) (b : Binds K fd ["a", "b"] []) (m : mg "_law_same" = some (.ref f)) : ∀ k : Nat, FD P w K mg base G (0 + k) "_law_same" 2 (f__law_sameN k)
  | 0 => FD.zero F b m rfl
  | k + 1 =>
    have self := ok__law_sameN T  F b m k
    fn_fd F sc__law_same b m fun cdv A outer s0 H E hr =>
      have nd := sc__law_same.nd
      show PSsd _ _ _ _ (m__law_same (f__law_sameN k)) from
      (s_cons (s_if (PBW.pb (pbw_or (pb_of (w_isi bt_tuple T.z_isinstance T.z_tuple (pd_var 1))) (pbw_or1 (pb_of (w_isi bt_list T.z_isinstance T.z_list (pd_var 1)))))) (s_cons (s_if (PBW.pb (pbw_or (PBW.pb (pbw_and (pb_of (w_isi bt_tuple T.z_isinstance T.z_tuple (pd_var 1))) (pbw_and1 (pb_not (pb_of (w_isi bt_tuple T.z_isinstance T.z_tuple (pd_var 0))))))) (pbw_or1 (PBW.pb (pbw_and (pb_of (w_isi bt_list T.z_isinstance T.z_list (pd_var 1))) (pbw_and1 (pb_not (pb_of (w_isi bt_list T.z_isinstance T.z_list (pd_var 0)))))))))) (s_one (s_ret pd_bl)) s_nil)
      (s_cons (s_if (b_cmp (k_ne hr.units) (w_len T.z_len (pd_var 0)) (w_len T.z_len (pd_var 1))) (s_one (s_ret pd_bl)) s_nil)
      (s_cons (s_for PassesOwn.never rfl (w_range1 T.z_range (w_len T.z_len (pd_var 1))) (t_name 2 nd) (s_one (s_if (pb_not (pb_of (d_call (hjk := Nat.le_refl _) self hr (pl_cons (d_idx (pd_var 0) (pd_var 2)) (pl_cons (d_idx (pd_var 1) (pd_var 2)) pl_nil))))) (s_one (s_ret pd_bl)) s_nil)))
      (s_one (s_ret pd_bl))))) s_nil)
      (s_cons (s_if (PBW.pb (pbw_or (pb_of (w_isi bt_bool T.z_isinstance T.z_bool (pd_var 0))) (pbw_or1 (pb_of (w_isi bt_bool T.z_isinstance T.z_bool (pd_var 1)))))) (s_one (s_ret (pd_and (w_isi bt_bool T.z_isinstance T.z_bool (pd_var 0)) (pd_and (w_isi bt_bool T.z_isinstance T.z_bool (pd_var 1)) (pd_one (d_cmp (k_eq hr.units) (pd_var 0) (pd_var 1))))))) s_nil)
      (s_cons (s_if (pb_of (w_isi bt_int T.z_isinstance T.z_int (pd_var 1))) (s_one (s_ret (pd_and (w_isi bt_int T.z_isinstance T.z_int (pd_var 0)) (pd_one (d_cmp (k_eq hr.units) (pd_var 0) (pd_var 1)))))) s_nil)
      (s_cons (s_if (pb_of (w_isi bt_str T.z_isinstance T.z_str (pd_var 1))) (s_one (s_ret (pd_and (w_isi bt_str T.z_isinstance T.z_str (pd_var 0)) (pd_one (d_cmp (k_eq hr.units) (pd_var 0) (pd_var 1)))))) s_nil)
      (s_one (s_ret (pd_and (d_cmp k_isn (pd_var 0) pd_non) (pd_one (d_cmp k_isn (pd_var 1) pd_non)))))))))
theorem ok__law_same (T : Txt mg K G)  {f : Addr} {fd : FuncData} (F : Fun K "_law_same" "_law_same" s__law_same f fd) (b : Binds K fd ["a", "b"] []) (m : mg "_law_same" = some (.ref f)) : FD P w K mg base G 12 "_law_same" 2 f__law_same := (ok__law_sameN T  F b m 12).mono (by decide)
theorem ok__law_bool (T : Txt mg K G)  {f : Addr} {fd : FuncData} (F : Fun K "_law_bool" "_law_bool" s__law_bool f fd) (b : Binds K fd ["answer", "due"] []) (m : mg "_law_bool" = some (.ref f)) : FD P w K mg base G 1 "_law_bool" 2 f__law_bool :=
  fn_fd F sc__law_bool b m fun cdv A outer s0 H E hr =>
    have nd := sc__law_bool.nd
    show PSsd _ _ _ _ m__law_bool from
    (s_one (s_ret (pd_and (w_isi bt_bool T.z_isinstance T.z_bool (pd_var 0)) (pd_one (d_cmp (k_eq hr.units) (pd_var 0) (pd_var 1))))))
theorem ok__law_seen_web (T : Txt mg K G) (G__law_take : FD P w K mg base G 1 "_law_take" 2 f__law_take) {f : Addr} {fd : FuncData} (F : Fun K "_law_seen_web" "_law_seen_web" s__law_seen_web f fd) (b : Binds K fd ["deal", "many"] []) (m : mg "_law_seen_web" = some (.ref f)) : FD P w K mg base G 2 "_law_seen_web" 2 f__law_seen_web :=
  fn_fd F sc__law_seen_web b m fun cdv A outer s0 H E hr =>
    have nd := sc__law_seen_web.nd
    show PSsd _ _ _ _ m__law_seen_web from
    (s_cons (s_own (i := 2) nd (pf_lst pl_nil))
      (s_cons (s_own (i := 3) nd (pf_lst pl_nil))
      (s_cons (s_for PassesOwn.never rfl (w_range1 T.z_range (d_call G__law_take hr (pl_cons (pd_var 0) (pl_cons pd_int pl_nil)))) (t_name 4 nd) (s_cons (s_set (i := 5) nd (d_add pd_int (d_call G__law_take hr (pl_cons (pd_var 0) (pl_cons (d_sub (pd_var 1) pd_int) pl_nil)))))
      (s_cons (s_set (i := 6) nd (d_call G__law_take hr (pl_cons (pd_var 0) (pl_cons (pd_var 5) pl_nil))))
      (s_one (s_if (b_cmp k_notin (pd_var 5) (pd_var 3)) (s_cons (s_app (i := 3) (pd_var 5))
      (s_cons (s_set (i := 7) nd (d_add pd_int (d_call G__law_take hr (pl_cons (pd_var 0) (pl_cons pd_int pl_nil)))))
      (s_one (s_app (i := 2) (pd_tup (pl_cons (pd_var 6) (pl_cons (pd_var 5) (pl_cons (pd_var 7) (pl_cons (d_add (pd_var 7) (d_call G__law_take hr (pl_cons (pd_var 0) (pl_cons pd_int pl_nil)))) pl_nil))))))))) s_nil)))))
      (s_cons (s_own (i := 8) nd (pf_lst pl_nil))
      (s_cons (s_for PassesOwn.never rfl (w_range1 T.z_range (d_call G__law_take hr (pl_cons (pd_var 0) (pl_cons pd_int pl_nil)))) (t_name 4 nd) (s_cons (s_set (i := 9) nd (d_call G__law_take hr (pl_cons (pd_var 0) (pl_cons (pd_var 1) pl_nil))))
      (s_cons (s_set (i := 10) nd (d_mod (d_add (d_add (pd_var 9) pd_int) (d_call G__law_take hr (pl_cons (pd_var 0) (pl_cons (d_sub (pd_var 1) pd_int) pl_nil)))) (pd_var 1)))
      (s_one (s_app (i := 8) (pd_tup (pl_cons (pd_var 9) (pl_cons (pd_var 10) (pl_cons (d_sub (d_call G__law_take hr (pl_cons (pd_var 0) (pl_cons pd_int pl_nil))) (d_idx (pd_fr (pf_lst (pl_cons pd_int (pl_cons pd_int pl_nil)))) (d_call G__law_take hr (pl_cons (pd_var 0) (pl_cons pd_int pl_nil))))) pl_nil)))))))))
      (s_one (s_ret (pd_tup (pl_cons (pd_var 1) (pl_cons (w_tuple T.z_tuple (pd_var 8)) (pl_cons (w_tuple T.z_tuple (pd_var 2)) pl_nil)))))))))))
theorem ok__law_kind (T : Txt mg K G) (G__law_take : FD P w K mg base G 1 "_law_take" 2 f__law_take) {f : Addr} {fd : FuncData} (F : Fun K "_law_kind" "_law_kind" s__law_kind f fd) (b : Binds K fd ["deal"] []) (m : mg "_law_kind" = some (.ref f)) : FD P w K mg base G 2 "_law_kind" 1 f__law_kind :=
  fn_fd F sc__law_kind b m fun cdv A outer s0 H E hr =>
    have nd := sc__law_kind.nd
    show PSsd _ _ _ _ m__law_kind from
    (s_cons (s_set (i := 1) nd (d_call G__law_take hr (pl_cons (pd_var 0) (pl_cons pd_int pl_nil))))
      (s_cons (s_if (b_cmp (k_eq hr.units) (pd_var 1) pd_int) (s_one (s_ret (pd_tup (pl_cons pd_int (pl_cons pd_int (pl_cons pd_int (pl_cons pd_int pl_nil))))))) s_nil)
      (s_cons (s_if (b_cmp (k_eq hr.units) (pd_var 1) pd_int) (s_one (s_ret (pd_tup (pl_cons (d_sub pd_int (d_call G__law_take hr (pl_cons (pd_var 0) (pl_cons pd_int pl_nil)))) (pl_cons pd_int (pl_cons (d_add pd_int (d_call G__law_take hr (pl_cons (pd_var 0) (pl_cons pd_int pl_nil)))) (pl_cons pd_int pl_nil))))))) s_nil)
      (s_cons (s_if (b_cmp (k_eq hr.units) (pd_var 1) pd_int) (s_one (s_ret (pd_tup (pl_cons pd_int (pl_cons (d_add pd_int (d_call G__law_take hr (pl_cons (pd_var 0) (pl_cons pd_int pl_nil)))) (pl_cons (d_add pd_int (d_call G__law_take hr (pl_cons (pd_var 0) (pl_cons pd_int pl_nil)))) (pl_cons pd_int pl_nil))))))) s_nil)
      (s_cons (s_set (i := 2) nd (d_add pd_int (d_call G__law_take hr (pl_cons (pd_var 0) (pl_cons pd_int pl_nil)))))
      (s_cons (s_set (i := 3) nd (d_add pd_int (d_call G__law_take hr (pl_cons (pd_var 0) (pl_cons pd_int pl_nil)))))
      (s_one (s_ret (pd_tup (pl_cons (d_add pd_int (d_call G__law_take hr (pl_cons (pd_var 0) (pl_cons (pd_var 2) pl_nil)))) (pl_cons (pd_var 2) (pl_cons (d_add (pd_var 3) (d_call G__law_take hr (pl_cons (pd_var 0) (pl_cons pd_int pl_nil)))) (pl_cons (pd_var 3) pl_nil)))))))))))))
theorem ok__law_low (T : Txt mg K G)  {f : Addr} {fd : FuncData} (F : Fun K "_law_low" "_law_low" s__law_low f fd) (b : Binds K fd ["kind", "ticks"] []) (m : mg "_law_low" = some (.ref f)) : FD P w K mg base G 1 "_law_low" 2 f__law_low :=
  fn_fd F sc__law_low b m fun cdv A outer s0 H E hr =>
    have nd := sc__law_low.nd
    show PSsd _ _ _ _ m__law_low from
    (s_one (s_ret (d_fdiv (d_mul (pd_var 1) (d_idx (pd_var 0) pd_int)) (d_idx (pd_var 0) pd_int))))
theorem ok__law_high (T : Txt mg K G)  {f : Addr} {fd : FuncData} (F : Fun K "_law_high" "_law_high" s__law_high f fd) (b : Binds K fd ["kind", "ticks"] []) (m : mg "_law_high" = some (.ref f)) : FD P w K mg base G 1 "_law_high" 2 f__law_high :=
  fn_fd F sc__law_high b m fun cdv A outer s0 H E hr =>
    have nd := sc__law_high.nd
    show PSsd _ _ _ _ m__law_high from
    (s_one (s_ret (d_fdiv (d_sub (d_add (d_mul (pd_var 1) (d_idx (pd_var 0) pd_int)) (d_idx (pd_var 0) pd_int)) pd_int) (d_idx (pd_var 0) pd_int))))
theorem ok__law_clock (T : Txt mg K G) (G__law_take : FD P w K mg base G 1 "_law_take" 2 f__law_take) (G__law_low : FD P w K mg base G 1 "_law_low" 2 f__law_low) (G__law_high : FD P w K mg base G 1 "_law_high" 2 f__law_high) {f : Addr} {fd : FuncData} (F : Fun K "_law_clock" "_law_clock" s__law_clock f fd) (b : Binds K fd ["deal", "kind", "last"] []) (m : mg "_law_clock" = some (.ref f)) : FD P w K mg base G 2 "_law_clock" 3 f__law_clock :=
  fn_fd F sc__law_clock b m fun cdv A outer s0 H E hr =>
    have nd := sc__law_clock.nd
    show PSsd _ _ _ _ m__law_clock from
    (s_cons (s_own (i := 3) nd (pf_lst (pl_cons pd_int pl_nil)))
      (s_cons (s_set (i := 4) nd (d_call G__law_take hr (pl_cons (pd_var 0) (pl_cons pd_int pl_nil))))
      (s_cons (s_for PassesOwn.never rfl (w_range2 T.z_range pd_int (d_add (pd_var 2) pd_int)) (t_name 5 nd) (s_cons (s_set (i := 6) nd (w_max1 T.z_max (pd_fr (w_comp (own := [("a", 8)]) rfl nd (w_range1 T.z_range (pd_var 5)) (by kernel_rfl) (fun _ _ _ _ _ => (t_name 8 nd)) (fun _ _ _ _ _ => c_nil) (fun _ _ _ _ _ => (d_add (d_idx (pd_var 3) (pd_var 8)) (d_call G__law_low hr (pl_cons (pd_var 1) (pl_cons (d_sub (pd_var 5) (pd_var 8)) pl_nil)))))))))
      (s_cons (s_set (i := 7) nd (w_min1 T.z_min (pd_fr (w_comp (own := [("a", 8)]) rfl nd (w_range1 T.z_range (pd_var 5)) (by kernel_rfl) (fun _ _ _ _ _ => (t_name 8 nd)) (fun _ _ _ _ _ => c_nil) (fun _ _ _ _ _ => (d_add (d_idx (pd_var 3) (pd_var 8)) (d_call G__law_high hr (pl_cons (pd_var 1) (pl_cons (d_sub (pd_var 5) (pd_var 8)) pl_nil)))))))))
      (s_one (s_app (i := 3) (d_idx (pd_fr (pf_lst (pl_cons (pd_var 6) (pl_cons (pd_var 7) (pl_cons (d_add (pd_var 6) (d_call G__law_take hr (pl_cons (pd_var 0) (pl_cons (d_add (w_min2 T.z_min (d_sub (pd_var 7) (pd_var 6)) pd_int) pd_int) pl_nil)))) pl_nil))))) (pd_if (b_cmp (k_eq hr.units) (pd_var 4) pd_int) (d_call G__law_take hr (pl_cons (pd_var 0) (pl_cons pd_int pl_nil))) (pd_var 4))))))))
      (s_one (s_ret (w_tuple T.z_tuple (pd_var 3)))))))
theorem ok__law_refuses (T : Txt mg K G) (G_ClockWatch_tick : FMX P w K mg base G 6 1 "tick" 2 f_ClockWatch_tick) (G_ClockWatch_begin : FMX P w K mg base G 2 1 "begin" 2 f_ClockWatch_begin) {f : Addr} {fd : FuncData} (F : Fun K "_law_refuses" "_law_refuses" s__law_refuses f fd) (b : Binds K fd ["watch", "word", "moments"] []) (m : mg "_law_refuses" = some (.ref f)) : FD P w K mg base G 7 "_law_refuses" 3 f__law_refuses :=
  fn_fd F sc__law_refuses b m fun cdv A outer s0 H E hr =>
    have nd := sc__law_refuses.nd
    show PSsd _ _ _ _ m__law_refuses from
    (s_cons (s_try (i := 3) (tl [(2, true)]) T.xf_DayError.g (AllT.of (P := fun c _ => PySem.W.exmOne K (.ref (G.exc c)) (.ref (G.exc 0)) = some true) ⟨PySem.W.exm_ref T.xf_DayError.b T.hd_DayError T.xf_DayError.t T.sb_BadDeed_DayError, trivial⟩) nd (fun W pn xe tk po => (s_one (s_if (b_cmp (k_eq hr.units) (pd_var 1) pd_str) (s_one (s_expr (d_methX G_ClockWatch_tick hr tk T.cl_ClockWatch (pd_var 0) (pl_cons (pd_var 2) pl_nil)))) (s_one (s_expr (d_methX G_ClockWatch_begin hr tk T.cl_ClockWatch (pd_var 0) (pl_cons (pd_var 2) pl_nil)))))))
      (AllT.of (P := fun c b => ∀ (a : Addr) (oe : Obj) (pn : List (Addr × Obj)), Zc (.ref (G.exc c)) none oe → (∃ vs, oe.data = .fields vs) → PE (Cx.suite _ a ((a, oe) :: pn)) _ (tEr 3 a b)) ⟨(fun a oe pn hz hf => (e_isAnd (e_isx T.ec_BadDeed hz hf (kit_any T.hd_BadDeed T.xf_BadDeed.t T.sb_BadDeed_BadDeed T.sb_BadDeed_BadDeed) T.z_isinstance T.xf_BadDeed.g) (e_isx T.ec_BadDeed hz hf (kit_any T.hd_NotLet T.xf_NotLet.t T.sb_BadDeed_NotLet T.sb_BadDeed_BadDeed) T.z_isinstance T.xf_NotLet.g) rfl)), trivial⟩))
      (s_one (s_ret pd_bl)))
theorem ok__law_may_tick (T : Txt mg K G)  {f : Addr} {fd : FuncData} (F : Fun K "_law_may_tick" "_law_may_tick" s__law_may_tick f fd) (b : Binds K fd ["web", "stamps", "last", "ended"] []) (m : mg "_law_may_tick" = some (.ref f)) : FD P w K mg base G 1 "_law_may_tick" 4 f__law_may_tick :=
  fn_fd F sc__law_may_tick b m fun cdv A outer s0 H E hr =>
    have nd := sc__law_may_tick.nd
    show PSsd _ _ _ _ m__law_may_tick from
    (s_cons (s_set (i := 4) nd (pd_fr (w_comp (own := [("link", 7)]) rfl nd (d_iter (d_idx (pd_var 0) pd_int)) (by kernel_rfl) (fun _ _ _ _ _ => (t_name 7 nd)) (fun _ _ _ _ _ => c_nil) (fun _ _ _ _ _ => (d_idx (pd_var 7) pd_int)))))
      (s_cons (s_if (PBW.pb (pbw_or (b_cmp (k_ne hr.units) (pd_fr (w_list T.z_list (pd_var 3))) (pd_fr (w_sorted T.z_sorted (pd_var 3)))) (pbw_or1 (b_cmp k_gt (w_len T.z_len (pd_fr (w_comp (own := [("k", 5)]) rfl nd (w_range1 T.z_range (d_sub (w_len T.z_len (pd_var 3)) pd_int)) (by kernel_rfl) (fun _ _ _ _ _ => (t_name 5 nd)) (fun _ _ _ _ _ => (c_one (b_cmp (k_eq hr.units) (d_idx (pd_var 3) (pd_var 5)) (d_idx (pd_var 3) (d_add (pd_var 5) pd_int))))) (fun _ _ _ _ _ => pd_int)))) pd_int)))) (s_one (s_ret pd_bl)) s_nil)
      (s_cons (s_if (PBW.pb (pbw_or (b_cmp k_gt (w_len T.z_len (pd_fr (w_comp (own := [("k", 5)]) rfl nd (d_iter (pd_var 3)) (by kernel_rfl) (fun _ _ _ _ _ => (t_name 5 nd)) (fun _ _ _ _ _ => (c_one (PBW.pb (pbw_or (b_cmp k_notin (pd_var 5) (pd_var 4)) (pbw_or1 (b_cmp k_isnot (d_idx (pd_var 1) (pd_var 5)) pd_non)))))) (fun _ _ _ _ _ => pd_int)))) pd_int) (pbw_or1 (PBW.pb (pbw_and (b_cmp k_lt (pd_var 2) pd_int) (pbw_and1 (b_cmp k_gt (w_len T.z_len (pd_var 3)) pd_int))))))) (s_one (s_ret pd_bl)) s_nil)
      (s_cons (s_for PassesOwn.never rfl (d_iter (pd_var 3)) (t_name 5 nd) (s_cons (s_set (i := 6) nd (d_idx (d_idx (d_idx (pd_var 0) pd_int) (d_index (pd_var 4) (pd_var 5))) pd_int))
      (s_one (s_if (PBW.pb (pbw_and (b_cmp k_isn (d_idx (pd_var 1) (pd_var 6)) pd_non) (pbw_and1 (b_cmp k_notin (pd_var 6) (pd_var 3))))) (s_one (s_ret pd_bl)) s_nil))))
      (s_one (s_ret pd_bl))))))
theorem ok__law_wrong (T : Txt mg K G) (G__law_may_tick : FD P w K mg base G 1 "_law_may_tick" 4 f__law_may_tick) (G__law_refuses : FD P w K mg base G 7 "_law_refuses" 3 f__law_refuses) (G_ClockWatch_seen : FM P w K mg base G 1 1 "seen" 1 f_ClockWatch_seen) (G__law_same : FD P w K mg base G 12 "_law_same" 2 f__law_same) {f : Addr} {fd : FuncData} (F : Fun K "_law_wrong" "_law_wrong" s__law_wrong f fd) (b : Binds K fd ["deal", "watch", "web", "stamps", "last"] []) (m : mg "_law_wrong" = some (.ref f)) : FD P w K mg base G 13 "_law_wrong" 5 f__law_wrong :=
  fn_fd F sc__law_wrong b m fun cdv A outer s0 H E hr =>
    have nd := sc__law_wrong.nd
    show PSsd _ _ _ _ m__law_wrong from
    (s_cons (s_set (i := 5) nd (pd_fr (w_comp (own := [("link", 8)]) rfl nd (d_iter (d_idx (pd_var 2) pd_int)) (by kernel_rfl) (fun _ _ _ _ _ => (t_name 8 nd)) (fun _ _ _ _ _ => c_nil) (fun _ _ _ _ _ => (d_idx (pd_var 8) pd_int)))))
      (s_cons (s_set (i := 6) nd (d_add (d_add (d_add (pd_fr (pf_lst (pl_cons (pd_tup (pl_cons pd_int pl_nil)) (pl_cons (pd_tup (pl_cons (d_idx (pd_var 2) pd_int) pl_nil)) (pl_cons (pd_tup (pl_cons (d_neg' pd_int) pl_nil)) pl_nil))))) (pd_fr (w_comp (own := [("k", 9)]) rfl nd (w_range2 T.z_range pd_int (d_idx (pd_var 2) pd_int)) (by kernel_rfl) (fun _ _ _ _ _ => (t_name 9 nd)) (fun _ _ _ _ _ => c_nil) (fun _ _ _ _ _ => (pd_tup (pl_cons (pd_var 9) pl_nil)))))) (pd_fr (w_comp (own := [("k", 9)]) rfl nd (d_iter (pd_var 5)) (by kernel_rfl) (fun _ _ _ _ _ => (t_name 9 nd)) (fun _ _ _ _ _ => c_nil) (fun _ _ _ _ _ => (pd_tup (pl_cons (pd_var 9) (pl_cons (pd_var 9) pl_nil))))))) (pd_fr (pf_lst (pl_cons (w_tuple T.z_tuple (pd_fr (w_sorted T.z_sorted (pd_var 5)))) (pl_cons (d_rev (w_tuple T.z_tuple (pd_fr (w_sorted T.z_sorted (pd_var 5))))) pl_nil))))))
      (s_cons (s_for PassesOwn.never rfl (d_iter (pd_var 6)) (t_name 7 nd) (s_one (s_if (PBW.pb (pbw_and (pb_not (pb_of (d_call G__law_may_tick hr (pl_cons (pd_var 2) (pl_cons (pd_var 3) (pl_cons (d_add (pd_var 4) pd_int) (pl_cons (pd_var 7) pl_nil))))))) (pbw_and1 (pb_not (pb_of (d_call G__law_refuses hr (pl_cons (pd_var 1) (pl_cons pd_str (pl_cons (pd_var 7) pl_nil))))))))) (s_one (s_ret pd_bl)) s_nil)))
      (s_cons (s_for PassesOwn.never rfl (d_iter (d_add (d_add (pd_fr (pf_lst (pl_cons (pd_tup (pl_cons pd_int pl_nil)) (pl_cons (pd_tup (pl_cons (d_idx (pd_var 2) pd_int) pl_nil)) (pl_cons (pd_tup (pl_cons (d_neg' pd_int) pl_nil)) pl_nil))))) (pd_fr (w_comp (own := [("k", 9)]) rfl nd (w_range2 T.z_range pd_int (d_idx (pd_var 2) pd_int)) (by kernel_rfl) (fun _ _ _ _ _ => (t_name 9 nd)) (fun _ _ _ _ _ => c_nil) (fun _ _ _ _ _ => (pd_tup (pl_cons (pd_var 9) (pl_cons (pd_var 9) pl_nil))))))) (pd_fr (w_comp (own := [("k", 9)]) rfl nd (w_range2 T.z_range pd_int (d_idx (pd_var 2) pd_int)) (by kernel_rfl) (fun _ _ _ _ _ => (t_name 9 nd)) (fun _ _ _ _ _ => (c_one (PBW.pb (pbw_or (b_cmp k_in (pd_var 9) (pd_var 5)) (pbw_or (b_cmp k_isnot (d_idx (pd_var 3) (pd_var 9)) pd_non) (pbw_or1 (b_cmp k_lt (pd_var 4) pd_int))))))) (fun _ _ _ _ _ => (pd_tup (pl_cons (pd_var 9) pl_nil))))))) (t_name 7 nd) (s_one (s_if (pb_not (pb_of (d_call G__law_refuses hr (pl_cons (pd_var 1) (pl_cons pd_str (pl_cons (pd_var 7) pl_nil)))))) (s_one (s_ret pd_bl)) s_nil)))
      (s_one (s_ret (d_call G__law_same hr (pl_cons (d_meth0 G_ClockWatch_seen hr T.cl_ClockWatch (pd_var 1)) (pl_cons (pd_tup (pl_cons (pd_var 4) (pl_cons (pd_var 3) pl_nil))) pl_nil)))))))))
theorem ok__law_told (T : Txt mg K G) (G__law_wrong : FD P w K mg base G 13 "_law_wrong" 5 f__law_wrong) (G_explain_answer : FD P w K mg base G 5 "explain_answer" 4 f_explain_answer) (G_ClockWatch_tick : FMX P w K mg base G 6 1 "tick" 2 f_ClockWatch_tick) (G_ClockWatch_answer : FM P w K mg base G 1 1 "answer" 1 f_ClockWatch_answer) (G__law_same : FD P w K mg base G 12 "_law_same" 2 f__law_same) (G_shows_explained : FD P w K mg base G 5 "shows_explained" 5 f_shows_explained) (G__law_bool : FD P w K mg base G 1 "_law_bool" 2 f__law_bool) (G__law_take : FD P w K mg base G 1 "_law_take" 2 f__law_take) (G_ClockWatch_begin : FMX P w K mg base G 2 1 "begin" 2 f_ClockWatch_begin) (G_ClockWatch_seen : FM P w K mg base G 1 1 "seen" 1 f_ClockWatch_seen) {f : Addr} {fd : FuncData} (F : Fun K "_law_told" "_law_told" s__law_told f fd) (b : Binds K fd ["deal", "watch", "web", "kind", "stamps", "last", "ended", "begun"] []) (m : mg "_law_told" = some (.ref f)) : FD P w K mg base G 14 "_law_told" 8 f__law_told :=
  fn_fd F sc__law_told b m fun cdv A outer s0 H E hr =>
    have nd := sc__law_told.nd
    show PSsd _ _ _ _ m__law_told from
    (s_cons (s_if (pb_not (pb_of (d_call G__law_wrong hr (pl_cons (pd_var 0) (pl_cons (pd_var 1) (pl_cons (pd_var 2) (pl_cons (pd_var 4) (pl_cons (pd_var 5) pl_nil)))))))) (s_one (s_ret pd_non)) s_nil)
      (s_cons (s_set (i := 8) nd (w_tuple T.z_tuple (pd_fr (w_comp (own := [("k", 12)]) rfl nd (w_range1 T.z_range (d_idx (pd_var 2) pd_int)) (by kernel_rfl) (fun _ _ _ _ _ => (t_name 12 nd)) (fun _ _ _ _ _ => c_nil) (fun _ _ _ _ _ => (pd_if (b_cmp k_in (pd_var 12) (pd_var 6)) (d_add (pd_var 5) pd_int) (d_idx (pd_var 4) (pd_var 12))))))))
      (s_cons (s_set (i := 9) nd (d_call G_explain_answer hr (pl_cons (pd_var 2) (pl_cons (pd_var 3) (pl_cons (pd_var 8) (pl_cons (d_add (pd_var 5) pd_int) pl_nil))))))
      (s_cons (s_set (i := 10) nd (d_methX G_ClockWatch_tick hr takes0 T.cl_ClockWatch (pd_var 1) (pl_cons (pd_var 6) pl_nil)))
      (s_cons (s_set (i := 11) nd (d_meth0 G_ClockWatch_answer hr T.cl_ClockWatch (pd_var 1)))
      (s_cons (s_if (PBW.pb (pbw_or (pb_not (pb_of (d_call G__law_same hr (pl_cons (pd_var 10) (pl_cons (d_idx (pd_var 9) pd_int) pl_nil))))) (pbw_or (b_cmp (k_ne hr.units) (d_idx (pd_var 11) pd_int) (pd_var 10)) (pbw_or1 (pb_not (pb_of (d_call G__law_bool hr (pl_cons (d_call G_shows_explained hr (pl_cons (pd_var 2) (pl_cons (pd_var 3) (pl_cons (pd_var 8) (pl_cons (d_add (pd_var 5) pd_int) (pl_cons (pd_var 11) pl_nil)))))) (pl_cons pd_bl pl_nil))))))))) (s_one (s_ret pd_non)) s_nil)
      (s_cons (s_if (PBW.pb (pbw_or (b_cmp k_gt (w_len T.z_len (pd_var 7)) pd_int) (pbw_or1 (b_cmp (k_eq hr.units) (d_call G__law_take hr (pl_cons (pd_var 0) (pl_cons pd_int pl_nil))) pd_int)))) (s_one (s_if (PBW.pb (pbw_and (b_cmp k_gt (w_len T.z_len (pd_var 7)) pd_int) (pbw_and1 (b_cmp (k_eq hr.units) (d_call G__law_take hr (pl_cons (pd_var 0) (pl_cons pd_int pl_nil))) pd_int)))) (s_cons (s_expr (d_methX G_ClockWatch_begin hr takes0 T.cl_ClockWatch (pd_var 1) (pl_cons (d_cut (pd_var 7) p_none (p_some pd_int)) pl_nil)))
      (s_one (s_expr (d_methX G_ClockWatch_begin hr takes0 T.cl_ClockWatch (pd_var 1) (pl_cons (d_cut (pd_var 7) (p_some pd_int) p_none) pl_nil))))) (s_one (s_expr (d_methX G_ClockWatch_begin hr takes0 T.cl_ClockWatch (pd_var 1) (pl_cons (pd_var 7) pl_nil)))))) s_nil)
      (s_cons (s_set (i := 8) nd (w_tuple T.z_tuple (pd_fr (w_comp (own := [("k", 12)]) rfl nd (w_range1 T.z_range (d_idx (pd_var 2) pd_int)) (by kernel_rfl) (fun _ _ _ _ _ => (t_name 12 nd)) (fun _ _ _ _ _ => c_nil) (fun _ _ _ _ _ => (pd_if (b_cmp k_in (pd_var 12) (pd_var 7)) (d_add (pd_var 5) pd_int) (d_idx (pd_var 8) (pd_var 12))))))))
      (s_cons (s_if (PBW.pb (pbw_or (pb_not (pb_of (d_call G__law_same hr (pl_cons (d_meth0 G_ClockWatch_seen hr T.cl_ClockWatch (pd_var 1)) (pl_cons (pd_tup (pl_cons (d_add (pd_var 5) pd_int) (pl_cons (pd_var 8) pl_nil))) pl_nil))))) (pbw_or1 (pb_not (pb_of (d_call G__law_same hr (pl_cons (d_meth0 G_ClockWatch_answer hr T.cl_ClockWatch (pd_var 1)) (pl_cons (pd_var 11) pl_nil)))))))) (s_one (s_ret pd_non)) s_nil)
      (s_one (s_ret (pd_tup (pl_cons (pd_var 10) (pl_cons (pd_var 8) pl_nil))))))))))))))
theorem ok__law_ended (T : Txt mg K G) (G__law_take : FD P w K mg base G 1 "_law_take" 2 f__law_take) {f : Addr} {fd : FuncData} (F : Fun K "_law_ended" "_law_ended" s__law_ended f fd) (b : Binds K fd ["deal", "web", "clock", "tick", "state"] []) (m : mg "_law_ended" = some (.ref f)) : FD P w K mg base G 2 "_law_ended" 5 f__law_ended :=
  fn_fd F sc__law_ended b m fun cdv A outer s0 H E hr =>
    have nd := sc__law_ended.nd
    show PSsd _ _ _ _ m__law_ended from
    (s_cons (s_asg (pd_var 4) (t_tup (K := K) rfl (ts_cons (t_name 5 nd) (ts_cons (t_name 6 nd) (ts_cons (t_name 7 nd) (ts_cons (t_name 8 nd) ts_nil))))))
      (s_cons (s_own (i := 9) nd (pf_lst pl_nil))
      (s_cons (s_for PassesOwn.never rfl (w_range1 T.z_range (w_len T.z_len (d_idx (pd_var 1) pd_int))) (t_name 10 nd) (s_one (s_for PassesOwn.never rfl (w_range1 T.z_range (w_len T.z_len (d_idx (pd_var 1) pd_int))) (t_name 11 nd) (s_cons (s_asg (d_cut (d_idx (d_idx (pd_var 1) pd_int) (pd_var 11)) p_none (p_some pd_int)) (t_tup (K := K) rfl (ts_cons (t_name 12 nd) (ts_cons (t_name 13 nd) ts_nil))))
      (s_one (s_if (PBW.pb (pbw_and (b_cmp k_notin (pd_var 13) (pd_var 9)) (pbw_and (b_cmp k_isn (d_idx (pd_var 5) (pd_var 13)) pd_non) (pbw_and1 (b_cmp k_isnot (d_idx (pd_var 6) (pd_var 12)) pd_non))))) (s_cons (s_if (PBW.pb (pbw_and (pb_of (pd_var 8)) (pbw_and1 (b_cmp k_le (d_add (d_idx (pd_var 6) (pd_var 12)) (d_idx (pd_var 7) (pd_var 11))) (d_idx (pd_var 2) (pd_var 3)))))) (s_cons (s_seto (d_add (d_idx (pd_var 6) (pd_var 12)) (d_idx (pd_var 7) (pd_var 11))) (pd_var 6) (pd_var 13))
      (s_one (s_app (i := 9) (pd_var 13)))) s_nil)
      (s_one (s_if (PBW.pb (pbw_and (pb_not (pb_of (pd_var 8))) (pbw_and (b_cmp k_gt (pd_var 3) pd_int) (pbw_and (b_cmp (k_eq hr.units) (d_call G__law_take hr (pl_cons (pd_var 0) (pl_cons pd_int pl_nil))) pd_int) (pbw_and1 (b_cmp k_notin (pd_var 12) (pd_var 9))))))) (s_cons (s_seto (d_idx (pd_var 2) (pd_var 3)) (pd_var 6) (pd_var 13))
      (s_one (s_app (i := 9) (pd_var 13)))) s_nil))) s_nil))))))
      (s_one (s_ret (w_tuple T.z_tuple (pd_fr (w_sorted T.z_sorted (pd_var 9)))))))))
theorem ok__law_day (T : Txt mg K G) (G__law_take : FD P w K mg base G 1 "_law_take" 2 f__law_take) (G__law_ended : FD P w K mg base G 2 "_law_ended" 5 f__law_ended) (G__law_told : FD P w K mg base G 14 "_law_told" 8 f__law_told) (G_ClockWatch_tick : FMX P w K mg base G 6 1 "tick" 2 f_ClockWatch_tick) (G_ClockWatch_seen : FM P w K mg base G 1 1 "seen" 1 f_ClockWatch_seen) (G__law_same : FD P w K mg base G 12 "_law_same" 2 f__law_same) {f : Addr} {fd : FuncData} (F : Fun K "_law_day" "_law_day" s__law_day f fd) (b : Binds K fd ["deal", "web", "kind", "clock", "is_true", "watches"] []) (m : mg "_law_day" = some (.ref f)) : FD P w K mg base G 15 "_law_day" 6 f__law_day :=
  fn_fd F sc__law_day b m fun cdv A outer s0 H E hr =>
    have nd := sc__law_day.nd
    show PSsd _ _ _ _ m__law_day from
    (s_cons (w_setLc (i := 6) (own := [("begin", 17), ("end", 18), ("least", 19), ("most", 20)]) rfl nd (d_iter (d_idx (pd_var 1) pd_int)) (by kernel_rfl) (fun _ _ _ _ _ => (t_tup (K := K) rfl (ts_cons (t_name 17 nd) (ts_cons (t_name 18 nd) (ts_cons (t_name 19 nd) (ts_cons (t_name 20 nd) ts_nil)))))) (fun _ _ _ _ _ => c_nil) (fun _ _ _ _ _ => (d_add (pd_var 19) (d_call G__law_take hr (pl_cons (pd_var 0) (pl_cons (d_add (d_sub (pd_var 20) (pd_var 19)) pd_int) pl_nil))))))
      (s_cons (s_set (i := 7) nd (pd_fr (w_comp (own := [("link", 21)]) rfl nd (d_iter (d_idx (pd_var 1) pd_int)) (by kernel_rfl) (fun _ _ _ _ _ => (t_name 21 nd)) (fun _ _ _ _ _ => c_nil) (fun _ _ _ _ _ => (d_idx (pd_var 21) pd_int)))))
      (s_cons (s_set (i := 8) nd (d_add (pd_tup (pl_cons pd_int pl_nil)) (d_mult (pd_tup (pl_cons pd_non pl_nil)) (d_sub (d_idx (pd_var 1) pd_int) pd_int))))
      (s_cons (s_set (i := 9) nd (d_st (pf_cat (pd_fr (pf_lst (pl_cons pd_int pl_nil))) (pd_fr (pf_rep (pd_fr (pf_lst (pl_cons pd_non pl_nil))) (d_sub (d_idx (pd_var 1) pd_int) pd_int))))))
      (s_cons (s_set (i := 10) nd pd_str)
      (s_cons (s_for PassesOwn.never rfl (w_range1 T.z_range (w_len T.z_len (pd_var 3))) (t_name 11 nd) (s_cons (s_set (i := 12) nd (d_call G__law_ended hr (pl_cons (pd_var 0) (pl_cons (pd_var 1) (pl_cons (pd_var 3) (pl_cons (pd_var 11) (pl_cons (pd_tup (pl_cons (pd_var 8) (pl_cons (pd_var 9) (pl_cons (pd_var 6) (pl_cons (pd_var 4) pl_nil))))) pl_nil)))))))
      (s_cons (s_set (i := 13) nd (w_tuple T.z_tuple (pd_fr (w_comp (own := [("k", 16)]) rfl nd (w_range2 T.z_range pd_int (d_idx (pd_var 1) pd_int)) (by kernel_rfl) (fun _ _ _ _ _ => (t_name 16 nd)) (fun _ _ _ _ _ => (c_one (PBW.pb (pbw_and (b_cmp k_notin (pd_var 16) (pd_var 7)) (pbw_and (b_cmp k_isn (d_idx (pd_var 8) (pd_var 16)) pd_non) (pbw_and1 (b_cmp (k_eq hr.units) (d_call G__law_take hr (pl_cons (pd_var 0) (pl_cons pd_int pl_nil))) pd_int))))))) (fun _ _ _ _ _ => (pd_var 16))))))
      (s_cons (s_if (b_cmp (k_eq hr.units) (d_call G__law_take hr (pl_cons (pd_var 0) (pl_cons pd_int pl_nil))) pd_int) (s_one (s_set (i := 13) nd (d_rev (pd_var 13)))) s_nil)
      (s_cons (s_set (i := 14) nd (d_call G__law_told hr (pl_cons (pd_var 0) (pl_cons (d_idx (pd_var 5) pd_int) (pl_cons (pd_var 1) (pl_cons (pd_var 2) (pl_cons (pd_var 8) (pl_cons (d_sub (pd_var 11) pd_int) (pl_cons (pd_var 12) (pl_cons (pd_var 13) pl_nil))))))))))
      (s_cons (s_if (PBW.pb (pbw_or (b_cmp k_isn (pd_var 14) pd_non) (pbw_or1 (b_cmp k_notin (d_methX G_ClockWatch_tick hr takes0 T.cl_ClockWatch (d_idx (pd_var 5) pd_int) (pl_cons (pd_tup pl_nil) pl_nil)) (pd_fr (pf_lst (pl_cons pd_str (pl_cons pd_str pl_nil)))))))) (s_one (s_ret pd_bl)) s_nil)
      (s_cons (s_asg (pd_var 14) (t_tup (K := K) rfl (ts_cons (t_name 15 nd) (ts_cons (t_name 8 nd) ts_nil))))
      (s_cons (s_for PassesOwn.never rfl (d_iter (pd_var 13)) (t_name 16 nd) (s_one (s_seto (d_idx (pd_var 3) (pd_var 11)) (pd_var 9) (pd_var 16))))
      (s_cons (s_if (PBW.pb (pbw_or (PBW.pb (pbw_and (pb_of (pd_var 4)) (pbw_and1 (b_cmp (k_ne hr.units) (pd_var 15) pd_str)))) (pbw_or1 (PBW.pb (pbw_and (b_cmp (k_eq hr.units) (pd_var 10) pd_str) (pbw_and1 (b_cmp (k_ne hr.units) (pd_var 15) pd_str))))))) (s_one (s_ret pd_bl)) s_nil)
      (s_one (s_set (i := 10) nd (pd_var 15))))))))))))
      (s_one (s_ret (d_call G__law_same hr (pl_cons (d_meth0 G_ClockWatch_seen hr T.cl_ClockWatch (d_idx (pd_var 5) pd_int)) (pl_cons (pd_tup (pl_cons (d_sub (w_len T.z_len (pd_var 3)) pd_int) (pl_cons (d_add (pd_tup (pl_cons pd_int pl_nil)) (d_mult (pd_tup (pl_cons pd_non pl_nil)) (d_sub (d_idx (pd_var 1) pd_int) pd_int))) pl_nil))) pl_nil)))))))))))
theorem ok_law (T : Txt mg K G) (G__law_deal : FD P w K mg base G 1 "_law_deal" 1 f__law_deal) (G__law_take : FD P w K mg base G 1 "_law_take" 2 f__law_take) (G__law_seen_web : FD P w K mg base G 2 "_law_seen_web" 2 f__law_seen_web) (G__law_kind : FD P w K mg base G 2 "_law_kind" 1 f__law_kind) (G_ClockWatch___init__ : FK P w K mg base G 1 1 "ClockWatch" 3 f_ClockWatch___init__) (G_ClockWatch_answer : FM P w K mg base G 1 1 "answer" 1 f_ClockWatch_answer) (G_ClockWatch_seen : FM P w K mg base G 1 1 "seen" 1 f_ClockWatch_seen) (G__law_same : FD P w K mg base G 12 "_law_same" 2 f__law_same) (G__law_clock : FD P w K mg base G 2 "_law_clock" 3 f__law_clock) (G__law_day : FD P w K mg base G 15 "_law_day" 6 f__law_day) {f : Addr} {fd : FuncData} (F : Fun K "law" "law" s_law f fd) : FnOk P w K mg base CX0 16 f fd ["script"] (spD G K 1 f_law) :=
  fn_ok F sc_law fun cdv A outer s0 H E hr =>
    have nd := sc_law.nd
    show PSsd _ _ _ _ m_law from
    (s_cons (s_set (i := 1) nd (d_call G__law_deal hr (pl_cons (pd_var 0) pl_nil)))
      (s_cons (s_set (i := 2) nd (d_call G__law_seen_web hr (pl_cons (pd_var 1) (pl_cons (d_add pd_int (d_call G__law_take hr (pl_cons (pd_var 1) (pl_cons pd_int pl_nil)))) pl_nil))))
      (s_cons (s_set (i := 3) nd (d_call G__law_kind hr (pl_cons (pd_var 1) pl_nil)))
      (s_cons (s_for PassesOwn.never rfl (d_iter (pd_fr (pf_lst (pl_cons pd_bl (pl_cons pd_bl pl_nil))))) (t_name 4 nd) (s_cons (s_par (i := 5) (j := 6) rfl nd (pl_cons (d_make G_ClockWatch___init__ hr (pl_cons (pd_var 2) (pl_cons (pd_var 3) pl_nil))) (pl_cons (d_make G_ClockWatch___init__ hr (pl_cons (pd_var 2) (pl_cons (pd_var 3) pl_nil))) pl_nil)) rfl)
      (s_cons (s_if (PBW.pb (pbw_or (b_cmp k_isnot (d_meth0 G_ClockWatch_answer hr T.cl_ClockWatch (pd_var 5)) pd_non) (pbw_or1 (pb_not (pb_of (d_call G__law_same hr (pl_cons (d_meth0 G_ClockWatch_seen hr T.cl_ClockWatch (pd_var 5)) (pl_cons (pd_tup (pl_cons (d_neg' pd_int) (pl_cons (d_add (pd_tup (pl_cons pd_int pl_nil)) (d_mult (pd_tup (pl_cons pd_non pl_nil)) (d_sub (d_idx (pd_var 2) pd_int) pd_int))) pl_nil))) pl_nil)))))))) (s_one (s_ret pd_bl)) s_nil)
      (s_cons (s_set (i := 7) nd (d_call G__law_clock hr (pl_cons (pd_var 1) (pl_cons (pd_var 3) (pl_cons (d_add pd_int (d_call G__law_take hr (pl_cons (pd_var 1) (pl_cons pd_int pl_nil)))) pl_nil)))))
      (s_one (s_if (pb_not (pb_of (d_call G__law_day hr (pl_cons (pd_var 1) (pl_cons (pd_var 2) (pl_cons (pd_var 3) (pl_cons (pd_var 7) (pl_cons (pd_var 4) (pl_cons (pd_tup (pl_cons (pd_var 5) (pl_cons (pd_var 6) pl_nil))) pl_nil))))))))) (s_one (s_ret pd_bl)) s_nil))))))
      (s_one (s_ret pd_bl))))))
end
theorem all_mk {l : PySem.W.OpenLaw} {w : World} {K : PySem.W.Frag} {h : Heap} {mg : Str → Option Value} {fa a_keeps_rule a_keeps a_shifted a_is_walk a_length a_ends_of a_is_bad_ring a_Spreading___init__ a_Spreading_step a_Spreading_spread a_Spreading_ring_from a_holds_answer a_link_of a_least_minutes a_most_minutes a_are_stamps a_true_moment a_clock_rules a_link_rules a_stamp_web a_explain_answer a_shows_explained a_ClockWatch___init__ a_ClockWatch_stamped a_ClockWatch_tick a_ClockWatch_begin a_ClockWatch_answer a_ClockWatch_seen a__law_deal a__law_take a__law_same a__law_bool a__law_seen_web a__law_kind a__law_low a__law_high a__law_clock a__law_refuses a__law_may_tick a__law_wrong a__law_told a__law_ended a__law_day a_law C_Spreading C_ClockWatch X_DayError X_NotLet X_BadDeed : Addr} (X : K.In h) (G : h.Ns mainGlobals mg) (hfa : mg "law" = some (.ref fa))
    {od_keeps_rule an_keeps_rule : Option Addr} {sl_keeps_rule : Array (Option Value)} {oc_keeps_rule kV_keeps_rule dc_keeps_rule pm_keeps_rule cd_keeps_rule ct_keeps_rule : Value}
    {od_keeps an_keeps : Option Addr} {sl_keeps : Array (Option Value)} {oc_keeps kV_keeps dc_keeps pm_keeps cd_keeps ct_keeps : Value}
    {od_shifted an_shifted : Option Addr} {sl_shifted : Array (Option Value)} {oc_shifted kV_shifted dc_shifted pm_shifted cd_shifted ct_shifted : Value}
    {od_is_walk an_is_walk : Option Addr} {sl_is_walk : Array (Option Value)} {oc_is_walk kV_is_walk dc_is_walk pm_is_walk cd_is_walk ct_is_walk : Value}
    {od_length an_length : Option Addr} {sl_length : Array (Option Value)} {oc_length kV_length dc_length pm_length cd_length ct_length : Value}
    {od_ends_of an_ends_of : Option Addr} {sl_ends_of : Array (Option Value)} {oc_ends_of kV_ends_of dc_ends_of pm_ends_of cd_ends_of ct_ends_of : Value}
    {od_is_bad_ring an_is_bad_ring : Option Addr} {sl_is_bad_ring : Array (Option Value)} {oc_is_bad_ring kV_is_bad_ring dc_is_bad_ring pm_is_bad_ring cd_is_bad_ring ct_is_bad_ring : Value}
    {od_Spreading___init__ an_Spreading___init__ : Option Addr} {sl_Spreading___init__ : Array (Option Value)} {oc_Spreading___init__ kV_Spreading___init__ dc_Spreading___init__ pm_Spreading___init__ cd_Spreading___init__ ct_Spreading___init__ : Value}
    {od_Spreading_step an_Spreading_step : Option Addr} {sl_Spreading_step : Array (Option Value)} {oc_Spreading_step kV_Spreading_step dc_Spreading_step pm_Spreading_step cd_Spreading_step ct_Spreading_step : Value}
    {od_Spreading_spread an_Spreading_spread : Option Addr} {sl_Spreading_spread : Array (Option Value)} {oc_Spreading_spread kV_Spreading_spread dc_Spreading_spread pm_Spreading_spread cd_Spreading_spread ct_Spreading_spread : Value}
    {od_Spreading_ring_from an_Spreading_ring_from : Option Addr} {sl_Spreading_ring_from : Array (Option Value)} {oc_Spreading_ring_from kV_Spreading_ring_from dc_Spreading_ring_from pm_Spreading_ring_from cd_Spreading_ring_from ct_Spreading_ring_from : Value}
    {od_holds_answer an_holds_answer : Option Addr} {sl_holds_answer : Array (Option Value)} {oc_holds_answer kV_holds_answer dc_holds_answer pm_holds_answer cd_holds_answer ct_holds_answer : Value}
    {od_link_of an_link_of : Option Addr} {sl_link_of : Array (Option Value)} {oc_link_of kV_link_of dc_link_of pm_link_of cd_link_of ct_link_of : Value}
    {od_least_minutes an_least_minutes : Option Addr} {sl_least_minutes : Array (Option Value)} {oc_least_minutes kV_least_minutes dc_least_minutes pm_least_minutes cd_least_minutes ct_least_minutes : Value}
    {od_most_minutes an_most_minutes : Option Addr} {sl_most_minutes : Array (Option Value)} {oc_most_minutes kV_most_minutes dc_most_minutes pm_most_minutes cd_most_minutes ct_most_minutes : Value}
    {od_are_stamps an_are_stamps : Option Addr} {sl_are_stamps : Array (Option Value)} {oc_are_stamps kV_are_stamps dc_are_stamps pm_are_stamps cd_are_stamps ct_are_stamps : Value}
    {od_true_moment an_true_moment : Option Addr} {sl_true_moment : Array (Option Value)} {oc_true_moment kV_true_moment dc_true_moment pm_true_moment cd_true_moment ct_true_moment : Value}
    {od_clock_rules an_clock_rules : Option Addr} {sl_clock_rules : Array (Option Value)} {oc_clock_rules kV_clock_rules dc_clock_rules pm_clock_rules cd_clock_rules ct_clock_rules : Value}
    {od_link_rules an_link_rules : Option Addr} {sl_link_rules : Array (Option Value)} {oc_link_rules kV_link_rules dc_link_rules pm_link_rules cd_link_rules ct_link_rules : Value}
    {od_stamp_web an_stamp_web : Option Addr} {sl_stamp_web : Array (Option Value)} {oc_stamp_web kV_stamp_web dc_stamp_web pm_stamp_web cd_stamp_web ct_stamp_web : Value}
    {od_explain_answer an_explain_answer : Option Addr} {sl_explain_answer : Array (Option Value)} {oc_explain_answer kV_explain_answer dc_explain_answer pm_explain_answer cd_explain_answer ct_explain_answer : Value}
    {od_shows_explained an_shows_explained : Option Addr} {sl_shows_explained : Array (Option Value)} {oc_shows_explained kV_shows_explained dc_shows_explained pm_shows_explained cd_shows_explained ct_shows_explained : Value}
    {od_ClockWatch___init__ an_ClockWatch___init__ : Option Addr} {sl_ClockWatch___init__ : Array (Option Value)} {oc_ClockWatch___init__ kV_ClockWatch___init__ dc_ClockWatch___init__ pm_ClockWatch___init__ cd_ClockWatch___init__ ct_ClockWatch___init__ : Value}
    {od_ClockWatch_stamped an_ClockWatch_stamped : Option Addr} {sl_ClockWatch_stamped : Array (Option Value)} {oc_ClockWatch_stamped kV_ClockWatch_stamped dc_ClockWatch_stamped pm_ClockWatch_stamped cd_ClockWatch_stamped ct_ClockWatch_stamped : Value}
    {od_ClockWatch_tick an_ClockWatch_tick : Option Addr} {sl_ClockWatch_tick : Array (Option Value)} {oc_ClockWatch_tick kV_ClockWatch_tick dc_ClockWatch_tick pm_ClockWatch_tick cd_ClockWatch_tick ct_ClockWatch_tick : Value}
    {od_ClockWatch_begin an_ClockWatch_begin : Option Addr} {sl_ClockWatch_begin : Array (Option Value)} {oc_ClockWatch_begin kV_ClockWatch_begin dc_ClockWatch_begin pm_ClockWatch_begin cd_ClockWatch_begin ct_ClockWatch_begin : Value}
    {od_ClockWatch_answer an_ClockWatch_answer : Option Addr} {sl_ClockWatch_answer : Array (Option Value)} {oc_ClockWatch_answer kV_ClockWatch_answer dc_ClockWatch_answer pm_ClockWatch_answer cd_ClockWatch_answer ct_ClockWatch_answer : Value}
    {od_ClockWatch_seen an_ClockWatch_seen : Option Addr} {sl_ClockWatch_seen : Array (Option Value)} {oc_ClockWatch_seen kV_ClockWatch_seen dc_ClockWatch_seen pm_ClockWatch_seen cd_ClockWatch_seen ct_ClockWatch_seen : Value}
    {od__law_deal an__law_deal : Option Addr} {sl__law_deal : Array (Option Value)} {oc__law_deal kV__law_deal dc__law_deal pm__law_deal cd__law_deal ct__law_deal : Value}
    {od__law_take an__law_take : Option Addr} {sl__law_take : Array (Option Value)} {oc__law_take kV__law_take dc__law_take pm__law_take cd__law_take ct__law_take : Value}
    {od__law_same an__law_same : Option Addr} {sl__law_same : Array (Option Value)} {oc__law_same kV__law_same dc__law_same pm__law_same cd__law_same ct__law_same : Value}
    {od__law_bool an__law_bool : Option Addr} {sl__law_bool : Array (Option Value)} {oc__law_bool kV__law_bool dc__law_bool pm__law_bool cd__law_bool ct__law_bool : Value}
    {od__law_seen_web an__law_seen_web : Option Addr} {sl__law_seen_web : Array (Option Value)} {oc__law_seen_web kV__law_seen_web dc__law_seen_web pm__law_seen_web cd__law_seen_web ct__law_seen_web : Value}
    {od__law_kind an__law_kind : Option Addr} {sl__law_kind : Array (Option Value)} {oc__law_kind kV__law_kind dc__law_kind pm__law_kind cd__law_kind ct__law_kind : Value}
    {od__law_low an__law_low : Option Addr} {sl__law_low : Array (Option Value)} {oc__law_low kV__law_low dc__law_low pm__law_low cd__law_low ct__law_low : Value}
    {od__law_high an__law_high : Option Addr} {sl__law_high : Array (Option Value)} {oc__law_high kV__law_high dc__law_high pm__law_high cd__law_high ct__law_high : Value}
    {od__law_clock an__law_clock : Option Addr} {sl__law_clock : Array (Option Value)} {oc__law_clock kV__law_clock dc__law_clock pm__law_clock cd__law_clock ct__law_clock : Value}
    {od__law_refuses an__law_refuses : Option Addr} {sl__law_refuses : Array (Option Value)} {oc__law_refuses kV__law_refuses dc__law_refuses pm__law_refuses cd__law_refuses ct__law_refuses : Value}
    {od__law_may_tick an__law_may_tick : Option Addr} {sl__law_may_tick : Array (Option Value)} {oc__law_may_tick kV__law_may_tick dc__law_may_tick pm__law_may_tick cd__law_may_tick ct__law_may_tick : Value}
    {od__law_wrong an__law_wrong : Option Addr} {sl__law_wrong : Array (Option Value)} {oc__law_wrong kV__law_wrong dc__law_wrong pm__law_wrong cd__law_wrong ct__law_wrong : Value}
    {od__law_told an__law_told : Option Addr} {sl__law_told : Array (Option Value)} {oc__law_told kV__law_told dc__law_told pm__law_told cd__law_told ct__law_told : Value}
    {od__law_ended an__law_ended : Option Addr} {sl__law_ended : Array (Option Value)} {oc__law_ended kV__law_ended dc__law_ended pm__law_ended cd__law_ended ct__law_ended : Value}
    {od__law_day an__law_day : Option Addr} {sl__law_day : Array (Option Value)} {oc__law_day kV__law_day dc__law_day pm__law_day cd__law_day ct__law_day : Value}
    {od_law an_law : Option Addr} {sl_law : Array (Option Value)} {oc_law kV_law dc_law pm_law cd_law ct_law : Value}
    {t_EXPLAINED : Tok}
    {t_HOLDS : Tok}
    {t_RING : Tok}
    {t_STRANGE : Tok}
    (nc_Spreading : PySem.W.nsIn K mainGlobals "Spreading" = some (some (.ref C_Spreading)))
    (pg_Spreading : PySem.W.plainGet K C_Spreading Str.empty = true)
    (hd_Spreading : PySem.W.hasDictIn K C_Spreading = true)
    (po_Spreading : PySem.W.plainOver K C_Spreading = true)
    (sa_Spreading : PySem.W.findIn K (.ref C_Spreading) "__setattr__" = some (some (.builtin "object.__setattr__")))
    (mk_Spreading : PySem.W.makesIn K C_Spreading = true)
    (kc_Spreading : PySem.W.keepIn K (.ref C_Spreading) = true)
    (nc_ClockWatch : PySem.W.nsIn K mainGlobals "ClockWatch" = some (some (.ref C_ClockWatch)))
    (pg_ClockWatch : PySem.W.plainGet K C_ClockWatch Str.empty = true)
    (hd_ClockWatch : PySem.W.hasDictIn K C_ClockWatch = true)
    (po_ClockWatch : PySem.W.plainOver K C_ClockWatch = true)
    (sa_ClockWatch : PySem.W.findIn K (.ref C_ClockWatch) "__setattr__" = some (some (.builtin "object.__setattr__")))
    (mk_ClockWatch : PySem.W.makesIn K C_ClockWatch = true)
    (kc_ClockWatch : PySem.W.keepIn K (.ref C_ClockWatch) = true)
    (ne_DayError : PySem.W.nsIn K mainGlobals "DayError" = some (some (.ref X_DayError)))
    (xe_DayError : PySem.W.excIn K X_DayError [.type "ValueError", .type "Exception", .type "BaseException", .type "object"] "ValueError.__new__" = true)
    (xk_DayError : PySem.W.keepIn K (.ref X_DayError) = true)
    (xb_DayError : PySem.W.subIn K (.ref X_DayError) (.type "BaseException") = some true)
    (xt_DayError : PySem.W.typeIn K (.ref X_DayError) = some (.type "type"))
    (xd_DayError : PySem.W.hasDictIn K X_DayError = true)
    (ne_NotLet : PySem.W.nsIn K mainGlobals "NotLet" = some (some (.ref X_NotLet)))
    (xe_NotLet : PySem.W.excIn K X_NotLet [.type "ValueError", .type "Exception", .type "BaseException", .type "object"] "ValueError.__new__" = true)
    (xk_NotLet : PySem.W.keepIn K (.ref X_NotLet) = true)
    (xb_NotLet : PySem.W.subIn K (.ref X_NotLet) (.type "BaseException") = some true)
    (xt_NotLet : PySem.W.typeIn K (.ref X_NotLet) = some (.type "type"))
    (xd_NotLet : PySem.W.hasDictIn K X_NotLet = true)
    (ne_BadDeed : PySem.W.nsIn K mainGlobals "BadDeed" = some (some (.ref X_BadDeed)))
    (xe_BadDeed : PySem.W.excIn K X_BadDeed [.type "ValueError", .type "Exception", .type "BaseException", .type "object"] "ValueError.__new__" = true)
    (xk_BadDeed : PySem.W.keepIn K (.ref X_BadDeed) = true)
    (xb_BadDeed : PySem.W.subIn K (.ref X_BadDeed) (.type "BaseException") = some true)
    (xt_BadDeed : PySem.W.typeIn K (.ref X_BadDeed) = some (.type "type"))
    (xd_BadDeed : PySem.W.hasDictIn K X_BadDeed = true)
    (x_sp : PySem.W.specialIn K (.builtin "object.__class__") "__get__" = some (some (.builtin "getset_descriptor.__get__")))
    (x_tk : PySem.W.takesIn K (.builtin "object.__class__") = some true)
    (xg_BadDeed : PySem.W.findIn K (.ref X_BadDeed) "__getattribute__" = some (some (.builtin "BaseException.__getattribute__")))
    (xa_BadDeed : PySem.W.findIn K (.ref X_BadDeed) "__getattr__" = some none)
    (xc_BadDeed : PySem.W.findIn K (.ref X_BadDeed) "__class__" = some (some (.builtin "object.__class__")))
    (xm_BadDeed : PySem.W.mroIn K X_BadDeed (.type "object") = some true)
    (sb_BadDeed_BadDeed : PySem.W.subIn K (.ref X_BadDeed) (.ref X_BadDeed) = some true)
    (sb_BadDeed_DayError : PySem.W.subIn K (.ref X_BadDeed) (.ref X_DayError) = some true)
    (sb_BadDeed_NotLet : PySem.W.subIn K (.ref X_BadDeed) (.ref X_NotLet) = some false)
    (nf_ClockWatch_kind : PySem.W.findIn K (.ref C_ClockWatch) "kind" = some none)
    (nf_ClockWatch_last : PySem.W.findIn K (.ref C_ClockWatch) "last" = some none)
    (nf_ClockWatch_stamps : PySem.W.findIn K (.ref C_ClockWatch) "stamps" = some none)
    (nf_ClockWatch_told : PySem.W.findIn K (.ref C_ClockWatch) "told" = some none)
    (nf_ClockWatch_web : PySem.W.findIn K (.ref C_ClockWatch) "web" = some none)
    (nf_Spreading_far : PySem.W.findIn K (.ref C_Spreading) "far" = some none)
    (nf_Spreading_last : PySem.W.findIn K (.ref C_Spreading) "last" = some none)
    (nf_Spreading_web : PySem.W.findIn K (.ref C_Spreading) "web" = some none)
    (na_keeps_rule : PySem.W.nsIn K mainGlobals "keeps_rule" = some (some (.ref a_keeps_rule)))
    (lk_keeps_rule : K.lookup a_keeps_rule = some ⟨oc_keeps_rule, od_keeps_rule, .func (PySem.W.fnOf "keeps_rule" "keeps_rule" (defArgs s_keeps_rule) (defBody s_keeps_rule) (defScope s_keeps_rule) .none kV_keeps_rule dc_keeps_rule pm_keeps_rule an_keeps_rule cd_keeps_rule ct_keeps_rule), sl_keeps_rule⟩)
    (co_keeps_rule : PySem.W.codeIn K cd_keeps_rule "keeps_rule" = true)
    (ke_keeps_rule : PySem.W.keepIn K (.ref a_keeps_rule) = true)
    (na_keeps : PySem.W.nsIn K mainGlobals "keeps" = some (some (.ref a_keeps)))
    (lk_keeps : K.lookup a_keeps = some ⟨oc_keeps, od_keeps, .func (PySem.W.fnOf "keeps" "keeps" (defArgs s_keeps) (defBody s_keeps) (defScope s_keeps) .none kV_keeps dc_keeps pm_keeps an_keeps cd_keeps ct_keeps), sl_keeps⟩)
    (co_keeps : PySem.W.codeIn K cd_keeps "keeps" = true)
    (ke_keeps : PySem.W.keepIn K (.ref a_keeps) = true)
    (na_shifted : PySem.W.nsIn K mainGlobals "shifted" = some (some (.ref a_shifted)))
    (lk_shifted : K.lookup a_shifted = some ⟨oc_shifted, od_shifted, .func (PySem.W.fnOf "shifted" "shifted" (defArgs s_shifted) (defBody s_shifted) (defScope s_shifted) .none kV_shifted dc_shifted pm_shifted an_shifted cd_shifted ct_shifted), sl_shifted⟩)
    (co_shifted : PySem.W.codeIn K cd_shifted "shifted" = true)
    (ke_shifted : PySem.W.keepIn K (.ref a_shifted) = true)
    (na_is_walk : PySem.W.nsIn K mainGlobals "is_walk" = some (some (.ref a_is_walk)))
    (lk_is_walk : K.lookup a_is_walk = some ⟨oc_is_walk, od_is_walk, .func (PySem.W.fnOf "is_walk" "is_walk" (defArgs s_is_walk) (defBody s_is_walk) (defScope s_is_walk) .none kV_is_walk dc_is_walk pm_is_walk an_is_walk cd_is_walk ct_is_walk), sl_is_walk⟩)
    (co_is_walk : PySem.W.codeIn K cd_is_walk "is_walk" = true)
    (ke_is_walk : PySem.W.keepIn K (.ref a_is_walk) = true)
    (na_length : PySem.W.nsIn K mainGlobals "length" = some (some (.ref a_length)))
    (lk_length : K.lookup a_length = some ⟨oc_length, od_length, .func (PySem.W.fnOf "length" "length" (defArgs s_length) (defBody s_length) (defScope s_length) .none kV_length dc_length pm_length an_length cd_length ct_length), sl_length⟩)
    (co_length : PySem.W.codeIn K cd_length "length" = true)
    (ke_length : PySem.W.keepIn K (.ref a_length) = true)
    (na_ends_of : PySem.W.nsIn K mainGlobals "ends_of" = some (some (.ref a_ends_of)))
    (lk_ends_of : K.lookup a_ends_of = some ⟨oc_ends_of, od_ends_of, .func (PySem.W.fnOf "ends_of" "ends_of" (defArgs s_ends_of) (defBody s_ends_of) (defScope s_ends_of) .none kV_ends_of dc_ends_of pm_ends_of an_ends_of cd_ends_of ct_ends_of), sl_ends_of⟩)
    (co_ends_of : PySem.W.codeIn K cd_ends_of "ends_of" = true)
    (ke_ends_of : PySem.W.keepIn K (.ref a_ends_of) = true)
    (na_is_bad_ring : PySem.W.nsIn K mainGlobals "is_bad_ring" = some (some (.ref a_is_bad_ring)))
    (lk_is_bad_ring : K.lookup a_is_bad_ring = some ⟨oc_is_bad_ring, od_is_bad_ring, .func (PySem.W.fnOf "is_bad_ring" "is_bad_ring" (defArgs s_is_bad_ring) (defBody s_is_bad_ring) (defScope s_is_bad_ring) .none kV_is_bad_ring dc_is_bad_ring pm_is_bad_ring an_is_bad_ring cd_is_bad_ring ct_is_bad_ring), sl_is_bad_ring⟩)
    (co_is_bad_ring : PySem.W.codeIn K cd_is_bad_ring "is_bad_ring" = true)
    (ke_is_bad_ring : PySem.W.keepIn K (.ref a_is_bad_ring) = true)
    (na_Spreading___init__ : PySem.W.findIn K (.ref C_Spreading) "__init__" = some (some (.ref a_Spreading___init__)))
    (fn_Spreading___init__ : PySem.W.isFn K (.ref a_Spreading___init__) = true)
    (lk_Spreading___init__ : K.lookup a_Spreading___init__ = some ⟨oc_Spreading___init__, od_Spreading___init__, .func (PySem.W.fnOf "__init__" "Spreading.__init__" (defArgs s_Spreading___init__) (defBody s_Spreading___init__) (defScope s_Spreading___init__) .none kV_Spreading___init__ dc_Spreading___init__ pm_Spreading___init__ an_Spreading___init__ cd_Spreading___init__ ct_Spreading___init__), sl_Spreading___init__⟩)
    (co_Spreading___init__ : PySem.W.codeIn K cd_Spreading___init__ "Spreading.__init__" = true)
    (ke_Spreading___init__ : PySem.W.keepIn K (.ref a_Spreading___init__) = true)
    (na_Spreading_step : PySem.W.findIn K (.ref C_Spreading) "step" = some (some (.ref a_Spreading_step)))
    (fn_Spreading_step : PySem.W.isFn K (.ref a_Spreading_step) = true)
    (lk_Spreading_step : K.lookup a_Spreading_step = some ⟨oc_Spreading_step, od_Spreading_step, .func (PySem.W.fnOf "step" "Spreading.step" (defArgs s_Spreading_step) (defBody s_Spreading_step) (defScope s_Spreading_step) .none kV_Spreading_step dc_Spreading_step pm_Spreading_step an_Spreading_step cd_Spreading_step ct_Spreading_step), sl_Spreading_step⟩)
    (co_Spreading_step : PySem.W.codeIn K cd_Spreading_step "Spreading.step" = true)
    (ke_Spreading_step : PySem.W.keepIn K (.ref a_Spreading_step) = true)
    (na_Spreading_spread : PySem.W.findIn K (.ref C_Spreading) "spread" = some (some (.ref a_Spreading_spread)))
    (fn_Spreading_spread : PySem.W.isFn K (.ref a_Spreading_spread) = true)
    (lk_Spreading_spread : K.lookup a_Spreading_spread = some ⟨oc_Spreading_spread, od_Spreading_spread, .func (PySem.W.fnOf "spread" "Spreading.spread" (defArgs s_Spreading_spread) (defBody s_Spreading_spread) (defScope s_Spreading_spread) .none kV_Spreading_spread dc_Spreading_spread pm_Spreading_spread an_Spreading_spread cd_Spreading_spread ct_Spreading_spread), sl_Spreading_spread⟩)
    (co_Spreading_spread : PySem.W.codeIn K cd_Spreading_spread "Spreading.spread" = true)
    (ke_Spreading_spread : PySem.W.keepIn K (.ref a_Spreading_spread) = true)
    (na_Spreading_ring_from : PySem.W.findIn K (.ref C_Spreading) "ring_from" = some (some (.ref a_Spreading_ring_from)))
    (fn_Spreading_ring_from : PySem.W.isFn K (.ref a_Spreading_ring_from) = true)
    (lk_Spreading_ring_from : K.lookup a_Spreading_ring_from = some ⟨oc_Spreading_ring_from, od_Spreading_ring_from, .func (PySem.W.fnOf "ring_from" "Spreading.ring_from" (defArgs s_Spreading_ring_from) (defBody s_Spreading_ring_from) (defScope s_Spreading_ring_from) .none kV_Spreading_ring_from dc_Spreading_ring_from pm_Spreading_ring_from an_Spreading_ring_from cd_Spreading_ring_from ct_Spreading_ring_from), sl_Spreading_ring_from⟩)
    (co_Spreading_ring_from : PySem.W.codeIn K cd_Spreading_ring_from "Spreading.ring_from" = true)
    (ke_Spreading_ring_from : PySem.W.keepIn K (.ref a_Spreading_ring_from) = true)
    (na_holds_answer : PySem.W.nsIn K mainGlobals "holds_answer" = some (some (.ref a_holds_answer)))
    (lk_holds_answer : K.lookup a_holds_answer = some ⟨oc_holds_answer, od_holds_answer, .func (PySem.W.fnOf "holds_answer" "holds_answer" (defArgs s_holds_answer) (defBody s_holds_answer) (defScope s_holds_answer) .none kV_holds_answer dc_holds_answer pm_holds_answer an_holds_answer cd_holds_answer ct_holds_answer), sl_holds_answer⟩)
    (co_holds_answer : PySem.W.codeIn K cd_holds_answer "holds_answer" = true)
    (ke_holds_answer : PySem.W.keepIn K (.ref a_holds_answer) = true)
    (na_link_of : PySem.W.nsIn K mainGlobals "link_of" = some (some (.ref a_link_of)))
    (lk_link_of : K.lookup a_link_of = some ⟨oc_link_of, od_link_of, .func (PySem.W.fnOf "link_of" "link_of" (defArgs s_link_of) (defBody s_link_of) (defScope s_link_of) .none kV_link_of dc_link_of pm_link_of an_link_of cd_link_of ct_link_of), sl_link_of⟩)
    (co_link_of : PySem.W.codeIn K cd_link_of "link_of" = true)
    (ke_link_of : PySem.W.keepIn K (.ref a_link_of) = true)
    (na_least_minutes : PySem.W.nsIn K mainGlobals "least_minutes" = some (some (.ref a_least_minutes)))
    (lk_least_minutes : K.lookup a_least_minutes = some ⟨oc_least_minutes, od_least_minutes, .func (PySem.W.fnOf "least_minutes" "least_minutes" (defArgs s_least_minutes) (defBody s_least_minutes) (defScope s_least_minutes) .none kV_least_minutes dc_least_minutes pm_least_minutes an_least_minutes cd_least_minutes ct_least_minutes), sl_least_minutes⟩)
    (co_least_minutes : PySem.W.codeIn K cd_least_minutes "least_minutes" = true)
    (ke_least_minutes : PySem.W.keepIn K (.ref a_least_minutes) = true)
    (na_most_minutes : PySem.W.nsIn K mainGlobals "most_minutes" = some (some (.ref a_most_minutes)))
    (lk_most_minutes : K.lookup a_most_minutes = some ⟨oc_most_minutes, od_most_minutes, .func (PySem.W.fnOf "most_minutes" "most_minutes" (defArgs s_most_minutes) (defBody s_most_minutes) (defScope s_most_minutes) .none kV_most_minutes dc_most_minutes pm_most_minutes an_most_minutes cd_most_minutes ct_most_minutes), sl_most_minutes⟩)
    (co_most_minutes : PySem.W.codeIn K cd_most_minutes "most_minutes" = true)
    (ke_most_minutes : PySem.W.keepIn K (.ref a_most_minutes) = true)
    (na_are_stamps : PySem.W.nsIn K mainGlobals "are_stamps" = some (some (.ref a_are_stamps)))
    (lk_are_stamps : K.lookup a_are_stamps = some ⟨oc_are_stamps, od_are_stamps, .func (PySem.W.fnOf "are_stamps" "are_stamps" (defArgs s_are_stamps) (defBody s_are_stamps) (defScope s_are_stamps) .none kV_are_stamps dc_are_stamps pm_are_stamps an_are_stamps cd_are_stamps ct_are_stamps), sl_are_stamps⟩)
    (co_are_stamps : PySem.W.codeIn K cd_are_stamps "are_stamps" = true)
    (ke_are_stamps : PySem.W.keepIn K (.ref a_are_stamps) = true)
    (na_true_moment : PySem.W.nsIn K mainGlobals "true_moment" = some (some (.ref a_true_moment)))
    (lk_true_moment : K.lookup a_true_moment = some ⟨oc_true_moment, od_true_moment, .func (PySem.W.fnOf "true_moment" "true_moment" (defArgs s_true_moment) (defBody s_true_moment) (defScope s_true_moment) .none kV_true_moment dc_true_moment pm_true_moment an_true_moment cd_true_moment ct_true_moment), sl_true_moment⟩)
    (co_true_moment : PySem.W.codeIn K cd_true_moment "true_moment" = true)
    (ke_true_moment : PySem.W.keepIn K (.ref a_true_moment) = true)
    (na_clock_rules : PySem.W.nsIn K mainGlobals "clock_rules" = some (some (.ref a_clock_rules)))
    (lk_clock_rules : K.lookup a_clock_rules = some ⟨oc_clock_rules, od_clock_rules, .func (PySem.W.fnOf "clock_rules" "clock_rules" (defArgs s_clock_rules) (defBody s_clock_rules) (defScope s_clock_rules) .none kV_clock_rules dc_clock_rules pm_clock_rules an_clock_rules cd_clock_rules ct_clock_rules), sl_clock_rules⟩)
    (co_clock_rules : PySem.W.codeIn K cd_clock_rules "clock_rules" = true)
    (ke_clock_rules : PySem.W.keepIn K (.ref a_clock_rules) = true)
    (na_link_rules : PySem.W.nsIn K mainGlobals "link_rules" = some (some (.ref a_link_rules)))
    (lk_link_rules : K.lookup a_link_rules = some ⟨oc_link_rules, od_link_rules, .func (PySem.W.fnOf "link_rules" "link_rules" (defArgs s_link_rules) (defBody s_link_rules) (defScope s_link_rules) .none kV_link_rules dc_link_rules pm_link_rules an_link_rules cd_link_rules ct_link_rules), sl_link_rules⟩)
    (co_link_rules : PySem.W.codeIn K cd_link_rules "link_rules" = true)
    (ke_link_rules : PySem.W.keepIn K (.ref a_link_rules) = true)
    (na_stamp_web : PySem.W.nsIn K mainGlobals "stamp_web" = some (some (.ref a_stamp_web)))
    (lk_stamp_web : K.lookup a_stamp_web = some ⟨oc_stamp_web, od_stamp_web, .func (PySem.W.fnOf "stamp_web" "stamp_web" (defArgs s_stamp_web) (defBody s_stamp_web) (defScope s_stamp_web) .none kV_stamp_web dc_stamp_web pm_stamp_web an_stamp_web cd_stamp_web ct_stamp_web), sl_stamp_web⟩)
    (co_stamp_web : PySem.W.codeIn K cd_stamp_web "stamp_web" = true)
    (ke_stamp_web : PySem.W.keepIn K (.ref a_stamp_web) = true)
    (na_explain_answer : PySem.W.nsIn K mainGlobals "explain_answer" = some (some (.ref a_explain_answer)))
    (lk_explain_answer : K.lookup a_explain_answer = some ⟨oc_explain_answer, od_explain_answer, .func (PySem.W.fnOf "explain_answer" "explain_answer" (defArgs s_explain_answer) (defBody s_explain_answer) (defScope s_explain_answer) .none kV_explain_answer dc_explain_answer pm_explain_answer an_explain_answer cd_explain_answer ct_explain_answer), sl_explain_answer⟩)
    (co_explain_answer : PySem.W.codeIn K cd_explain_answer "explain_answer" = true)
    (ke_explain_answer : PySem.W.keepIn K (.ref a_explain_answer) = true)
    (na_shows_explained : PySem.W.nsIn K mainGlobals "shows_explained" = some (some (.ref a_shows_explained)))
    (lk_shows_explained : K.lookup a_shows_explained = some ⟨oc_shows_explained, od_shows_explained, .func (PySem.W.fnOf "shows_explained" "shows_explained" (defArgs s_shows_explained) (defBody s_shows_explained) (defScope s_shows_explained) .none kV_shows_explained dc_shows_explained pm_shows_explained an_shows_explained cd_shows_explained ct_shows_explained), sl_shows_explained⟩)
    (co_shows_explained : PySem.W.codeIn K cd_shows_explained "shows_explained" = true)
    (ke_shows_explained : PySem.W.keepIn K (.ref a_shows_explained) = true)
    (na_ClockWatch___init__ : PySem.W.findIn K (.ref C_ClockWatch) "__init__" = some (some (.ref a_ClockWatch___init__)))
    (fn_ClockWatch___init__ : PySem.W.isFn K (.ref a_ClockWatch___init__) = true)
    (lk_ClockWatch___init__ : K.lookup a_ClockWatch___init__ = some ⟨oc_ClockWatch___init__, od_ClockWatch___init__, .func (PySem.W.fnOf "__init__" "ClockWatch.__init__" (defArgs s_ClockWatch___init__) (defBody s_ClockWatch___init__) (defScope s_ClockWatch___init__) .none kV_ClockWatch___init__ dc_ClockWatch___init__ pm_ClockWatch___init__ an_ClockWatch___init__ cd_ClockWatch___init__ ct_ClockWatch___init__), sl_ClockWatch___init__⟩)
    (co_ClockWatch___init__ : PySem.W.codeIn K cd_ClockWatch___init__ "ClockWatch.__init__" = true)
    (ke_ClockWatch___init__ : PySem.W.keepIn K (.ref a_ClockWatch___init__) = true)
    (na_ClockWatch_stamped : PySem.W.findIn K (.ref C_ClockWatch) "stamped" = some (some (.ref a_ClockWatch_stamped)))
    (fn_ClockWatch_stamped : PySem.W.isFn K (.ref a_ClockWatch_stamped) = true)
    (lk_ClockWatch_stamped : K.lookup a_ClockWatch_stamped = some ⟨oc_ClockWatch_stamped, od_ClockWatch_stamped, .func (PySem.W.fnOf "stamped" "ClockWatch.stamped" (defArgs s_ClockWatch_stamped) (defBody s_ClockWatch_stamped) (defScope s_ClockWatch_stamped) .none kV_ClockWatch_stamped dc_ClockWatch_stamped pm_ClockWatch_stamped an_ClockWatch_stamped cd_ClockWatch_stamped ct_ClockWatch_stamped), sl_ClockWatch_stamped⟩)
    (co_ClockWatch_stamped : PySem.W.codeIn K cd_ClockWatch_stamped "ClockWatch.stamped" = true)
    (ke_ClockWatch_stamped : PySem.W.keepIn K (.ref a_ClockWatch_stamped) = true)
    (na_ClockWatch_tick : PySem.W.findIn K (.ref C_ClockWatch) "tick" = some (some (.ref a_ClockWatch_tick)))
    (fn_ClockWatch_tick : PySem.W.isFn K (.ref a_ClockWatch_tick) = true)
    (lk_ClockWatch_tick : K.lookup a_ClockWatch_tick = some ⟨oc_ClockWatch_tick, od_ClockWatch_tick, .func (PySem.W.fnOf "tick" "ClockWatch.tick" (defArgs s_ClockWatch_tick) (defBody s_ClockWatch_tick) (defScope s_ClockWatch_tick) .none kV_ClockWatch_tick dc_ClockWatch_tick pm_ClockWatch_tick an_ClockWatch_tick cd_ClockWatch_tick ct_ClockWatch_tick), sl_ClockWatch_tick⟩)
    (co_ClockWatch_tick : PySem.W.codeIn K cd_ClockWatch_tick "ClockWatch.tick" = true)
    (ke_ClockWatch_tick : PySem.W.keepIn K (.ref a_ClockWatch_tick) = true)
    (na_ClockWatch_begin : PySem.W.findIn K (.ref C_ClockWatch) "begin" = some (some (.ref a_ClockWatch_begin)))
    (fn_ClockWatch_begin : PySem.W.isFn K (.ref a_ClockWatch_begin) = true)
    (lk_ClockWatch_begin : K.lookup a_ClockWatch_begin = some ⟨oc_ClockWatch_begin, od_ClockWatch_begin, .func (PySem.W.fnOf "begin" "ClockWatch.begin" (defArgs s_ClockWatch_begin) (defBody s_ClockWatch_begin) (defScope s_ClockWatch_begin) .none kV_ClockWatch_begin dc_ClockWatch_begin pm_ClockWatch_begin an_ClockWatch_begin cd_ClockWatch_begin ct_ClockWatch_begin), sl_ClockWatch_begin⟩)
    (co_ClockWatch_begin : PySem.W.codeIn K cd_ClockWatch_begin "ClockWatch.begin" = true)
    (ke_ClockWatch_begin : PySem.W.keepIn K (.ref a_ClockWatch_begin) = true)
    (na_ClockWatch_answer : PySem.W.findIn K (.ref C_ClockWatch) "answer" = some (some (.ref a_ClockWatch_answer)))
    (fn_ClockWatch_answer : PySem.W.isFn K (.ref a_ClockWatch_answer) = true)
    (lk_ClockWatch_answer : K.lookup a_ClockWatch_answer = some ⟨oc_ClockWatch_answer, od_ClockWatch_answer, .func (PySem.W.fnOf "answer" "ClockWatch.answer" (defArgs s_ClockWatch_answer) (defBody s_ClockWatch_answer) (defScope s_ClockWatch_answer) .none kV_ClockWatch_answer dc_ClockWatch_answer pm_ClockWatch_answer an_ClockWatch_answer cd_ClockWatch_answer ct_ClockWatch_answer), sl_ClockWatch_answer⟩)
    (co_ClockWatch_answer : PySem.W.codeIn K cd_ClockWatch_answer "ClockWatch.answer" = true)
    (ke_ClockWatch_answer : PySem.W.keepIn K (.ref a_ClockWatch_answer) = true)
    (na_ClockWatch_seen : PySem.W.findIn K (.ref C_ClockWatch) "seen" = some (some (.ref a_ClockWatch_seen)))
    (fn_ClockWatch_seen : PySem.W.isFn K (.ref a_ClockWatch_seen) = true)
    (lk_ClockWatch_seen : K.lookup a_ClockWatch_seen = some ⟨oc_ClockWatch_seen, od_ClockWatch_seen, .func (PySem.W.fnOf "seen" "ClockWatch.seen" (defArgs s_ClockWatch_seen) (defBody s_ClockWatch_seen) (defScope s_ClockWatch_seen) .none kV_ClockWatch_seen dc_ClockWatch_seen pm_ClockWatch_seen an_ClockWatch_seen cd_ClockWatch_seen ct_ClockWatch_seen), sl_ClockWatch_seen⟩)
    (co_ClockWatch_seen : PySem.W.codeIn K cd_ClockWatch_seen "ClockWatch.seen" = true)
    (ke_ClockWatch_seen : PySem.W.keepIn K (.ref a_ClockWatch_seen) = true)
    (na__law_deal : PySem.W.nsIn K mainGlobals "_law_deal" = some (some (.ref a__law_deal)))
    (lk__law_deal : K.lookup a__law_deal = some ⟨oc__law_deal, od__law_deal, .func (PySem.W.fnOf "_law_deal" "_law_deal" (defArgs s__law_deal) (defBody s__law_deal) (defScope s__law_deal) .none kV__law_deal dc__law_deal pm__law_deal an__law_deal cd__law_deal ct__law_deal), sl__law_deal⟩)
    (co__law_deal : PySem.W.codeIn K cd__law_deal "_law_deal" = true)
    (ke__law_deal : PySem.W.keepIn K (.ref a__law_deal) = true)
    (na__law_take : PySem.W.nsIn K mainGlobals "_law_take" = some (some (.ref a__law_take)))
    (lk__law_take : K.lookup a__law_take = some ⟨oc__law_take, od__law_take, .func (PySem.W.fnOf "_law_take" "_law_take" (defArgs s__law_take) (defBody s__law_take) (defScope s__law_take) .none kV__law_take dc__law_take pm__law_take an__law_take cd__law_take ct__law_take), sl__law_take⟩)
    (co__law_take : PySem.W.codeIn K cd__law_take "_law_take" = true)
    (ke__law_take : PySem.W.keepIn K (.ref a__law_take) = true)
    (na__law_same : PySem.W.nsIn K mainGlobals "_law_same" = some (some (.ref a__law_same)))
    (lk__law_same : K.lookup a__law_same = some ⟨oc__law_same, od__law_same, .func (PySem.W.fnOf "_law_same" "_law_same" (defArgs s__law_same) (defBody s__law_same) (defScope s__law_same) .none kV__law_same dc__law_same pm__law_same an__law_same cd__law_same ct__law_same), sl__law_same⟩)
    (co__law_same : PySem.W.codeIn K cd__law_same "_law_same" = true)
    (ke__law_same : PySem.W.keepIn K (.ref a__law_same) = true)
    (na__law_bool : PySem.W.nsIn K mainGlobals "_law_bool" = some (some (.ref a__law_bool)))
    (lk__law_bool : K.lookup a__law_bool = some ⟨oc__law_bool, od__law_bool, .func (PySem.W.fnOf "_law_bool" "_law_bool" (defArgs s__law_bool) (defBody s__law_bool) (defScope s__law_bool) .none kV__law_bool dc__law_bool pm__law_bool an__law_bool cd__law_bool ct__law_bool), sl__law_bool⟩)
    (co__law_bool : PySem.W.codeIn K cd__law_bool "_law_bool" = true)
    (ke__law_bool : PySem.W.keepIn K (.ref a__law_bool) = true)
    (na__law_seen_web : PySem.W.nsIn K mainGlobals "_law_seen_web" = some (some (.ref a__law_seen_web)))
    (lk__law_seen_web : K.lookup a__law_seen_web = some ⟨oc__law_seen_web, od__law_seen_web, .func (PySem.W.fnOf "_law_seen_web" "_law_seen_web" (defArgs s__law_seen_web) (defBody s__law_seen_web) (defScope s__law_seen_web) .none kV__law_seen_web dc__law_seen_web pm__law_seen_web an__law_seen_web cd__law_seen_web ct__law_seen_web), sl__law_seen_web⟩)
    (co__law_seen_web : PySem.W.codeIn K cd__law_seen_web "_law_seen_web" = true)
    (ke__law_seen_web : PySem.W.keepIn K (.ref a__law_seen_web) = true)
    (na__law_kind : PySem.W.nsIn K mainGlobals "_law_kind" = some (some (.ref a__law_kind)))
    (lk__law_kind : K.lookup a__law_kind = some ⟨oc__law_kind, od__law_kind, .func (PySem.W.fnOf "_law_kind" "_law_kind" (defArgs s__law_kind) (defBody s__law_kind) (defScope s__law_kind) .none kV__law_kind dc__law_kind pm__law_kind an__law_kind cd__law_kind ct__law_kind), sl__law_kind⟩)
    (co__law_kind : PySem.W.codeIn K cd__law_kind "_law_kind" = true)
    (ke__law_kind : PySem.W.keepIn K (.ref a__law_kind) = true)
    (na__law_low : PySem.W.nsIn K mainGlobals "_law_low" = some (some (.ref a__law_low)))
    (lk__law_low : K.lookup a__law_low = some ⟨oc__law_low, od__law_low, .func (PySem.W.fnOf "_law_low" "_law_low" (defArgs s__law_low) (defBody s__law_low) (defScope s__law_low) .none kV__law_low dc__law_low pm__law_low an__law_low cd__law_low ct__law_low), sl__law_low⟩)
    (co__law_low : PySem.W.codeIn K cd__law_low "_law_low" = true)
    (ke__law_low : PySem.W.keepIn K (.ref a__law_low) = true)
    (na__law_high : PySem.W.nsIn K mainGlobals "_law_high" = some (some (.ref a__law_high)))
    (lk__law_high : K.lookup a__law_high = some ⟨oc__law_high, od__law_high, .func (PySem.W.fnOf "_law_high" "_law_high" (defArgs s__law_high) (defBody s__law_high) (defScope s__law_high) .none kV__law_high dc__law_high pm__law_high an__law_high cd__law_high ct__law_high), sl__law_high⟩)
    (co__law_high : PySem.W.codeIn K cd__law_high "_law_high" = true)
    (ke__law_high : PySem.W.keepIn K (.ref a__law_high) = true)
    (na__law_clock : PySem.W.nsIn K mainGlobals "_law_clock" = some (some (.ref a__law_clock)))
    (lk__law_clock : K.lookup a__law_clock = some ⟨oc__law_clock, od__law_clock, .func (PySem.W.fnOf "_law_clock" "_law_clock" (defArgs s__law_clock) (defBody s__law_clock) (defScope s__law_clock) .none kV__law_clock dc__law_clock pm__law_clock an__law_clock cd__law_clock ct__law_clock), sl__law_clock⟩)
    (co__law_clock : PySem.W.codeIn K cd__law_clock "_law_clock" = true)
    (ke__law_clock : PySem.W.keepIn K (.ref a__law_clock) = true)
    (na__law_refuses : PySem.W.nsIn K mainGlobals "_law_refuses" = some (some (.ref a__law_refuses)))
    (lk__law_refuses : K.lookup a__law_refuses = some ⟨oc__law_refuses, od__law_refuses, .func (PySem.W.fnOf "_law_refuses" "_law_refuses" (defArgs s__law_refuses) (defBody s__law_refuses) (defScope s__law_refuses) .none kV__law_refuses dc__law_refuses pm__law_refuses an__law_refuses cd__law_refuses ct__law_refuses), sl__law_refuses⟩)
    (co__law_refuses : PySem.W.codeIn K cd__law_refuses "_law_refuses" = true)
    (ke__law_refuses : PySem.W.keepIn K (.ref a__law_refuses) = true)
    (na__law_may_tick : PySem.W.nsIn K mainGlobals "_law_may_tick" = some (some (.ref a__law_may_tick)))
    (lk__law_may_tick : K.lookup a__law_may_tick = some ⟨oc__law_may_tick, od__law_may_tick, .func (PySem.W.fnOf "_law_may_tick" "_law_may_tick" (defArgs s__law_may_tick) (defBody s__law_may_tick) (defScope s__law_may_tick) .none kV__law_may_tick dc__law_may_tick pm__law_may_tick an__law_may_tick cd__law_may_tick ct__law_may_tick), sl__law_may_tick⟩)
    (co__law_may_tick : PySem.W.codeIn K cd__law_may_tick "_law_may_tick" = true)
    (ke__law_may_tick : PySem.W.keepIn K (.ref a__law_may_tick) = true)
    (na__law_wrong : PySem.W.nsIn K mainGlobals "_law_wrong" = some (some (.ref a__law_wrong)))
    (lk__law_wrong : K.lookup a__law_wrong = some ⟨oc__law_wrong, od__law_wrong, .func (PySem.W.fnOf "_law_wrong" "_law_wrong" (defArgs s__law_wrong) (defBody s__law_wrong) (defScope s__law_wrong) .none kV__law_wrong dc__law_wrong pm__law_wrong an__law_wrong cd__law_wrong ct__law_wrong), sl__law_wrong⟩)
    (co__law_wrong : PySem.W.codeIn K cd__law_wrong "_law_wrong" = true)
    (ke__law_wrong : PySem.W.keepIn K (.ref a__law_wrong) = true)
    (na__law_told : PySem.W.nsIn K mainGlobals "_law_told" = some (some (.ref a__law_told)))
    (lk__law_told : K.lookup a__law_told = some ⟨oc__law_told, od__law_told, .func (PySem.W.fnOf "_law_told" "_law_told" (defArgs s__law_told) (defBody s__law_told) (defScope s__law_told) .none kV__law_told dc__law_told pm__law_told an__law_told cd__law_told ct__law_told), sl__law_told⟩)
    (co__law_told : PySem.W.codeIn K cd__law_told "_law_told" = true)
    (ke__law_told : PySem.W.keepIn K (.ref a__law_told) = true)
    (na__law_ended : PySem.W.nsIn K mainGlobals "_law_ended" = some (some (.ref a__law_ended)))
    (lk__law_ended : K.lookup a__law_ended = some ⟨oc__law_ended, od__law_ended, .func (PySem.W.fnOf "_law_ended" "_law_ended" (defArgs s__law_ended) (defBody s__law_ended) (defScope s__law_ended) .none kV__law_ended dc__law_ended pm__law_ended an__law_ended cd__law_ended ct__law_ended), sl__law_ended⟩)
    (co__law_ended : PySem.W.codeIn K cd__law_ended "_law_ended" = true)
    (ke__law_ended : PySem.W.keepIn K (.ref a__law_ended) = true)
    (na__law_day : PySem.W.nsIn K mainGlobals "_law_day" = some (some (.ref a__law_day)))
    (lk__law_day : K.lookup a__law_day = some ⟨oc__law_day, od__law_day, .func (PySem.W.fnOf "_law_day" "_law_day" (defArgs s__law_day) (defBody s__law_day) (defScope s__law_day) .none kV__law_day dc__law_day pm__law_day an__law_day cd__law_day ct__law_day), sl__law_day⟩)
    (co__law_day : PySem.W.codeIn K cd__law_day "_law_day" = true)
    (ke__law_day : PySem.W.keepIn K (.ref a__law_day) = true)
    (na_law : PySem.W.nsIn K mainGlobals "law" = some (some (.ref a_law)))
    (lk_law : K.lookup a_law = some ⟨oc_law, od_law, .func (PySem.W.fnOf "law" "law" (defArgs s_law) (defBody s_law) (defScope s_law) .none kV_law dc_law pm_law an_law cd_law ct_law), sl_law⟩)
    (co_law : PySem.W.codeIn K cd_law "law" = true)
    (ke_law : PySem.W.keepIn K (.ref a_law) = true)
    (z_abs : PySem.W.nsIn K mainGlobals "abs" = some none)
    (z_bool : PySem.W.nsIn K mainGlobals "bool" = some none)
    (z_enumerate : PySem.W.nsIn K mainGlobals "enumerate" = some none)
    (z_int : PySem.W.nsIn K mainGlobals "int" = some none)
    (z_isinstance : PySem.W.nsIn K mainGlobals "isinstance" = some none)
    (z_len : PySem.W.nsIn K mainGlobals "len" = some none)
    (z_list : PySem.W.nsIn K mainGlobals "list" = some none)
    (z_max : PySem.W.nsIn K mainGlobals "max" = some none)
    (z_min : PySem.W.nsIn K mainGlobals "min" = some none)
    (z_range : PySem.W.nsIn K mainGlobals "range" = some none)
    (z_set : PySem.W.nsIn K mainGlobals "set" = some none)
    (z_sorted : PySem.W.nsIn K mainGlobals "sorted" = some none)
    (z_str : PySem.W.nsIn K mainGlobals "str" = some none)
    (z_sum : PySem.W.nsIn K mainGlobals "sum" = some none)
    (z_tuple : PySem.W.nsIn K mainGlobals "tuple" = some none)
    (z_zip : PySem.W.nsIn K mainGlobals "zip" = some none)
    (c_EXPLAINED : PySem.W.nsIn K mainGlobals "EXPLAINED" = some (some (.str "explained" t_EXPLAINED)))
    (c_HOLDS : PySem.W.nsIn K mainGlobals "HOLDS" = some (some (.str "holds" t_HOLDS)))
    (c_RING : PySem.W.nsIn K mainGlobals "RING" = some (some (.str "ring" t_RING)))
    (c_STRANGE : PySem.W.nsIn K mainGlobals "STRANGE" = some (some (.str "strange" t_STRANGE)))
    (law_true : ∀ ns : List Int, ns.length ≤ 63 → ∃ κ, f_law [.rol (ns.map DL.D.int)] [] = some (.ok (.bl true), κ)) :
    ∃ fd : FuncData, (∀ (s : Shared) (v : Value), BindsTo s fd ⟨[v], []⟩ [("script", v)]) ∧ ∀ base : Heap, K.In base → base.Ns mainGlobals mg → FnOk l.prog w K mg base CX0 16 fa fd ["script"] (spA K f_law) := by
  have e := hfa.symm.trans (PySem.W.mg_of X G na_law)
  cases e
  have T : Txt mg K ⟨fun n => if n = 0 then C_Spreading else if n = 1 then C_ClockWatch else 0, fun n => if n = 0 then X_DayError else if n = 1 then X_NotLet else if n = 2 then X_BadDeed else 0⟩ := ⟨PySem.W.mg_none_of X G z_abs, PySem.W.mg_none_of X G z_bool, PySem.W.mg_none_of X G z_enumerate, PySem.W.mg_none_of X G z_int, PySem.W.mg_none_of X G z_isinstance, PySem.W.mg_none_of X G z_len, PySem.W.mg_none_of X G z_list, PySem.W.mg_none_of X G z_max, PySem.W.mg_none_of X G z_min, PySem.W.mg_none_of X G z_range, PySem.W.mg_none_of X G z_set, PySem.W.mg_none_of X G z_sorted, PySem.W.mg_none_of X G z_str, PySem.W.mg_none_of X G z_sum, PySem.W.mg_none_of X G z_tuple, PySem.W.mg_none_of X G z_zip, ⟨_, PySem.W.mg_of X G c_EXPLAINED⟩, ⟨_, PySem.W.mg_of X G c_HOLDS⟩, ⟨_, PySem.W.mg_of X G c_RING⟩, ⟨_, PySem.W.mg_of X G c_STRANGE⟩, ⟨pg_Spreading, hd_Spreading, po_Spreading, sa_Spreading⟩, ⟨pg_ClockWatch, hd_ClockWatch, po_ClockWatch, sa_ClockWatch⟩, nf_ClockWatch_kind, nf_ClockWatch_last, nf_ClockWatch_stamps, nf_ClockWatch_told, nf_ClockWatch_web, nf_Spreading_far, nf_Spreading_last, nf_Spreading_web, ⟨PySem.W.mg_of X G ne_DayError, xe_DayError, xk_DayError, xb_DayError, xt_DayError⟩, xd_DayError, ⟨PySem.W.mg_of X G ne_NotLet, xe_NotLet, xk_NotLet, xb_NotLet, xt_NotLet⟩, xd_NotLet, ⟨PySem.W.mg_of X G ne_BadDeed, xe_BadDeed, xk_BadDeed, xb_BadDeed, xt_BadDeed⟩, xd_BadDeed, ⟨xg_BadDeed, xa_BadDeed, xb_BadDeed, xd_BadDeed, xc_BadDeed, x_sp, x_tk, xm_BadDeed⟩, sb_BadDeed_BadDeed, sb_BadDeed_DayError, sb_BadDeed_NotLet, trivial⟩
  have F_keeps_rule := fun_mk (st := s_keeps_rule) lk_keeps_rule co_keeps_rule ke_keeps_rule
  have b_keeps_rule := F_keeps_rule.binds (ps := ["times", "rule"]) fun _ _ _ _ _ _ us hl => match us, hl with | [_, _], _ => rfl
  have F_keeps := fun_mk (st := s_keeps) lk_keeps co_keeps ke_keeps
  have b_keeps := F_keeps.binds (ps := ["web", "times"]) fun _ _ _ _ _ _ us hl => match us, hl with | [_, _], _ => rfl
  have F_shifted := fun_mk (st := s_shifted) lk_shifted co_shifted ke_shifted
  have b_shifted := F_shifted.binds (ps := ["times"]) fun _ _ _ _ _ _ us hl => match us, hl with | [_], _ => rfl
  have F_is_walk := fun_mk (st := s_is_walk) lk_is_walk co_is_walk ke_is_walk
  have b_is_walk := F_is_walk.binds (ps := ["web", "walk"]) fun _ _ _ _ _ _ us hl => match us, hl with | [_, _], _ => rfl
  have F_length := fun_mk (st := s_length) lk_length co_length ke_length
  have b_length := F_length.binds (ps := ["web", "walk"]) fun _ _ _ _ _ _ us hl => match us, hl with | [_, _], _ => rfl
  have F_ends_of := fun_mk (st := s_ends_of) lk_ends_of co_ends_of ke_ends_of
  have b_ends_of := F_ends_of.binds (ps := ["web", "walk"]) fun _ _ _ _ _ _ us hl => match us, hl with | [_, _], _ => rfl
  have F_is_bad_ring := fun_mk (st := s_is_bad_ring) lk_is_bad_ring co_is_bad_ring ke_is_bad_ring
  have b_is_bad_ring := F_is_bad_ring.binds (ps := ["web", "walk"]) fun _ _ _ _ _ _ us hl => match us, hl with | [_, _], _ => rfl
  have F_Spreading___init__ := fun_mk (st := s_Spreading___init__) lk_Spreading___init__ co_Spreading___init__ ke_Spreading___init__
  have b_Spreading___init__ := F_Spreading___init__.binds (ps := ["self", "web", "firsts"]) fun _ _ _ _ _ _ us hl => match us, hl with | [_, _, _], _ => rfl
  have F_Spreading_step := fun_mk (st := s_Spreading_step) lk_Spreading_step co_Spreading_step ke_Spreading_step
  have b_Spreading_step := F_Spreading_step.binds (ps := ["self"]) fun _ _ _ _ _ _ us hl => match us, hl with | [_], _ => rfl
  have F_Spreading_spread := fun_mk (st := s_Spreading_spread) lk_Spreading_spread co_Spreading_spread ke_Spreading_spread
  have b_Spreading_spread := F_Spreading_spread.binds (ps := ["self"]) fun _ _ _ _ _ _ us hl => match us, hl with | [_], _ => rfl
  have F_Spreading_ring_from := fun_mk (st := s_Spreading_ring_from) lk_Spreading_ring_from co_Spreading_ring_from ke_Spreading_ring_from
  have b_Spreading_ring_from := F_Spreading_ring_from.binds (ps := ["self", "moment"]) fun _ _ _ _ _ _ us hl => match us, hl with | [_, _], _ => rfl
  have F_holds_answer := fun_mk (st := s_holds_answer) lk_holds_answer co_holds_answer ke_holds_answer
  have b_holds_answer := F_holds_answer.binds (ps := ["web"]) fun _ _ _ _ _ _ us hl => match us, hl with | [_], _ => rfl
  have F_link_of := fun_mk (st := s_link_of) lk_link_of co_link_of ke_link_of
  have b_link_of := F_link_of.binds (ps := ["web", "moment"]) fun _ _ _ _ _ _ us hl => match us, hl with | [_, _], _ => rfl
  have F_least_minutes := fun_mk (st := s_least_minutes) lk_least_minutes co_least_minutes ke_least_minutes
  have b_least_minutes := F_least_minutes.binds (ps := ["kind", "ticks"]) fun _ _ _ _ _ _ us hl => match us, hl with | [_, _], _ => rfl
  have F_most_minutes := fun_mk (st := s_most_minutes) lk_most_minutes co_most_minutes ke_most_minutes
  have b_most_minutes := F_most_minutes.binds (ps := ["kind", "ticks"]) fun _ _ _ _ _ _ us hl => match us, hl with | [_, _], _ => rfl
  have F_are_stamps := fun_mk (st := s_are_stamps) lk_are_stamps co_are_stamps ke_are_stamps
  have b_are_stamps := F_are_stamps.binds (ps := ["web", "stamps", "last"]) fun _ _ _ _ _ _ us hl => match us, hl with | [_, _, _], _ => rfl
  have F_true_moment := fun_mk (st := s_true_moment) lk_true_moment co_true_moment ke_true_moment
  have b_true_moment := F_true_moment.binds (ps := ["web", "stamps", "last", "k"]) fun _ _ _ _ _ _ us hl => match us, hl with | [_, _, _, _], _ => rfl
  have F_clock_rules := fun_mk (st := s_clock_rules) lk_clock_rules co_clock_rules ke_clock_rules
  have b_clock_rules := F_clock_rules.binds (ps := ["kind", "last"]) fun _ _ _ _ _ _ us hl => match us, hl with | [_, _], _ => rfl
  have F_link_rules := fun_mk (st := s_link_rules) lk_link_rules co_link_rules ke_link_rules
  have b_link_rules := F_link_rules.binds (ps := ["web", "stamps", "last", "b"]) fun _ _ _ _ _ _ us hl => match us, hl with | [_, _, _, _], _ => rfl
  have F_stamp_web := fun_mk (st := s_stamp_web) lk_stamp_web co_stamp_web ke_stamp_web
  have b_stamp_web := F_stamp_web.binds (ps := ["web", "kind", "stamps", "last"]) fun _ _ _ _ _ _ us hl => match us, hl with | [_, _, _, _], _ => rfl
  have F_explain_answer := fun_mk (st := s_explain_answer) lk_explain_answer co_explain_answer ke_explain_answer
  have b_explain_answer := F_explain_answer.binds (ps := ["web", "kind", "stamps", "last"]) fun _ _ _ _ _ _ us hl => match us, hl with | [_, _, _, _], _ => rfl
  have F_shows_explained := fun_mk (st := s_shows_explained) lk_shows_explained co_shows_explained ke_shows_explained
  have b_shows_explained := F_shows_explained.binds (ps := ["web", "kind", "stamps", "last", "answer"]) fun _ _ _ _ _ _ us hl => match us, hl with | [_, _, _, _, _], _ => rfl
  have F_ClockWatch___init__ := fun_mk (st := s_ClockWatch___init__) lk_ClockWatch___init__ co_ClockWatch___init__ ke_ClockWatch___init__
  have b_ClockWatch___init__ := F_ClockWatch___init__.binds (ps := ["self", "web", "kind"]) fun _ _ _ _ _ _ us hl => match us, hl with | [_, _, _], _ => rfl
  have F_ClockWatch_stamped := fun_mk (st := s_ClockWatch_stamped) lk_ClockWatch_stamped co_ClockWatch_stamped ke_ClockWatch_stamped
  have b_ClockWatch_stamped := F_ClockWatch_stamped.binds (ps := ["self", "moments", "last"]) fun _ _ _ _ _ _ us hl => match us, hl with | [_, _, _], _ => rfl
  have F_ClockWatch_tick := fun_mk (st := s_ClockWatch_tick) lk_ClockWatch_tick co_ClockWatch_tick ke_ClockWatch_tick
  have b_ClockWatch_tick := F_ClockWatch_tick.binds (ps := ["self", "ended"]) fun _ _ _ _ _ _ us hl => match us, hl with | [_, _], _ => rfl
  have F_ClockWatch_begin := fun_mk (st := s_ClockWatch_begin) lk_ClockWatch_begin co_ClockWatch_begin ke_ClockWatch_begin
  have b_ClockWatch_begin := F_ClockWatch_begin.binds (ps := ["self", "begun"]) fun _ _ _ _ _ _ us hl => match us, hl with | [_, _], _ => rfl
  have F_ClockWatch_answer := fun_mk (st := s_ClockWatch_answer) lk_ClockWatch_answer co_ClockWatch_answer ke_ClockWatch_answer
  have b_ClockWatch_answer := F_ClockWatch_answer.binds (ps := ["self"]) fun _ _ _ _ _ _ us hl => match us, hl with | [_], _ => rfl
  have F_ClockWatch_seen := fun_mk (st := s_ClockWatch_seen) lk_ClockWatch_seen co_ClockWatch_seen ke_ClockWatch_seen
  have b_ClockWatch_seen := F_ClockWatch_seen.binds (ps := ["self"]) fun _ _ _ _ _ _ us hl => match us, hl with | [_], _ => rfl
  have F__law_deal := fun_mk (st := s__law_deal) lk__law_deal co__law_deal ke__law_deal
  have b__law_deal := F__law_deal.binds (ps := ["script"]) fun _ _ _ _ _ _ us hl => match us, hl with | [_], _ => rfl
  have F__law_take := fun_mk (st := s__law_take) lk__law_take co__law_take ke__law_take
  have b__law_take := F__law_take.binds (ps := ["deal", "many"]) fun _ _ _ _ _ _ us hl => match us, hl with | [_, _], _ => rfl
  have F__law_same := fun_mk (st := s__law_same) lk__law_same co__law_same ke__law_same
  have b__law_same := F__law_same.binds (ps := ["a", "b"]) fun _ _ _ _ _ _ us hl => match us, hl with | [_, _], _ => rfl
  have F__law_bool := fun_mk (st := s__law_bool) lk__law_bool co__law_bool ke__law_bool
  have b__law_bool := F__law_bool.binds (ps := ["answer", "due"]) fun _ _ _ _ _ _ us hl => match us, hl with | [_, _], _ => rfl
  have F__law_seen_web := fun_mk (st := s__law_seen_web) lk__law_seen_web co__law_seen_web ke__law_seen_web
  have b__law_seen_web := F__law_seen_web.binds (ps := ["deal", "many"]) fun _ _ _ _ _ _ us hl => match us, hl with | [_, _], _ => rfl
  have F__law_kind := fun_mk (st := s__law_kind) lk__law_kind co__law_kind ke__law_kind
  have b__law_kind := F__law_kind.binds (ps := ["deal"]) fun _ _ _ _ _ _ us hl => match us, hl with | [_], _ => rfl
  have F__law_low := fun_mk (st := s__law_low) lk__law_low co__law_low ke__law_low
  have b__law_low := F__law_low.binds (ps := ["kind", "ticks"]) fun _ _ _ _ _ _ us hl => match us, hl with | [_, _], _ => rfl
  have F__law_high := fun_mk (st := s__law_high) lk__law_high co__law_high ke__law_high
  have b__law_high := F__law_high.binds (ps := ["kind", "ticks"]) fun _ _ _ _ _ _ us hl => match us, hl with | [_, _], _ => rfl
  have F__law_clock := fun_mk (st := s__law_clock) lk__law_clock co__law_clock ke__law_clock
  have b__law_clock := F__law_clock.binds (ps := ["deal", "kind", "last"]) fun _ _ _ _ _ _ us hl => match us, hl with | [_, _, _], _ => rfl
  have F__law_refuses := fun_mk (st := s__law_refuses) lk__law_refuses co__law_refuses ke__law_refuses
  have b__law_refuses := F__law_refuses.binds (ps := ["watch", "word", "moments"]) fun _ _ _ _ _ _ us hl => match us, hl with | [_, _, _], _ => rfl
  have F__law_may_tick := fun_mk (st := s__law_may_tick) lk__law_may_tick co__law_may_tick ke__law_may_tick
  have b__law_may_tick := F__law_may_tick.binds (ps := ["web", "stamps", "last", "ended"]) fun _ _ _ _ _ _ us hl => match us, hl with | [_, _, _, _], _ => rfl
  have F__law_wrong := fun_mk (st := s__law_wrong) lk__law_wrong co__law_wrong ke__law_wrong
  have b__law_wrong := F__law_wrong.binds (ps := ["deal", "watch", "web", "stamps", "last"]) fun _ _ _ _ _ _ us hl => match us, hl with | [_, _, _, _, _], _ => rfl
  have F__law_told := fun_mk (st := s__law_told) lk__law_told co__law_told ke__law_told
  have b__law_told := F__law_told.binds (ps := ["deal", "watch", "web", "kind", "stamps", "last", "ended", "begun"]) fun _ _ _ _ _ _ us hl => match us, hl with | [_, _, _, _, _, _, _, _], _ => rfl
  have F__law_ended := fun_mk (st := s__law_ended) lk__law_ended co__law_ended ke__law_ended
  have b__law_ended := F__law_ended.binds (ps := ["deal", "web", "clock", "tick", "state"]) fun _ _ _ _ _ _ us hl => match us, hl with | [_, _, _, _, _], _ => rfl
  have F__law_day := fun_mk (st := s__law_day) lk__law_day co__law_day ke__law_day
  have b__law_day := F__law_day.binds (ps := ["deal", "web", "kind", "clock", "is_true", "watches"]) fun _ _ _ _ _ _ us hl => match us, hl with | [_, _, _, _, _, _], _ => rfl
  have F_law := fun_mk (st := s_law) lk_law co_law ke_law
  have b_law := F_law.binds (ps := ["script"]) fun _ _ _ _ _ _ us hl => match us, hl with | [_], _ => rfl
  refine ⟨PySem.W.fnOf "law" "law" (defArgs s_law) (defBody s_law) (defScope s_law) .none kV_law dc_law pm_law an_law cd_law ct_law, fun s v => .of_eq rfl, fun base _ _ => ?_⟩
  have G_keeps_rule := ok_keeps_rule (P := l.prog) (w := w) (base := base) T  F_keeps_rule b_keeps_rule (PySem.W.mg_of X G na_keeps_rule)
  have G_keeps := ok_keeps (P := l.prog) (w := w) (base := base) T G_keeps_rule F_keeps b_keeps (PySem.W.mg_of X G na_keeps)
  have G_shifted := ok_shifted (P := l.prog) (w := w) (base := base) T  F_shifted b_shifted (PySem.W.mg_of X G na_shifted)
  have G_is_walk := ok_is_walk (P := l.prog) (w := w) (base := base) T  F_is_walk b_is_walk (PySem.W.mg_of X G na_is_walk)
  have G_length := ok_length (P := l.prog) (w := w) (base := base) T  F_length b_length (PySem.W.mg_of X G na_length)
  have G_ends_of := ok_ends_of (P := l.prog) (w := w) (base := base) T  F_ends_of b_ends_of (PySem.W.mg_of X G na_ends_of)
  have G_is_bad_ring := ok_is_bad_ring (P := l.prog) (w := w) (base := base) T G_is_walk G_ends_of G_length F_is_bad_ring b_is_bad_ring (PySem.W.mg_of X G na_is_bad_ring)
  have G_Spreading___init__ := ok_Spreading___init__ (P := l.prog) (w := w) (base := base) T  F_Spreading___init__ b_Spreading___init__ ⟨mk_Spreading, na_Spreading___init__, fn_Spreading___init__, kc_Spreading⟩ (PySem.W.mg_of X G nc_Spreading)
  have G_Spreading_step := ok_Spreading_step (P := l.prog) (w := w) (base := base) T  F_Spreading_step b_Spreading_step ⟨na_Spreading_step, fn_Spreading_step, ke_Spreading_step⟩
  have G_Spreading_spread := ok_Spreading_spread (P := l.prog) (w := w) (base := base) T G_Spreading_step F_Spreading_spread b_Spreading_spread ⟨na_Spreading_spread, fn_Spreading_spread, ke_Spreading_spread⟩
  have G_Spreading_ring_from := ok_Spreading_ring_from (P := l.prog) (w := w) (base := base) T  F_Spreading_ring_from b_Spreading_ring_from ⟨na_Spreading_ring_from, fn_Spreading_ring_from, ke_Spreading_ring_from⟩
  have G_holds_answer := ok_holds_answer (P := l.prog) (w := w) (base := base) T G_Spreading___init__ G_Spreading_spread G_Spreading_ring_from G_shifted F_holds_answer b_holds_answer (PySem.W.mg_of X G na_holds_answer)
  have G_link_of := ok_link_of (P := l.prog) (w := w) (base := base) T  F_link_of b_link_of (PySem.W.mg_of X G na_link_of)
  have G_least_minutes := ok_least_minutes (P := l.prog) (w := w) (base := base) T  F_least_minutes b_least_minutes (PySem.W.mg_of X G na_least_minutes)
  have G_most_minutes := ok_most_minutes (P := l.prog) (w := w) (base := base) T  F_most_minutes b_most_minutes (PySem.W.mg_of X G na_most_minutes)
  have G_are_stamps := ok_are_stamps (P := l.prog) (w := w) (base := base) T  F_are_stamps b_are_stamps (PySem.W.mg_of X G na_are_stamps)
  have G_true_moment := ok_true_moment (P := l.prog) (w := w) (base := base) T G_link_of F_true_moment b_true_moment (PySem.W.mg_of X G na_true_moment)
  have G_clock_rules := ok_clock_rules (P := l.prog) (w := w) (base := base) T G_most_minutes G_least_minutes F_clock_rules b_clock_rules (PySem.W.mg_of X G na_clock_rules)
  have G_link_rules := ok_link_rules (P := l.prog) (w := w) (base := base) T G_true_moment F_link_rules b_link_rules (PySem.W.mg_of X G na_link_rules)
  have G_stamp_web := ok_stamp_web (P := l.prog) (w := w) (base := base) T G_clock_rules G_link_rules F_stamp_web b_stamp_web (PySem.W.mg_of X G na_stamp_web)
  have G_explain_answer := ok_explain_answer (P := l.prog) (w := w) (base := base) T G_stamp_web G_holds_answer F_explain_answer b_explain_answer (PySem.W.mg_of X G na_explain_answer)
  have G_shows_explained := ok_shows_explained (P := l.prog) (w := w) (base := base) T G_stamp_web G_is_bad_ring G_keeps F_shows_explained b_shows_explained (PySem.W.mg_of X G na_shows_explained)
  have G_ClockWatch___init__ := ok_ClockWatch___init__ (P := l.prog) (w := w) (base := base) T  F_ClockWatch___init__ b_ClockWatch___init__ ⟨mk_ClockWatch, na_ClockWatch___init__, fn_ClockWatch___init__, kc_ClockWatch⟩ (PySem.W.mg_of X G nc_ClockWatch)
  have G_ClockWatch_stamped := ok_ClockWatch_stamped (P := l.prog) (w := w) (base := base) T  F_ClockWatch_stamped b_ClockWatch_stamped ⟨na_ClockWatch_stamped, fn_ClockWatch_stamped, ke_ClockWatch_stamped⟩
  have G_ClockWatch_tick := ok_ClockWatch_tick (P := l.prog) (w := w) (base := base) T G_link_of G_ClockWatch_stamped G_are_stamps G_explain_answer F_ClockWatch_tick b_ClockWatch_tick ⟨na_ClockWatch_tick, fn_ClockWatch_tick, ke_ClockWatch_tick⟩
  have G_ClockWatch_begin := ok_ClockWatch_begin (P := l.prog) (w := w) (base := base) T G_link_of G_ClockWatch_stamped F_ClockWatch_begin b_ClockWatch_begin ⟨na_ClockWatch_begin, fn_ClockWatch_begin, ke_ClockWatch_begin⟩
  have G_ClockWatch_answer := ok_ClockWatch_answer (P := l.prog) (w := w) (base := base) T  F_ClockWatch_answer b_ClockWatch_answer ⟨na_ClockWatch_answer, fn_ClockWatch_answer, ke_ClockWatch_answer⟩
  have G_ClockWatch_seen := ok_ClockWatch_seen (P := l.prog) (w := w) (base := base) T  F_ClockWatch_seen b_ClockWatch_seen ⟨na_ClockWatch_seen, fn_ClockWatch_seen, ke_ClockWatch_seen⟩
  have G__law_deal := ok__law_deal (P := l.prog) (w := w) (base := base) T  F__law_deal b__law_deal (PySem.W.mg_of X G na__law_deal)
  have G__law_take := ok__law_take (P := l.prog) (w := w) (base := base) T  F__law_take b__law_take (PySem.W.mg_of X G na__law_take)
  have G__law_same := ok__law_same (P := l.prog) (w := w) (base := base) T  F__law_same b__law_same (PySem.W.mg_of X G na__law_same)
  have G__law_bool := ok__law_bool (P := l.prog) (w := w) (base := base) T  F__law_bool b__law_bool (PySem.W.mg_of X G na__law_bool)
  have G__law_seen_web := ok__law_seen_web (P := l.prog) (w := w) (base := base) T G__law_take F__law_seen_web b__law_seen_web (PySem.W.mg_of X G na__law_seen_web)
  have G__law_kind := ok__law_kind (P := l.prog) (w := w) (base := base) T G__law_take F__law_kind b__law_kind (PySem.W.mg_of X G na__law_kind)
  have G__law_low := ok__law_low (P := l.prog) (w := w) (base := base) T  F__law_low b__law_low (PySem.W.mg_of X G na__law_low)
  have G__law_high := ok__law_high (P := l.prog) (w := w) (base := base) T  F__law_high b__law_high (PySem.W.mg_of X G na__law_high)
  have G__law_clock := ok__law_clock (P := l.prog) (w := w) (base := base) T G__law_take G__law_low G__law_high F__law_clock b__law_clock (PySem.W.mg_of X G na__law_clock)
  have G__law_refuses := ok__law_refuses (P := l.prog) (w := w) (base := base) T G_ClockWatch_tick G_ClockWatch_begin F__law_refuses b__law_refuses (PySem.W.mg_of X G na__law_refuses)
  have G__law_may_tick := ok__law_may_tick (P := l.prog) (w := w) (base := base) T  F__law_may_tick b__law_may_tick (PySem.W.mg_of X G na__law_may_tick)
  have G__law_wrong := ok__law_wrong (P := l.prog) (w := w) (base := base) T G__law_may_tick G__law_refuses G_ClockWatch_seen G__law_same F__law_wrong b__law_wrong (PySem.W.mg_of X G na__law_wrong)
  have G__law_told := ok__law_told (P := l.prog) (w := w) (base := base) T G__law_wrong G_explain_answer G_ClockWatch_tick G_ClockWatch_answer G__law_same G_shows_explained G__law_bool G__law_take G_ClockWatch_begin G_ClockWatch_seen F__law_told b__law_told (PySem.W.mg_of X G na__law_told)
  have G__law_ended := ok__law_ended (P := l.prog) (w := w) (base := base) T G__law_take F__law_ended b__law_ended (PySem.W.mg_of X G na__law_ended)
  have G__law_day := ok__law_day (P := l.prog) (w := w) (base := base) T G__law_take G__law_ended G__law_told G_ClockWatch_tick G_ClockWatch_seen G__law_same F__law_day b__law_day (PySem.W.mg_of X G na__law_day)
  exact fnok_all (ok_law T G__law_deal G__law_take G__law_seen_web G__law_kind G_ClockWatch___init__ G_ClockWatch_answer G_ClockWatch_seen G__law_same G__law_clock G__law_day F_law) fun vs H Q E q => q _
end K87
open PySem PySem.W PyProof.Rows
set_option maxHeartbeats 0 in
theorem PySem.Challenge.cw_dayholds_k87_whole_clocks_watched_by_tic_holds : PySem.Challenge.rw_dayholds_k87_whole_clocks_watched_by_tic.Holds := by
  w_on; o_law; k_head; (case hw => w_witness2)
  k_fill
  refine L2.walk_of (l := PySem.Challenge.rw_dayholds_k87_whole_clocks_watched_by_tic) (n := 63) (k := 16) (x := "script") (CX := fun _ => L2.CX0) (sp := fun w => DL.spA _ K87.f_law) rfl (by decide) rfl ⟨rfl, by decide, by decide⟩ (fun w h Y => PySem.W.kIn_of Y) ?F (fun _ H a ns hl _ hS G => DL.law_end K87.law_true H a ns hl hS) (fun _ _ _ _ _ h => h)
  case F =>
    intro w mg fa h KX G hmg
    refine' K87.all_mk KX G hmg ?nc_Spreading ?pg_Spreading ?hd_Spreading ?po_Spreading ?sa_Spreading ?mk_Spreading ?kc_Spreading ?nc_ClockWatch ?pg_ClockWatch ?hd_ClockWatch ?po_ClockWatch ?sa_ClockWatch ?mk_ClockWatch ?kc_ClockWatch ?ne_DayError ?xe_DayError ?xk_DayError ?xb_DayError ?xt_DayError ?xd_DayError ?ne_NotLet ?xe_NotLet ?xk_NotLet ?xb_NotLet ?xt_NotLet ?xd_NotLet ?ne_BadDeed ?xe_BadDeed ?xk_BadDeed ?xb_BadDeed ?xt_BadDeed ?xd_BadDeed ?x_sp ?x_tk ?xg_BadDeed ?xa_BadDeed ?xc_BadDeed ?xm_BadDeed ?sb_BadDeed_BadDeed ?sb_BadDeed_DayError ?sb_BadDeed_NotLet ?nf_ClockWatch_kind ?nf_ClockWatch_last ?nf_ClockWatch_stamps ?nf_ClockWatch_told ?nf_ClockWatch_web ?nf_Spreading_far ?nf_Spreading_last ?nf_Spreading_web ?na_keeps_rule ?lk_keeps_rule ?co_keeps_rule ?ke_keeps_rule ?na_keeps ?lk_keeps ?co_keeps ?ke_keeps ?na_shifted ?lk_shifted ?co_shifted ?ke_shifted ?na_is_walk ?lk_is_walk ?co_is_walk ?ke_is_walk ?na_length ?lk_length ?co_length ?ke_length ?na_ends_of ?lk_ends_of ?co_ends_of ?ke_ends_of ?na_is_bad_ring ?lk_is_bad_ring ?co_is_bad_ring ?ke_is_bad_ring ?na_Spreading___init__ ?fn_Spreading___init__ ?lk_Spreading___init__ ?co_Spreading___init__ ?ke_Spreading___init__ ?na_Spreading_step ?fn_Spreading_step ?lk_Spreading_step ?co_Spreading_step ?ke_Spreading_step ?na_Spreading_spread ?fn_Spreading_spread ?lk_Spreading_spread ?co_Spreading_spread ?ke_Spreading_spread ?na_Spreading_ring_from ?fn_Spreading_ring_from ?lk_Spreading_ring_from ?co_Spreading_ring_from ?ke_Spreading_ring_from ?na_holds_answer ?lk_holds_answer ?co_holds_answer ?ke_holds_answer ?na_link_of ?lk_link_of ?co_link_of ?ke_link_of ?na_least_minutes ?lk_least_minutes ?co_least_minutes ?ke_least_minutes ?na_most_minutes ?lk_most_minutes ?co_most_minutes ?ke_most_minutes ?na_are_stamps ?lk_are_stamps ?co_are_stamps ?ke_are_stamps ?na_true_moment ?lk_true_moment ?co_true_moment ?ke_true_moment ?na_clock_rules ?lk_clock_rules ?co_clock_rules ?ke_clock_rules ?na_link_rules ?lk_link_rules ?co_link_rules ?ke_link_rules ?na_stamp_web ?lk_stamp_web ?co_stamp_web ?ke_stamp_web ?na_explain_answer ?lk_explain_answer ?co_explain_answer ?ke_explain_answer ?na_shows_explained ?lk_shows_explained ?co_shows_explained ?ke_shows_explained ?na_ClockWatch___init__ ?fn_ClockWatch___init__ ?lk_ClockWatch___init__ ?co_ClockWatch___init__ ?ke_ClockWatch___init__ ?na_ClockWatch_stamped ?fn_ClockWatch_stamped ?lk_ClockWatch_stamped ?co_ClockWatch_stamped ?ke_ClockWatch_stamped ?na_ClockWatch_tick ?fn_ClockWatch_tick ?lk_ClockWatch_tick ?co_ClockWatch_tick ?ke_ClockWatch_tick ?na_ClockWatch_begin ?fn_ClockWatch_begin ?lk_ClockWatch_begin ?co_ClockWatch_begin ?ke_ClockWatch_begin ?na_ClockWatch_answer ?fn_ClockWatch_answer ?lk_ClockWatch_answer ?co_ClockWatch_answer ?ke_ClockWatch_answer ?na_ClockWatch_seen ?fn_ClockWatch_seen ?lk_ClockWatch_seen ?co_ClockWatch_seen ?ke_ClockWatch_seen ?na__law_deal ?lk__law_deal ?co__law_deal ?ke__law_deal ?na__law_take ?lk__law_take ?co__law_take ?ke__law_take ?na__law_same ?lk__law_same ?co__law_same ?ke__law_same ?na__law_bool ?lk__law_bool ?co__law_bool ?ke__law_bool ?na__law_seen_web ?lk__law_seen_web ?co__law_seen_web ?ke__law_seen_web ?na__law_kind ?lk__law_kind ?co__law_kind ?ke__law_kind ?na__law_low ?lk__law_low ?co__law_low ?ke__law_low ?na__law_high ?lk__law_high ?co__law_high ?ke__law_high ?na__law_clock ?lk__law_clock ?co__law_clock ?ke__law_clock ?na__law_refuses ?lk__law_refuses ?co__law_refuses ?ke__law_refuses ?na__law_may_tick ?lk__law_may_tick ?co__law_may_tick ?ke__law_may_tick ?na__law_wrong ?lk__law_wrong ?co__law_wrong ?ke__law_wrong ?na__law_told ?lk__law_told ?co__law_told ?ke__law_told ?na__law_ended ?lk__law_ended ?co__law_ended ?ke__law_ended ?na__law_day ?lk__law_day ?co__law_day ?ke__law_day ?na_law ?lk_law ?co_law ?ke_law ?z_abs ?z_bool ?z_enumerate ?z_int ?z_isinstance ?z_len ?z_list ?z_max ?z_min ?z_range ?z_set ?z_sorted ?z_str ?z_sum ?z_tuple ?z_zip ?c_EXPLAINED ?c_HOLDS ?c_RING ?c_STRANGE K87.law_true
    (case nc_Spreading => k_is); (case pg_Spreading => k_is); (case hd_Spreading => k_is); (case po_Spreading => k_is); (case sa_Spreading => k_is); (case mk_Spreading => k_is); (case kc_Spreading => k_is); (case nc_ClockWatch => k_is)
    (case pg_ClockWatch => k_is); (case hd_ClockWatch => k_is); (case po_ClockWatch => k_is); (case sa_ClockWatch => k_is); (case mk_ClockWatch => k_is); (case kc_ClockWatch => k_is); (case ne_DayError => k_is); (case xe_DayError => k_exc)
    (case xk_DayError => k_is); (case xb_DayError => k_is); (case xt_DayError => k_is); (case xd_DayError => k_is); (case ne_NotLet => k_is); (case xe_NotLet => k_exc); (case xk_NotLet => k_is); (case xb_NotLet => k_is)
    (case xt_NotLet => k_is); (case xd_NotLet => k_is); (case ne_BadDeed => k_is); (case xe_BadDeed => k_exc); (case xk_BadDeed => k_is); (case xb_BadDeed => k_is); (case xt_BadDeed => k_is); (case xd_BadDeed => k_is)
    (case x_sp => k_is); (case x_tk => k_is); (case xg_BadDeed => k_is); (case xa_BadDeed => k_is); (case xc_BadDeed => k_is); (case xm_BadDeed => k_is); (case sb_BadDeed_BadDeed => k_is); (case sb_BadDeed_DayError => k_is)
    (case sb_BadDeed_NotLet => k_is); (case nf_ClockWatch_kind => k_is); (case nf_ClockWatch_last => k_is); (case nf_ClockWatch_stamps => k_is); (case nf_ClockWatch_told => k_is); (case nf_ClockWatch_web => k_is); (case nf_Spreading_far => k_is); (case nf_Spreading_last => k_is)
    (case nf_Spreading_web => k_is); (case na_keeps_rule => k_is); (case lk_keeps_rule => k_is); (case co_keeps_rule => k_is); (case ke_keeps_rule => k_is); (case na_keeps => k_is); (case lk_keeps => k_is); (case co_keeps => k_is)
    (case ke_keeps => k_is); (case na_shifted => k_is); (case lk_shifted => k_is); (case co_shifted => k_is); (case ke_shifted => k_is); (case na_is_walk => k_is); (case lk_is_walk => k_is); (case co_is_walk => k_is)
    (case ke_is_walk => k_is); (case na_length => k_is); (case lk_length => k_is); (case co_length => k_is); (case ke_length => k_is); (case na_ends_of => k_is); (case lk_ends_of => k_is); (case co_ends_of => k_is)
    (case ke_ends_of => k_is); (case na_is_bad_ring => k_is); (case lk_is_bad_ring => k_is); (case co_is_bad_ring => k_is); (case ke_is_bad_ring => k_is); (case na_Spreading___init__ => k_is); (case fn_Spreading___init__ => k_is); (case lk_Spreading___init__ => k_is)
    (case co_Spreading___init__ => k_is); (case ke_Spreading___init__ => k_is); (case na_Spreading_step => k_is); (case fn_Spreading_step => k_is); (case lk_Spreading_step => k_is); (case co_Spreading_step => k_is); (case ke_Spreading_step => k_is); (case na_Spreading_spread => k_is)
    (case fn_Spreading_spread => k_is); (case lk_Spreading_spread => k_is); (case co_Spreading_spread => k_is); (case ke_Spreading_spread => k_is); (case na_Spreading_ring_from => k_is); (case fn_Spreading_ring_from => k_is); (case lk_Spreading_ring_from => k_is); (case co_Spreading_ring_from => k_is)
    (case ke_Spreading_ring_from => k_is); (case na_holds_answer => k_is); (case lk_holds_answer => k_is); (case co_holds_answer => k_is); (case ke_holds_answer => k_is); (case na_link_of => k_is); (case lk_link_of => k_is); (case co_link_of => k_is)
    (case ke_link_of => k_is); (case na_least_minutes => k_is); (case lk_least_minutes => k_is); (case co_least_minutes => k_is); (case ke_least_minutes => k_is); (case na_most_minutes => k_is); (case lk_most_minutes => k_is); (case co_most_minutes => k_is)
    (case ke_most_minutes => k_is); (case na_are_stamps => k_is); (case lk_are_stamps => k_is); (case co_are_stamps => k_is); (case ke_are_stamps => k_is); (case na_true_moment => k_is); (case lk_true_moment => k_is); (case co_true_moment => k_is)
    (case ke_true_moment => k_is); (case na_clock_rules => k_is); (case lk_clock_rules => k_is); (case co_clock_rules => k_is); (case ke_clock_rules => k_is); (case na_link_rules => k_is); (case lk_link_rules => k_is); (case co_link_rules => k_is)
    (case ke_link_rules => k_is); (case na_stamp_web => k_is); (case lk_stamp_web => k_is); (case co_stamp_web => k_is); (case ke_stamp_web => k_is); (case na_explain_answer => k_is); (case lk_explain_answer => k_is); (case co_explain_answer => k_is)
    (case ke_explain_answer => k_is); (case na_shows_explained => k_is); (case lk_shows_explained => k_is); (case co_shows_explained => k_is); (case ke_shows_explained => k_is); (case na_ClockWatch___init__ => k_is); (case fn_ClockWatch___init__ => k_is); (case lk_ClockWatch___init__ => k_is)
    (case co_ClockWatch___init__ => k_is); (case ke_ClockWatch___init__ => k_is); (case na_ClockWatch_stamped => k_is); (case fn_ClockWatch_stamped => k_is); (case lk_ClockWatch_stamped => k_is); (case co_ClockWatch_stamped => k_is); (case ke_ClockWatch_stamped => k_is); (case na_ClockWatch_tick => k_is)
    (case fn_ClockWatch_tick => k_is); (case lk_ClockWatch_tick => k_is); (case co_ClockWatch_tick => k_is); (case ke_ClockWatch_tick => k_is); (case na_ClockWatch_begin => k_is); (case fn_ClockWatch_begin => k_is); (case lk_ClockWatch_begin => k_is); (case co_ClockWatch_begin => k_is)
    (case ke_ClockWatch_begin => k_is); (case na_ClockWatch_answer => k_is); (case fn_ClockWatch_answer => k_is); (case lk_ClockWatch_answer => k_is); (case co_ClockWatch_answer => k_is); (case ke_ClockWatch_answer => k_is); (case na_ClockWatch_seen => k_is); (case fn_ClockWatch_seen => k_is)
    (case lk_ClockWatch_seen => k_is); (case co_ClockWatch_seen => k_is); (case ke_ClockWatch_seen => k_is); (case na__law_deal => k_is); (case lk__law_deal => k_is); (case co__law_deal => k_is); (case ke__law_deal => k_is); (case na__law_take => k_is)
    (case lk__law_take => k_is); (case co__law_take => k_is); (case ke__law_take => k_is); (case na__law_same => k_is); (case lk__law_same => k_is); (case co__law_same => k_is); (case ke__law_same => k_is); (case na__law_bool => k_is)
    (case lk__law_bool => k_is); (case co__law_bool => k_is); (case ke__law_bool => k_is); (case na__law_seen_web => k_is); (case lk__law_seen_web => k_is); (case co__law_seen_web => k_is); (case ke__law_seen_web => k_is); (case na__law_kind => k_is)
    (case lk__law_kind => k_is); (case co__law_kind => k_is); (case ke__law_kind => k_is); (case na__law_low => k_is); (case lk__law_low => k_is); (case co__law_low => k_is); (case ke__law_low => k_is); (case na__law_high => k_is)
    (case lk__law_high => k_is); (case co__law_high => k_is); (case ke__law_high => k_is); (case na__law_clock => k_is); (case lk__law_clock => k_is); (case co__law_clock => k_is); (case ke__law_clock => k_is); (case na__law_refuses => k_is)
    (case lk__law_refuses => k_is); (case co__law_refuses => k_is); (case ke__law_refuses => k_is); (case na__law_may_tick => k_is); (case lk__law_may_tick => k_is); (case co__law_may_tick => k_is); (case ke__law_may_tick => k_is); (case na__law_wrong => k_is)
    (case lk__law_wrong => k_is); (case co__law_wrong => k_is); (case ke__law_wrong => k_is); (case na__law_told => k_is); (case lk__law_told => k_is); (case co__law_told => k_is); (case ke__law_told => k_is); (case na__law_ended => k_is)
    (case lk__law_ended => k_is); (case co__law_ended => k_is); (case ke__law_ended => k_is); (case na__law_day => k_is); (case lk__law_day => k_is); (case co__law_day => k_is); (case ke__law_day => k_is); (case na_law => k_is)
    (case lk_law => k_is); (case co_law => k_is); (case ke_law => k_is); (case z_abs => k_is); (case z_bool => k_is); (case z_enumerate => k_is); (case z_int => k_is); (case z_isinstance => k_is)
    (case z_len => k_is); (case z_list => k_is); (case z_max => k_is); (case z_min => k_is); (case z_range => k_is); (case z_set => k_is); (case z_sorted => k_is); (case z_str => k_is)
    (case z_sum => k_is); (case z_tuple => k_is); (case z_zip => k_is); (case c_EXPLAINED => k_is); (case c_HOLDS => k_is); (case c_RING => k_is); (case c_STRANGE => k_is)
