import PyProof.Rows.All
import Wide.All
import OpenK.AllK
import Wide.FinOn
import HandS.ForMost
import HandS.Exc
import HandS.TryOnly
import HandS.TryMany
import HandS.ExcOwn
import HandS.WordsExc
import HandS.CallSlots
import HandS.Defaults
import HandS.HeadHook2
import HandS.IsInst
import HandS.Wide
import HandS.Deep
import HandS.TupAny
import KE.KStateDown
import HandS.Head0
import HandS.Head1
import HandS.Head2
import HandS.HeadEnd
import HandS.HeadHook1
import HandS.HeadWalk
import HandS.Style
import KE.KSuper
import KE.KExcSuper
import HandS.ExcInit
import HandS.FStr
import HandS.ExcIs
import HandS.ExcField
import KE.KExcIs
import HandS.Property
import HandS.MakeKwOnly
import KE.BitLaws
import PySem.Challenge.RW_tagoctets_k07_trees_of_items
set_option Elab.async false
set_option linter.all false
set_option maxRecDepth 100000
set_option maxHeartbeats 4000000
/-! Mp1: data without addresses (D), objects that change (O), how a heap bears them. -/
namespace Mp
open PySem PySem.Spec PyProof.Rows L2

abbrev Frag := PySem.W.Frag

/-- data that nobody changes -/
inductive D where
  | non | bl (b : Bool) | int (i : Int) | str (x : Str) | ty (n : String) | tup (xs : List D) | lst (xs : List D) | fl (xs : List D)
/-- what stands in a node of a region: a datum, or a node of this region -/
inductive Nd where
  | d (x : D) | nd (k : Nat)
/-- a node: a list, an instance -/
inductive Gn where
  | lst (xs : List Nd) | ins (C : Str) (fs : List (Str × Nd))
/-- an object that changes: a list, a dict, a region of things that lead to one another -/
inductive O where
  | lst (xs : List D) | dct (kvs : List (Key × D)) | reg (gs : List Gn) | gone
/-- an exception: its class, its fields -/
structure Exn where
  cls : Str
  fs : List (Str × D)
/-- what an expression gives: a datum, or one of the objects that change -/
inductive S where
  | d (x : D) | mu (n : Nat) | ob (n k : Nat) | exn (a : Addr) (c : Value) (d : Option Addr) (x : Exn)

abbrev Av := Addr → Prop
def hp0 : Hp := fun _ => none
def noA : Av := fun _ => False

mutual
def Rep (K : Frag) (A : Av) (H : Hp) : D → V → Prop
  | .non, v => v = .non
  | .bl b, v => v = .bl b
  | .int i, v => v = .int i
  | .str x, v => v = .str x
  | .ty n, v => v = .ty n
  | .tup ds, v => ∃ a vs, v = .ref a ∧ ((H a = some (.tup vs) ∧ ¬ A a) ∨ SqT K hp0 a vs) ∧ RepL K A H ds vs
  | .lst ds, v => ∃ a vs, v = .ref a ∧ (H a = some (.lst vs) ∧ ¬ A a) ∧ RepL K A H ds vs
  | .fl ds, v => ∃ a vs, v = .ref a ∧ ((Rd H a (.lst vs) ∧ ¬ A a) ∨ SqL K hp0 a vs) ∧ RepL K A H ds vs
def RepL (K : Frag) (A : Av) (H : Hp) : List D → List V → Prop
  | [], vs => vs = []
  | d :: ds, vs => ∃ v r, vs = v :: r ∧ Rep K A H d v ∧ RepL K A H ds r
end

/-- A: what may not be leaned on; M: what may be changed. What is not in M stays, both grow by new things alone -/
structure Step (A M : Av) (H : Hp) (A' M' : Av) (H' : Hp) : Prop where
  keep : ∀ a o, H a = some o → ¬ M a → H' a = some o
  newA : ∀ a, A' a → A a ∨ H a = none
  newM : ∀ a, M' a → M a ∨ H a = none
  sub : ∀ a, M a → A a
  stay : ∀ a o, H a = some o → ∃ u, H' a = some u

theorem Step.refl {A M : Av} {H : Hp} (h : ∀ a, M a → A a) : Step A M H A M H := ⟨fun _ _ h _ => h, fun _ h => .inl h, fun _ h => .inl h, h, fun _ o h => ⟨o, h⟩⟩
theorem Step.trans {A M A1 M1 A2 M2 : Av} {H H1 H2 : Hp} (a : Step A M H A1 M1 H1) (b : Step A1 M1 H1 A2 M2 H2) : Step A M H A2 M2 H2 where
  keep := fun x o h n => b.keep x o (a.keep x o h n) fun n1 => (a.newM x n1).elim n fun z => by rw [h] at z; cases z
  newA := fun x h => by
    rcases b.newA x h with h | h
    · exact a.newA x h
    · cases e : H x with
      | none => exact .inr rfl
      | some o =>
        by_cases n : M x
        · exact .inl (a.sub x n)
        · rw [a.keep x o e n] at h; cases h
  newM := fun x h => by
    rcases b.newM x h with h | h
    · exact a.newM x h
    · cases e : H x with
      | none => exact .inr rfl
      | some o =>
        by_cases n : M x
        · exact .inl n
        · rw [a.keep x o e n] at h; cases h
  sub := a.sub
  stay := fun x o h => by
    obtain ⟨u, hu⟩ := a.stay x o h
    exact b.stay x u hu
theorem Step.not {A M A1 M1 : Av} {H H1 : Hp} (s : Step A M H A1 M1 H1) {a : Addr} {o : HO} (h : H a = some o) (n : ¬ A a) : ¬ A1 a := fun n1 => (s.newA a n1).elim n fun z => by rw [h] at z; cases z
theorem Step.kept {A M A1 M1 : Av} {H H1 : Hp} (s : Step A M H A1 M1 H1) {a : Addr} {o : HO} (h : H a = some o) (n : ¬ A a) : H1 a = some o := s.keep a o h fun z => n (s.sub a z)
theorem Step.rd {A M A1 M1 : Av} {H H1 : Hp} (s : Step A M H A1 M1 H1) {a : Addr} {u : HO} (h : Rd H a u) (n : ¬ A a) : Rd H1 a u ∧ ¬ A1 a := by
  rcases h with h | ⟨o, h⟩
  · exact ⟨.inl (s.kept h n), s.not h n⟩
  · exact ⟨.inr ⟨o, s.kept h n⟩, s.not h n⟩
theorem Step.fresh {A M : Av} {H : Hp} {p : Addr} {o : HO} (hs : ∀ a, M a → A a) (h : H p = none) : Step A M H A M (upd H p o) := ⟨fun a u e _ => by rw [upd_ne (ne_of_none e h)]; exact e, fun _ h => .inl h, fun _ h => .inl h, hs, fun a u e => ⟨u, by rw [upd_ne (ne_of_none e h)]; exact e⟩⟩

mutual
theorem Rep.mono {K : Frag} {A M A' M' : Av} {H H' : Hp} (s : Step A M H A' M' H') : ∀ (d : D) (v : V), Rep K A H d v → Rep K A' H' d v
  | .non, _, h => h
  | .bl _, _, h => h
  | .int _, _, h => h
  | .str _, _, h => h
  | .ty _, _, h => h
  | .tup ds, v, ⟨a, vs, e, h, r⟩ => ⟨a, vs, e, h.elim (fun h => .inl ⟨s.kept h.1 h.2, s.not h.1 h.2⟩) .inr, RepL.mono s ds vs r⟩
  | .lst ds, v, ⟨a, vs, e, h, r⟩ => ⟨a, vs, e, ⟨s.kept h.1 h.2, s.not h.1 h.2⟩, RepL.mono s ds vs r⟩
  | .fl ds, v, ⟨a, vs, e, h, r⟩ => ⟨a, vs, e, h.elim (fun h => .inl (s.rd h.1 h.2)) .inr, RepL.mono s ds vs r⟩
theorem RepL.mono {K : Frag} {A M A' M' : Av} {H H' : Hp} (s : Step A M H A' M' H') : ∀ (ds : List D) (vs : List V), RepL K A H ds vs → RepL K A' H' ds vs
  | [], _, h => h
  | d :: ds, _, ⟨v, r, e, h, t⟩ => ⟨v, r, e, Rep.mono s d v h, RepL.mono s ds r t⟩
end

section
variable {K : Frag} {A : Av} {H : Hp}
theorem RepL.length : ∀ {ds : List D} {vs : List V}, RepL K A H ds vs → ds.length = vs.length
  | [], _, h => by cases h; rfl
  | d :: ds, _, ⟨v, r, e, _, t⟩ => by subst e; exact congrArg Nat.succ (RepL.length t)
theorem RepL.nil : RepL K A H [] [] := rfl
theorem RepL.cons {d : D} {ds : List D} {v : V} {vs : List V} (h : Rep K A H d v) (t : RepL K A H ds vs) : RepL K A H (d :: ds) (v :: vs) := ⟨v, vs, rfl, h, t⟩
theorem RepL.append : ∀ {ds es : List D} {vs us : List V}, RepL K A H ds vs → RepL K A H es us → RepL K A H (ds ++ es) (vs ++ us)
  | [], _, _, _, h, g => by cases h; exact g
  | d :: ds, _, _, _, ⟨v, r, e, h, t⟩, g => by subst e; exact ⟨v, r ++ _, rfl, h, RepL.append t g⟩
theorem RepL.get : ∀ {ds : List D} {vs : List V} {i : Nat} {d : D}, RepL K A H ds vs → ds[i]? = some d → ∃ v, vs[i]? = some v ∧ Rep K A H d v
  | [], _, _, _, _, e => by simp at e
  | d :: ds, _, 0, _, ⟨v, r, e, h, _⟩, g => by subst e; simp at g; subst g; exact ⟨v, rfl, h⟩
  | d :: ds, _, i + 1, _, ⟨v, r, e, _, t⟩, g => by subst e; obtain ⟨u, h1, h2⟩ := RepL.get (i := i) t (by simpa using g); exact ⟨u, by simpa using h1, h2⟩
theorem RepL.get' : ∀ {ds : List D} {vs : List V} {i : Nat} {v : V}, RepL K A H ds vs → vs[i]? = some v → ∃ d, ds[i]? = some d ∧ Rep K A H d v
  | [], _, _, _, h, e => by cases h; simp at e
  | d :: ds, _, 0, _, ⟨v, r, e, h, _⟩, g => by subst e; simp at g; subst g; exact ⟨d, rfl, h⟩
  | d :: ds, _, i + 1, _, ⟨v, r, e, _, t⟩, g => by subst e; obtain ⟨u, h1, h2⟩ := RepL.get' (i := i) t (by simpa using g); exact ⟨u, by simpa using h1, h2⟩
theorem RepL.take : ∀ (n : Nat) {ds : List D} {vs : List V}, RepL K A H ds vs → RepL K A H (ds.take n) (vs.take n)
  | 0, _, _, _ => by simp [RepL]
  | n + 1, [], _, h => by cases h; simp [RepL]
  | n + 1, d :: ds, _, ⟨v, r, e, h, t⟩ => by subst e; exact ⟨v, r.take n, rfl, h, RepL.take n t⟩
theorem RepL.drop : ∀ (n : Nat) {ds : List D} {vs : List V}, RepL K A H ds vs → RepL K A H (ds.drop n) (vs.drop n)
  | 0, _, _, h => h
  | n + 1, [], _, h => by cases h; simp [RepL]
  | n + 1, d :: ds, _, ⟨v, r, e, h, t⟩ => by subst e; exact RepL.drop n t
theorem RepL.set : ∀ (n : Nat) {ds : List D} {vs : List V} {d : D} {v : V}, RepL K A H ds vs → Rep K A H d v → RepL K A H (ds.set n d) (vs.set n v)
  | _, [], _, _, _, h, _ => by cases h; simp [RepL]
  | 0, d :: ds, _, _, _, ⟨v, r, e, h, t⟩, g => by subst e; exact ⟨_, r, rfl, g, t⟩
  | n + 1, d :: ds, _, _, _, ⟨v, r, e, h, t⟩, g => by subst e; exact ⟨v, _, rfl, h, RepL.set n t g⟩
theorem RepL.reverse {ds : List D} {vs : List V} (h : RepL K A H ds vs) : RepL K A H ds.reverse vs.reverse := by
  induction ds generalizing vs with
  | nil => cases h; simp [RepL]
  | cons d ds ih =>
    obtain ⟨v, r, e, h, t⟩ := h
    subst e
    rw [List.reverse_cons, List.reverse_cons]
    exact (ih t).append (.cons h .nil)
theorem RepL.dropLast {ds : List D} {vs : List V} (h : RepL K A H ds vs) : RepL K A H ds.dropLast vs.dropLast := by
  rw [List.dropLast_eq_take, List.dropLast_eq_take, h.length]
  exact h.take _
theorem RepL.eraseIdx : ∀ (n : Nat) {ds : List D} {vs : List V}, RepL K A H ds vs → RepL K A H (ds.eraseIdx n) (vs.eraseIdx n)
  | _, [], _, h => by cases h; simp [RepL]
  | 0, d :: ds, _, ⟨v, r, e, h, t⟩ => by subst e; exact t
  | n + 1, d :: ds, _, ⟨v, r, e, h, t⟩ => by subst e; exact ⟨v, _, rfl, h, RepL.eraseIdx n t⟩
/-- ints -/
theorem RepL.ints : ∀ {ns : List Int} {vs : List V}, RepL K A H (ns.map D.int) vs → vs = ns.map V.int
  | [], _, h => h
  | n :: ns, _, ⟨v, r, e, h, t⟩ => by subst e; cases (show v = .int n from h); rw [RepL.ints t]; rfl
theorem RepL.of_ints : ∀ {ns : List Int}, RepL K A H (ns.map D.int) (ns.map V.int)
  | [] => rfl
  | n :: ns => ⟨.int n, _, rfl, rfl, RepL.of_ints⟩
theorem RepL.bls : ∀ {ns : List Bool} {vs : List V}, RepL K A H (ns.map D.bl) vs → vs = ns.map V.bl
  | [], _, h => h
  | n :: ns, _, ⟨v, r, e, h, t⟩ => by subst e; cases (show v = .bl n from h); rw [RepL.bls t]; rfl
theorem RepL.strs : ∀ {ns : List Str} {vs : List V}, RepL K A H (ns.map D.str) vs → vs = ns.map V.str
  | [], _, h => h
  | n :: ns, _, ⟨v, r, e, h, t⟩ => by subst e; cases (show v = .str n from h); rw [RepL.strs t]; rfl
end

/-- the list itself may be one that changes; its items are data -/
def RepT (K : Frag) (A : Av) (H : Hp) (d : D) (v : V) : Prop := match d with
  | .lst ds => ∃ a vs, v = .ref a ∧ H a = some (.lst vs) ∧ RepL K A H ds vs
  | d => Rep K A H d v
theorem Rep.t {K : Frag} {A : Av} {H : Hp} {d : D} {v : V} (h : Rep K A H d v) : RepT K A H d v := by
  cases d <;> first | exact h | (obtain ⟨a, vs, e, h, r⟩ := h; exact ⟨a, vs, e, h.1, r⟩)

/-! ### objects that change -/
def RepK (K : Frag) (A : Av) (H : Hp) : List (Key × D) → List (Key × V) → Prop
  | [], ws => ws = []
  | (k, d) :: r, ws => ∃ v t, ws = (k, v) :: t ∧ Rep K A H d v ∧ RepK K A H r t
def RepN (K : Frag) (A : Av) (H : Hp) (as : List Addr) : Nd → V → Prop
  | .d x, v => Rep K A H x v
  | .nd k, v => ∃ a, as[k]? = some a ∧ v = .ref a
def RepNL (K : Frag) (A : Av) (H : Hp) (as : List Addr) : List Nd → List V → Prop := Paired (RepN K A H as)
def RepNF (K : Frag) (A : Av) (H : Hp) (as : List Addr) : List (Str × Nd) → List (Str × V) → Prop := Paired fun x w => x.1 = w.1 ∧ RepN K A H as x.2 w.2
/-- a node at a -/
def GR (K : Frag) (A : Av) (H : Hp) (as : List Addr) (a : Addr) : Gn → Prop
  | .lst xs => ∃ vs, H a = some (.lst vs) ∧ RepNL K A H as xs vs
  | .ins C fs => ∃ dx ws, H a = some (.ins (He.ga K C) dx ws) ∧ RepNF K A H as fs ws
/-- where the nodes stand -/
abbrev adr (p : Addr × List Addr) : List Addr := p.1 :: p.2
def OR (K : Frag) (A : Av) (H : Hp) (p : Addr × List Addr) : O → Prop
  | .lst ds => p.2 = [] ∧ ∃ vs, H p.1 = some (.lst vs) ∧ RepL K A H ds vs
  | .dct kvs => p.2 = [] ∧ ∃ ws, H p.1 = some (.dK ws) ∧ RepK K A H kvs ws
  | .reg gs => (adr p).length = gs.length ∧ ∀ (k : Nat) (g : Gn) (a : Addr), gs[k]? = some g → (adr p)[k]? = some a → GR K A H (adr p) a g
  | .gone => True
/-- where the objects stand (each with the lists of its own), and what is banned: it stands, is not leaned on and not changed -/
structure Mp_ where
  own : List (Addr × List Addr)
  ban : Av
/-- what may change -/
def Mt (α : Mp_) (hp : List O) (a : Addr) : Prop := ∃ (n : Nat) (p : Addr × List Addr) (o : O), α.own[n]? = some p ∧ hp[n]? = some o ∧ o ≠ .gone ∧ (a = p.1 ∨ a ∈ p.2)
/-- what may not be leaned on -/
def Al (α : Mp_) (hp : List O) (a : Addr) : Prop := Mt α hp a ∨ α.ban a
theorem al_sub {α : Mp_} {hp : List O} : ∀ a, Mt α hp a → Al α hp a := fun _ h => .inl h
structure WOk (K : Frag) (α : Mp_) (hp : List O) (H : Hp) : Prop where
  len : α.own.length = hp.length
  obj : ∀ (n : Nat) (o : O) (p : Addr × List Addr), hp[n]? = some o → α.own[n]? = some p → OR K (Al α hp) H p o
  one : ∀ (n : Nat) (o : O) (p : Addr × List Addr), hp[n]? = some o → α.own[n]? = some p → o ≠ .gone → p.1 ∉ p.2 ∧ p.2.Nodup
  inj : ∀ (m n : Nat) (o u : O) (p q : Addr × List Addr), hp[m]? = some o → α.own[m]? = some p → o ≠ .gone → hp[n]? = some u → α.own[n]? = some q → u ≠ .gone → m ≠ n → ∀ a, (a = p.1 ∨ a ∈ p.2) → ¬ (a = q.1 ∨ a ∈ q.2)
  ban : ∀ a, α.ban a → (∃ o, H a = some o) ∧ ¬ Mt α hp a
def RepXF (K : Frag) (A : Av) (H : Hp) : List (Str × D) → List (Str × V) → Prop
  | [], ws => ws = []
  | (k, d) :: r, ws => ∃ v t, ws = (k, v) :: t ∧ Rep K A H d v ∧ RepXF K A H r t
def XRep (K : Frag) (A : Av) (H : Hp) (x : Exn) (c : Value) (dd : Option Addr) : Prop :=
  c = .ref (He.ga K x.cls) ∧ (x.fs = [] ∨ ∃ a ws, dd = some a ∧ (H a = some (.xd ws) ∧ ¬ A a) ∧ RepXF K A H x.fs ws)
theorem RepXF.mono {K : Frag} {A M A' M' : Av} {H H' : Hp} (s : Step A M H A' M' H') : ∀ {l : List (Str × D)} {ws : List (Str × V)}, RepXF K A H l ws → RepXF K A' H' l ws
  | [], _, h => h
  | (k, d) :: r, _, ⟨v, t, e, h, q⟩ => ⟨v, t, e, Rep.mono s d v h, RepXF.mono s q⟩
theorem XRep.mono {K : Frag} {A M A' M' : Av} {H H' : Hp} {x : Exn} {c : Value} {dd : Option Addr} (s : Step A M H A' M' H') (r : XRep K A H x c dd) : XRep K A' H' x c dd :=
  ⟨r.1, r.2.imp id fun ⟨a, ws, h1, h2, h3⟩ => ⟨a, ws, h1, ⟨s.kept h2.1 h2.2, s.not h2.1 h2.2⟩, RepXF.mono s h3⟩⟩
def SRep (K : Frag) (α : Mp_) (hp : List O) (H : Hp) : S → V → Prop
  | .d x, v => Rep K (Al α hp) H x v
  | .mu n, v => ∃ p, α.own[n]? = some p ∧ v = .ref p.1
  | .ob n k, v => ∃ p a, α.own[n]? = some p ∧ (adr p)[k]? = some a ∧ v = .ref a
  | .exn a c d x, v => v = .ref a ∧ XRep K (Al α hp) H x c d
def EnvR (K : Frag) (α : Mp_) (hp : List O) (H : Hp) (env : List (Option S)) (σ : L2.St) : Prop :=
  env.length = σ.length ∧ ∀ (i : Nat) (s : S), env[i]? = some (some s) → ∃ v, σ[i]? = some (some v) ∧ SRep K α hp H s v
/-- the same objects at the same places, perhaps more of them, perhaps each with more nodes -/
def OwnLe (l m : List (Addr × List Addr)) : Prop := ∀ (n : Nat) (p : Addr × List Addr), l[n]? = some p → ∃ q : Addr × List Addr, m[n]? = some q ∧ q.1 = p.1 ∧ p.2 <+: q.2
theorem OwnLe.refl (l : List (Addr × List Addr)) : OwnLe l l := fun n p h => ⟨p, h, rfl, List.prefix_refl _⟩
theorem OwnLe.trans {l m k : List (Addr × List Addr)} (a : OwnLe l m) (b : OwnLe m k) : OwnLe l k := fun n p h => by
  obtain ⟨q, h1, h2, h3⟩ := a n p h
  obtain ⟨r, g1, g2, g3⟩ := b n q h1
  exact ⟨r, g1, g2.trans h2, h3.trans g3⟩
theorem OwnLe.app (l m : List (Addr × List Addr)) : OwnLe l (l ++ m) := fun n p h => ⟨p, by rw [List.getElem?_append_left (List.getElem?_eq_some_iff.mp h).1]; exact h, rfl, List.prefix_refl _⟩
theorem OwnLe.len {l m : List (Addr × List Addr)} (h : OwnLe l m) : l.length ≤ m.length := by
  by_cases c : l.length ≤ m.length
  · exact c
  · have hl : m.length < l.length := by omega
    obtain ⟨q, h1, _⟩ := h m.length _ (List.getElem?_eq_getElem hl)
    rw [List.getElem?_eq_none (Nat.le_refl _)] at h1
    cases h1
theorem OwnLe.take {l m : List (Addr × List Addr)} (h : OwnLe l m) {k : Nat} (hk : l.length ≤ k) : OwnLe l (m.take k) := fun n p e => by
  obtain ⟨q, h1, h2⟩ := h n p e
  have hn : n < l.length := (List.getElem?_eq_some_iff.mp e).1
  exact ⟨q, by rw [List.getElem?_take_of_lt (by omega)]; exact h1, h2⟩
theorem OwnLe.appR {l m k : List (Addr × List Addr)} (h : OwnLe l m) : OwnLe l (m ++ k) := h.trans (OwnLe.app m k)
structure Pre (α α' : Mp_) : Prop where
  own : OwnLe α.own α'.own
  ban : α'.ban = α.ban
theorem Pre.refl (α : Mp_) : Pre α α := ⟨OwnLe.refl _, rfl⟩
theorem Pre.trans {α β γ : Mp_} (a : Pre α β) (b : Pre β γ) : Pre α γ := ⟨a.own.trans b.own, b.ban.trans a.ban⟩
theorem Pre.get {α β : Mp_} (h : Pre α β) {n : Nat} {p : Addr × List Addr} (e : α.own[n]? = some p) : ∃ q, β.own[n]? = some q ∧ q.1 = p.1 := by
  obtain ⟨q, h1, h2, _⟩ := h.own n p e
  exact ⟨q, h1, h2⟩
theorem adr_le {p q : Addr × List Addr} (h1 : q.1 = p.1) (h2 : p.2 <+: q.2) {k : Nat} {a : Addr} (h : (adr p)[k]? = some a) : (adr q)[k]? = some a := by
  cases k with
  | zero => simp [adr] at h ⊢; exact h1.trans h
  | succ k =>
    have h' : p.2[k]? = some a := h
    obtain ⟨t, ht⟩ := h2
    show q.2[k]? = some a
    rw [← ht, List.getElem?_append_left (List.getElem?_eq_some_iff.mp h').1]
    exact h'
/-- what a run does to the heap -/
abbrev StepW (α : Mp_) (hp : List O) (H : Hp) (α' : Mp_) (hp' : List O) (H' : Hp) : Prop := Step (Al α hp) (Mt α hp) H (Al α' hp') (Mt α' hp') H'
/-- .. as far as data lean on it -/
abbrev StepA (α : Mp_) (hp : List O) (H : Hp) (α' : Mp_) (hp' : List O) (H' : Hp) : Prop := Step (Al α hp) (Al α hp) H (Al α' hp') (Al α' hp') H'
theorem Step.toA {α α' : Mp_} {hp hp' : List O} {H H' : Hp} (s : StepW α hp H α' hp' H') : StepA α hp H α' hp' H' := ⟨fun a o h n => s.keep a o h fun z => n (.inl z), s.newA, s.newA, fun _ h => h, s.stay⟩
/-- what an expression may have done -/
structure Ext (α : Mp_) (hp : List O) (H : Hp) (α' : Mp_) (hp' : List O) (H' : Hp) : Prop where
  pre : Pre α α'
  step : StepW α hp H α' hp' H'
  nw : ∀ (n : Nat) (p : Addr × List Addr), α.own.length ≤ n → α'.own[n]? = some p → H p.1 = none
theorem none_back {H H' : Hp} (h : ∀ a o, H a = some o → ∃ u, H' a = some u) {a : Addr} (e : H' a = none) : H a = none := by
  cases q : H a with
  | none => rfl
  | some o =>
    obtain ⟨u, hu⟩ := h a o q
    rw [e] at hu
    cases hu
theorem at_none {τ : Type} {l : List τ} {n : Nat} {x : τ} (h : l.length ≤ n) (e : l[n]? = some x) : False := by
  rw [List.getElem?_eq_none h] at e
  cases e
theorem Ext.refl {α : Mp_} {hp : List O} {H : Hp} : Ext α hp H α hp H := ⟨Pre.refl _, Step.refl al_sub, fun _ _ h e => (at_none h e).elim⟩
theorem Ext.trans {α β γ : Mp_} {hp hp1 hp2 : List O} {H H1 H2 : Hp} (a : Ext α hp H β hp1 H1) (b : Ext β hp1 H1 γ hp2 H2) : Ext α hp H γ hp2 H2 := ⟨a.pre.trans b.pre, a.step.trans b.step, fun n p h e => by
  by_cases hn : n < β.own.length
  · obtain ⟨q, h1, h2⟩ := b.pre.get (List.getElem?_eq_getElem hn)
    rw [e] at h1
    cases h1
    rw [h2]
    exact a.nw n _ h (List.getElem?_eq_getElem hn)
  · exact none_back a.step.stay (b.nw n p (by omega) e)⟩
theorem SRep.mono {K : Frag} {α β : Mp_} {hp hp1 : List O} {H H1 : Hp} (e : Ext α hp H β hp1 H1) : ∀ {s : S} {v : V}, SRep K α hp H s v → SRep K β hp1 H1 s v
  | .d x, v, h => Rep.mono e.step x v h
  | .mu n, v, ⟨p, h, q⟩ => by
    obtain ⟨p', h', e'⟩ := e.pre.get h
    exact ⟨p', h', by rw [q, e']⟩
  | .ob n k, v, ⟨p, a, h, g, q⟩ => by
    obtain ⟨p', h', e1, e2⟩ := e.pre.own n p h
    exact ⟨p', a, h', adr_le e1 e2 g, q⟩
  | .exn a c d x, v, ⟨q, h⟩ => ⟨q, h.mono e.step⟩
theorem EnvR.mono {K : Frag} {α β : Mp_} {hp hp1 : List O} {H H1 : Hp} {env : List (Option S)} {σ : L2.St} (e : Ext α hp H β hp1 H1) (h : EnvR K α hp H env σ) : EnvR K β hp1 H1 env σ :=
  ⟨h.1, fun i s hi => by obtain ⟨v, h1, h2⟩ := h.2 i s hi; exact ⟨v, h1, h2.mono e⟩⟩
theorem RepK.mono {K : Frag} {A M A' M' : Av} {H H' : Hp} (s : Step A M H A' M' H') : ∀ {l : List (Key × D)} {ws : List (Key × V)}, RepK K A H l ws → RepK K A' H' l ws
  | [], _, h => h
  | (k, d) :: r, _, ⟨v, t, e, h, q⟩ => ⟨v, t, e, Rep.mono s d v h, RepK.mono s q⟩
theorem RepN.mono {K : Frag} {A M A' M' : Av} {H H' : Hp} {as bs : List Addr} (s : Step A M H A' M' H') (l : ∀ (k : Nat) (a : Addr), as[k]? = some a → bs[k]? = some a) : ∀ {x : Nd} {v : V}, RepN K A H as x v → RepN K A' H' bs x v
  | .d _, _, h => Rep.mono s _ _ h
  | .nd k, _, ⟨a, h, e⟩ => ⟨a, l k a h, e⟩
theorem GR.mono {K : Frag} {A M A' M' : Av} {H H' : Hp} {as bs : List Addr} (s : Step A M H A' M' H') (l : ∀ (k : Nat) (a : Addr), as[k]? = some a → bs[k]? = some a) {a : Addr} (ha : H' a = H a) : ∀ {g : Gn}, GR K A H as a g → GR K A' H' bs a g
  | .lst _, ⟨vs, h, r⟩ => ⟨vs, ha.trans h, L2.Paired.mapP r fun _ _ q => q.mono s l⟩
  | .ins _ _, ⟨dx, ws, h, r⟩ => ⟨dx, ws, ha.trans h, L2.Paired.mapP r fun _ _ q => ⟨q.1, q.2.mono s l⟩⟩
theorem GR.there {K : Frag} {A : Av} {H : Hp} {as : List Addr} {a : Addr} : ∀ {g : Gn}, GR K A H as a g → ∃ o, H a = some o
  | .lst _, ⟨vs, h, r⟩ => ⟨_, h⟩
  | .ins _ _, ⟨dx, ws, h, r⟩ => ⟨_, h⟩
/-- what may change stands in the heap -/
theorem WOk.mt {K : Frag} {α : Mp_} {hp : List O} {H : Hp} (w : WOk K α hp H) {a : Addr} (h : Mt α hp a) : ∃ o, H a = some o := by
  obtain ⟨n, p, o, h1, h2, h3, h4⟩ := h
  have q := w.obj n o p h2 h1
  cases o with
  | lst ds =>
    obtain ⟨e, vs, h, _⟩ := q
    rcases h4 with z | z
    · subst z; exact ⟨_, h⟩
    · rw [e] at z; cases z
  | dct kvs =>
    obtain ⟨e, vs, h, _⟩ := q
    rcases h4 with z | z
    · subst z; exact ⟨_, h⟩
    · rw [e] at z; cases z
  | reg gs =>
    obtain ⟨e, r⟩ := q
    obtain ⟨k, hk, e2⟩ := List.mem_iff_getElem.mp (show a ∈ adr p from List.mem_cons.mpr h4)
    exact (r k gs[k] a (List.getElem?_eq_getElem (by omega)) (by rw [List.getElem?_eq_getElem hk, e2])).there
  | gone => exact absurd rfl h3
theorem WOk.there {K : Frag} {α : Mp_} {hp : List O} {H : Hp} (w : WOk K α hp H) {a : Addr} (h : Al α hp a) : ∃ o, H a = some o := h.elim w.mt fun h => (w.ban a h).1
theorem WOk.non {K : Frag} {α : Mp_} {hp : List O} {H : Hp} (w : WOk K α hp H) : ∀ a, H a = none → ¬ Al α hp a := fun a h z => by
  obtain ⟨o, ho⟩ := w.there z
  rw [h] at ho
  cases ho
/-- a new thing that nobody changes -/
theorem Ext.fresh {α : Mp_} {hp : List O} {H : Hp} {p : Addr} {o : HO} (h : H p = none) : Ext α hp H α hp (upd H p o) := ⟨Pre.refl _, Step.fresh al_sub h, fun _ _ h e => (at_none h e).elim⟩
/-- an object's description goes along where its own addresses are as they were -/
theorem OR.mono {K : Frag} {A M A' M' : Av} {H H' : Hp} {p : Addr × List Addr} (s : Step A M H A' M' H') : ∀ {o : O}, OR K A H p o → (o ≠ .gone → ∀ b, b = p.1 ∨ b ∈ p.2 → H' b = H b) → OR K A' H' p o
  | .lst ds, ⟨e, vs, h, r⟩, k => ⟨e, vs, by rw [k (fun z => nomatch z) _ (.inl rfl)]; exact h, RepL.mono s _ _ r⟩
  | .dct kvs, ⟨e, vs, h, r⟩, k => ⟨e, vs, by rw [k (fun z => nomatch z) _ (.inl rfl)]; exact h, r.mono s⟩
  | .reg gs, ⟨e, r⟩, k => ⟨e, fun j g a h1 h2 => (r j g a h1 h2).mono s (fun _ _ h => h) (k (fun z => nomatch z) a (List.mem_cons.mp (List.mem_iff_getElem?.mpr ⟨j, h2⟩)))⟩
  | .gone, _, _ => trivial
theorem WOk.fresh {K : Frag} {α : Mp_} {hp : List O} {H : Hp} {p : Addr} {o : HO} (w : WOk K α hp H) (h : H p = none) : WOk K α hp (upd H p o) :=
  ⟨w.len, fun n u q h1 h2 => (w.obj n u q h1 h2).mono (Step.fresh al_sub h) fun hg b hb => by
    obtain ⟨x, hx⟩ := w.mt ⟨n, q, u, h2, h1, hg, hb⟩
    exact upd_ne (ne_of_none hx h), w.one, w.inj, fun a ha => by
    obtain ⟨⟨x, hx⟩, hm⟩ := w.ban a ha
    exact ⟨⟨x, by rw [upd_ne (ne_of_none hx h)]; exact hx⟩, hm⟩⟩
/-- one more thing is banned -/
theorem WOk.banned {K : Frag} {α : Mp_} {hp : List O} {H : Hp} {p : Addr} {o : HO} (w : WOk K α hp H) (h : H p = none) : WOk K { α with ban := fun a => α.ban a ∨ a = p } hp (upd H p o) ∧ StepW α hp H { α with ban := fun a => α.ban a ∨ a = p } hp (upd H p o) := by
  have st : StepW α hp H { α with ban := fun a => α.ban a ∨ a = p } hp (upd H p o) := ⟨fun a u e _ => by rw [upd_ne (ne_of_none e h)]; exact e, fun a z => by
    rcases z with z | z | z
    · exact .inl (.inl z)
    · exact .inl (.inr z)
    · subst z; exact .inr h, fun _ z => .inl z, al_sub, fun a u e => ⟨u, by rw [upd_ne (ne_of_none e h)]; exact e⟩⟩
  refine ⟨⟨w.len, fun n u q h1 h2 => (w.obj n u q h1 h2).mono st fun hg b hb => by
    obtain ⟨x, hx⟩ := w.mt ⟨n, q, u, h2, h1, hg, hb⟩
    exact upd_ne (ne_of_none hx h), w.one, w.inj, fun a ha => ?_⟩, st⟩
  rcases ha with ha | ha
  · obtain ⟨⟨x, hx⟩, hm⟩ := w.ban a ha
    exact ⟨⟨x, by rw [upd_ne (ne_of_none hx h)]; exact hx⟩, hm⟩
  · subst ha
    exact ⟨⟨o, upd_same⟩, fun z => by
      obtain ⟨x, hx⟩ := w.mt z
      rw [h] at hx
      cases hx⟩
end Mp

set_option Elab.async false
set_option linter.all false
set_option maxRecDepth 100000
set_option maxHeartbeats 4000000
/-! Mp2: expressions: what they do to data and objects, with no address in sight. -/
namespace Mp
open PySem PySem.Spec PyProof.Rows L2

structure PS where
  hp : List O
  env : List (Option S)
  n0 : Nat
abbrev MX := Exn → List O → Prop
abbrev ME := PS → (S → List O → Prop) → MX → Prop
abbrev MT := PS → (Bool → List O → Prop) → MX → Prop
abbrev MA := PS → (List S → List O → Prop) → MX → Prop

def PostE (K : Frag) (α : Mp_) (hp : List O) (H : Hp) (R : S → List O → Prop) (Q : VK) : Prop :=
  ∀ s hp' α' H' v, R s hp' → Ext α hp H α' hp' H' → WOk K α' hp' H' → SRep K α' hp' H' s v → Q v H'
def PostT (K : Frag) (α : Mp_) (hp : List O) (H : Hp) (R : Bool → List O → Prop) (Q : Bool → Hp → Prop) : Prop :=
  ∀ b hp' α' H', R b hp' → Ext α hp H α' hp' H' → WOk K α' hp' H' → Q b H'
def SRepL (K : Frag) (α : Mp_) (hp : List O) (H : Hp) : List S → List V → Prop := Paired (SRep K α hp H)
def PostA (K : Frag) (α : Mp_) (hp : List O) (H : Hp) (R : List S → List O → Prop) (Q : List V → Hp → Prop) : Prop :=
  ∀ ss hp' α' H' vs, R ss hp' → Ext α hp H α' hp' H' → WOk K α' hp' H' → SRepL K α' hp' H' ss vs → Q vs H'
def PostX (K : Frag) (W : WX) (σ : L2.St) (α : Mp_) (hp : List O) (H : Hp) (Xp : MX) : Prop :=
  ∀ x hp' α' H' c dd, Xp x hp' → Ext α hp H α' hp' H' → WOk K α' hp' H' → XRep K (Al α' hp') H' x c dd → W c dd σ H'
section
variable {K : Frag} {W : WX} {σ : L2.St} {α β : Mp_} {hp hp1 : List O} {H H1 : Hp}
theorem PostE.at {R : S → List O → Prop} {Q : VK} (p : PostE K α hp H R Q) (e : Ext α hp H β hp1 H1) : PostE K β hp1 H1 R Q := fun s h a h' v r e' w q => p s h a h' v r (e.trans e') w q
theorem PostT.at {R : Bool → List O → Prop} {Q : Bool → Hp → Prop} (p : PostT K α hp H R Q) (e : Ext α hp H β hp1 H1) : PostT K β hp1 H1 R Q := fun s h a h' r e' w => p s h a h' r (e.trans e') w
theorem PostA.at {R : List S → List O → Prop} {Q : List V → Hp → Prop} (p : PostA K α hp H R Q) (e : Ext α hp H β hp1 H1) : PostA K β hp1 H1 R Q := fun s h a h' v r e' w q => p s h a h' v r (e.trans e') w q
theorem PostX.at {Xp : MX} (p : PostX K W σ α hp H Xp) (e : Ext α hp H β hp1 H1) : PostX K W σ β hp1 H1 Xp := fun x h a h' c dd r e' w q => p x h a h' c dd r (e.trans e') w q
theorem SRepL.mono (e : Ext α hp H β hp1 H1) {ss : List S} {vs : List V} (h : SRepL K α hp H ss vs) : SRepL K β hp1 H1 ss vs := L2.Paired.mapP h fun _ _ q => q.mono e
end

def SimE (K : Frag) (W : WX) (t : TE) (M : ME) : Prop := ∀ (α : Mp_) (s : PS) (H : Hp) (σ : L2.St), WOk K α s.hp H → EnvR K α s.hp H s.env σ → ∀ R Xp, M s R Xp → ∀ Q : VK, PostE K α s.hp H R Q → PostX K W σ α s.hp H Xp → t σ H Q
def SimT (K : Frag) (W : WX) (t : TT) (M : MT) : Prop := ∀ (α : Mp_) (s : PS) (H : Hp) (σ : L2.St), WOk K α s.hp H → EnvR K α s.hp H s.env σ → ∀ R Xp, M s R Xp → ∀ Q : Bool → Hp → Prop, PostT K α s.hp H R Q → PostX K W σ α s.hp H Xp → t σ H Q
def SimA (K : Frag) (W : WX) (t : TA) (M : MA) : Prop := ∀ (α : Mp_) (s : PS) (H : Hp) (σ : L2.St), WOk K α s.hp H → EnvR K α s.hp H s.env σ → ∀ R Xp, M s R Xp → ∀ Q : List V → Hp → Prop, PostA K α s.hp H R Q → PostX K W σ α s.hp H Xp → t σ H Q

/-! ### values -/
def on {τ : Type} (o : Option τ) (k : τ → Prop) : Prop := match o with
  | some x => k x
  | none => False
@[simp] theorem on_some {τ : Type} {x : τ} {k : τ → Prop} : on (some x) k = k x := rfl
@[simp] theorem on_none {τ : Type} {k : τ → Prop} : on (none : Option τ) k = False := rfl
theorem on.ex {τ : Type} {o : Option τ} {k : τ → Prop} (h : on o k) : ∃ x, o = some x ∧ k x := by
  cases o with
  | none => exact h.elim
  | some x => exact ⟨x, rfl, h⟩
/-- data alone -/
def dsOf : List Nd → Option (List D)
  | [] => some []
  | .d x :: r => (dsOf r).map (x :: ·)
  | .nd _ :: _ => none
/-- a node -/
def nodeAt (hp : List O) (n k : Nat) : Option Gn := match hp[n]? with
  | some (.reg gs) => gs[k]?
  | _ => none
theorem nodeAt_some {hp : List O} {n k : Nat} {g : Gn} (h : nodeAt hp n k = some g) : ∃ gs, hp[n]? = some (.reg gs) ∧ gs[k]? = some g := by
  unfold nodeAt at h
  split at h
  · rename_i gs e; exact ⟨gs, e, h⟩
  · cases h
theorem RepNL.ds {K : Frag} {A : Av} {H : Hp} {as : List Addr} : ∀ {xs : List Nd} {vs : List V} {ds : List D}, RepNL K A H as xs vs → dsOf xs = some ds → RepL K A H ds vs
  | [], _, ds, h, e => by cases h; cases e; exact .nil
  | .d x :: r, _, ds, h, e => by
    cases h with
    | cons h t =>
      unfold dsOf at e
      cases g : dsOf r with
      | none => rw [g] at e; cases e
      | some es =>
        rw [g] at e
        cases e
        exact .cons h (RepNL.ds t g)
  | .nd _ :: _, _, _, _, e => by cases e
theorem WOk.node {K : Frag} {α : Mp_} {hp : List O} {H : Hp} (w : WOk K α hp H) {n k : Nat} {g : Gn} {p : Addr × List Addr} {a : Addr} (h : nodeAt hp n k = some g) (hp' : α.own[n]? = some p) (ha : (adr p)[k]? = some a) : GR K (Al α hp) H (adr p) a g := by
  obtain ⟨gs, h1, h2⟩ := nodeAt_some h
  exact (w.obj n _ p h1 hp').2 k g a h2 ha
/-- what a thing is now -/
def val (hp : List O) : S → Option D
  | .d x => some x
  | .mu n => match hp[n]? with
    | some (.lst ds) => some (.lst ds)
    | _ => none
  | .ob n k => match nodeAt hp n k with
    | some (.lst xs) => (dsOf xs).map .lst
    | _ => none
  | .exn _ _ _ _ => none
@[simp] theorem val_d {hp : List O} {x : D} : val hp (.d x) = some x := rfl
theorem val_mu {hp : List O} {n : Nat} {ds : List D} (h : hp[n]? = some (.lst ds)) : val hp (.mu n) = some (.lst ds) := by simp [val, h]
theorem SRep.val {K : Frag} {α : Mp_} {hp : List O} {H : Hp} (w : WOk K α hp H) : ∀ {s : S} {v : V} {d : D}, SRep K α hp H s v → val hp s = some d → RepT K (Al α hp) H d v
  | .d x, v, d, h, e => by cases e; exact h.t
  | .mu n, v, d, ⟨p, h, q⟩, e => by
    simp only [Mp.val] at e
    cases g : hp[n]? with
    | none => rw [g] at e; cases e
    | some o =>
      rw [g] at e
      cases o with
      | lst ds =>
        cases e
        obtain ⟨_, vs, h1, h2⟩ := w.obj n _ p g h
        exact ⟨p.1, vs, q, h1, h2⟩
      | dct _ => cases e
      | reg _ => cases e
      | gone => cases e
  | .ob n k, v, d, ⟨p, a, h, ha, q⟩, e => by
    simp only [Mp.val] at e
    cases g : nodeAt hp n k with
    | none => rw [g] at e; cases e
    | some o =>
      rw [g] at e
      cases o with
      | lst xs =>
        obtain ⟨vs, h1, h2⟩ := w.node g h ha
        cases z : dsOf xs with
        | none => simp only [z] at e; cases e
        | some ds =>
          simp only [z] at e
          cases e
          exact ⟨a, vs, q, h1, h2.ds z⟩
      | ins _ _ => cases e
  | .exn _ _ _ _, _, _, _, e => by cases e

def mVar (i : Nat) : ME := fun s R _ => match s.env[i]? with
  | some (some v) => R v s.hp
  | _ => False
theorem sim_var {K : Frag} {W : WX} (i : Nat) : SimE K W (tVar i) (mVar i) := by
  intro α s H σ w e R Xp m Q q _
  unfold mVar at m
  cases g : s.env[i]? with
  | none => rw [g] at m; exact m.elim
  | some o =>
    rw [g] at m
    cases o with
    | none => exact m.elim
    | some x =>
      obtain ⟨v, h1, h2⟩ := e.2 i x g
      exact ⟨v, h1, q x s.hp α H v m Ext.refl w h2⟩
def mC (d : D) : ME := fun s R _ => R (.d d) s.hp
theorem sim_c {K : Frag} {W : WX} {v : V} {d : D} (h : ∀ A H, Rep K A H d v) : SimE K W (tC v) (mC d) := fun α s H σ w e R Xp m Q q _ => q _ _ α H v m Ext.refl w (h _ _)

theorem WOk.grown {K : Frag} {α : Mp_} {hp : List O} {H H' : Hp} (w : WOk K α hp H) (st : H' = H ∨ ∃ p o, H p = none ∧ H' = upd H p o) : Ext α hp H α hp H' ∧ WOk K α hp H' := by
  rcases st with rfl | ⟨p0, o, hn, rfl⟩
  · exact ⟨Ext.refl, w⟩
  · exact ⟨Ext.fresh hn, w.fresh hn⟩
/-! ### operators of two, of one, on data -/
/-- f d1 d2 P: the operation is let, and P of what it gives -/
abbrev F2 := D → D → (D → Prop) → Prop
def Sim2 (K : Frag) (r : R2) (f : F2) : Prop := ∀ (A : Av) (H : Hp) (d1 d2 : D) (v1 v2 : V), (∀ a, H a = none → ¬ A a) → RepT K A H d1 v1 → RepT K A H d2 v2 → ∀ P, f d1 d2 P → ∀ Q : VK, (∀ d v H', P d → Rep K A H' d v → (H' = H ∨ ∃ p o, H p = none ∧ H' = upd H p o) → Q v H') → r v1 v2 H Q
def m2 (f : F2) (Ma Mb : ME) : ME := fun s R Xp => Ma s (fun x hp1 => Mb { s with hp := hp1 } (fun y hp2 => on (val hp2 x) fun d1 => on (val hp2 y) fun d2 => f d1 d2 fun d => R (.d d) hp2) Xp) Xp
theorem sim_op {K : Frag} {W : WX} {r : R2} {f : F2} {ta tb : TE} {Ma Mb : ME} (hr : Sim2 K r f) (ha : SimE K W ta Ma) (hb : SimE K W tb Mb) : SimE K W (tOp r ta tb) (m2 f Ma Mb) := by
  intro α s H σ w e R Xp m Q q qx
  refine ha α s H σ w e _ _ m _ (fun x hp1 α1 H1 v1 m1 e1 w1 r1 => ?_) qx
  refine hb α1 { s with hp := hp1 } H1 σ w1 (e.mono e1) _ _ m1 _ (fun y hp2 α2 H2 v2 m2 e2 w2 r2 => ?_) (qx.at e1)
  have r1' := r1.mono e2
  obtain ⟨d1, g1, m2⟩ := on.ex m2
  obtain ⟨d2, g2, m2⟩ := on.ex m2
  refine hr _ H2 d1 d2 v1 v2 w2.non (r1'.val w2 g1) (r2.val w2 g2) _ m2 Q fun d v H' p rp st => ?_
  rcases st with rfl | ⟨p0, o, hn, rfl⟩
  · exact q _ _ α2 _ v p (e1.trans e2) w2 rp
  · exact q _ _ α2 _ v p ((e1.trans e2).trans (Ext.fresh hn)) (w2.fresh hn) rp
abbrev F1 := D → (D → Prop) → Prop
def Sim1 (K : Frag) (r : V → Hp → VK → Prop) (f : F1) : Prop := ∀ (A : Av) (H : Hp) (d1 : D) (v1 : V), (∀ a, H a = none → ¬ A a) → RepT K A H d1 v1 → ∀ P, f d1 P → ∀ Q : VK, (∀ d v H', P d → Rep K A H' d v → (H' = H ∨ ∃ p o, H p = none ∧ H' = upd H p o) → Q v H') → r v1 H Q
def m1 (f : F1) (Ma : ME) : ME := fun s R Xp => Ma s (fun x hp1 => on (val hp1 x) fun d1 => f d1 fun d => R (.d d) hp1) Xp
theorem sim_un {K : Frag} {W : WX} {r : V → Hp → VK → Prop} {f : F1} {ta : TE} {Ma : ME} (hr : Sim1 K r f) (ha : SimE K W ta Ma) : SimE K W (tUn r ta) (m1 f Ma) := by
  intro α s H σ w e R Xp m Q q qx
  refine ha α s H σ w e _ _ m _ (fun x hp1 α1 H1 v1 m1 e1 w1 r1 => ?_) qx
  obtain ⟨d1, g1, m1⟩ := on.ex m1
  all_goals
    refine hr _ H1 d1 v1 w1.non (r1.val w1 g1) _ m1 Q fun d v H' p rp st => ?_
    rcases st with rfl | ⟨p0, o, hn, rfl⟩
    · exact q _ _ α1 _ v p e1 w1 rp
    · exact q _ _ α1 _ v p (e1.trans (Ext.fresh hn)) (w1.fresh hn) rp

/-! ### arguments; built-ins on data -/
def mNil : MA := fun s R _ => R [] s.hp
def mCons (Ma : ME) (Mr : MA) : MA := fun s R Xp => Ma s (fun x hp1 => Mr { s with hp := hp1 } (fun xs hp2 => R (x :: xs) hp2) Xp) Xp
theorem sim_nil {K : Frag} {W : WX} : SimA K W tNil mNil := fun α s H σ w e R Xp m Q q _ => q _ _ α H [] m Ext.refl w .nil
theorem sim_cons {K : Frag} {W : WX} {ta : TE} {tr : TA} {Ma : ME} {Mr : MA} (ha : SimE K W ta Ma) (hr : SimA K W tr Mr) : SimA K W (tCons ta tr) (mCons Ma Mr) := by
  intro α s H σ w e R Xp m Q q qx
  refine ha α s H σ w e _ _ m _ (fun x hp1 α1 H1 v1 m1 e1 w1 r1 => ?_) qx
  refine hr α1 { s with hp := hp1 } H1 σ w1 (e.mono e1) _ _ m1 _ (fun xs hp2 α2 H2 vs m2 e2 w2 r2 => ?_) (qx.at e1)
  exact q _ _ α2 _ _ m2 (e1.trans e2) w2 (.cons (r1.mono e2) r2)
/-- a list of things as data -/
def vals (hp : List O) : List S → Option (List D)
  | [] => some []
  | x :: xs => match val hp x, vals hp xs with
    | some d, some ds => some (d :: ds)
    | _, _ => none
abbrev FN := List D → (D → Prop) → Prop
def RepTL (K : Frag) (A : Av) (H : Hp) : List D → List V → Prop := Paired (RepT K A H)
theorem SRepL.vals {K : Frag} {α : Mp_} {hp : List O} {H : Hp} (w : WOk K α hp H) : ∀ {ss : List S} {vs : List V} {ds : List D}, SRepL K α hp H ss vs → vals hp ss = some ds → RepTL K (Al α hp) H ds vs
  | [], _, ds, h, e => by cases h; cases e; exact .nil
  | x :: xs, _, ds, h, e => by
    cases h with
    | cons h t =>
      unfold Mp.vals at e
      cases g1 : val hp x with
      | none => rw [g1] at e; cases e
      | some d =>
        cases g2 : Mp.vals hp xs with
        | none => rw [g1, g2] at e; cases e
        | some es =>
          rw [g1, g2] at e
          cases e
          exact .cons (h.val w g1) (SRepL.vals w t g2)
def SimN (K : Frag) (r : List V → Hp → VK → Prop) (f : FN) : Prop := ∀ (A : Av) (H : Hp) (ds : List D) (vs : List V), (∀ a, H a = none → ¬ A a) → RepTL K A H ds vs → ∀ P, f ds P → ∀ Q : VK, (∀ d v H', P d → Rep K A H' d v → (H' = H ∨ ∃ p o, H p = none ∧ H' = upd H p o) → Q v H') → r vs H Q
def mN (f : FN) (Ma : MA) : ME := fun s R Xp => Ma s (fun xs hp1 => on (vals hp1 xs) fun ds => f ds fun d => R (.d d) hp1) Xp
theorem sim_cb {K : Frag} {W : WX} {r : List V → Hp → VK → Prop} {f : FN} {ta : TA} {Ma : MA} (hr : SimN K r f) (ha : SimA K W ta Ma) : SimE K W (tCB r ta) (mN f Ma) := by
  intro α s H σ w e R Xp m Q q qx
  refine ha α s H σ w e _ _ m _ (fun x hp1 α1 H1 v1 m1 e1 w1 r1 => ?_) qx
  obtain ⟨d1, g1, m1⟩ := on.ex m1
  all_goals
    refine hr _ H1 d1 v1 w1.non (r1.vals w1 g1) _ m1 Q fun d v H' p rp st => ?_
    rcases st with rfl | ⟨p0, o, hn, rfl⟩
    · exact q _ _ α1 _ v p e1 w1 rp
    · exact q _ _ α1 _ v p (e1.trans (Ext.fresh hn)) (w1.fresh hn) rp

/-! ### displays: all items are data -/
def allD : List S → Option (List D)
  | [] => some []
  | .d x :: xs => match allD xs with
    | some ds => some (x :: ds)
    | _ => none
  | .mu _ :: _ => none
  | .ob _ _ :: _ => none
  | .exn _ _ _ _ :: _ => none
theorem SRepL.allD {K : Frag} {α : Mp_} {hp : List O} {H : Hp} : ∀ {ss : List S} {vs : List V} {ds : List D}, SRepL K α hp H ss vs → allD ss = some ds → RepL K (Al α hp) H ds vs
  | [], _, ds, h, e => by cases h; cases e; exact .nil
  | .d x :: xs, _, ds, h, e => by
    cases h with
    | cons h t =>
      unfold Mp.allD at e
      cases g2 : Mp.allD xs with
      | none => rw [g2] at e; cases e
      | some es =>
        rw [g2] at e
        cases e
        exact .cons h (SRepL.allD t g2)
  | .mu _ :: _, _, _, _, e => by cases e
  | .ob _ _ :: _, _, _, _, e => by cases e
  | .exn _ _ _ _ :: _, _, _, _, e => by cases e
def mTup (Ma : MA) : ME := fun s R Xp => Ma s (fun xs hp1 => on (allD xs) fun ds => ds.length ≤ sizeLine ∧ R (.d (.tup ds)) hp1) Xp
theorem sim_tup {K : Frag} {W : WX} {ta : TA} {Ma : MA} (ha : SimA K W ta Ma) : SimE K W (tTup ta) (mTup Ma) := by
  intro α s H σ w e R Xp m Q q qx
  refine ha α s H σ w e _ _ m _ (fun x hp1 α1 H1 v1 m1 e1 w1 r1 => ?_) qx
  obtain ⟨d1, g1, m1⟩ := on.ex m1
  all_goals
    have r2 := r1.allD g1
    refine ⟨by rw [← r2.length]; exact m1.1, fun p hn => ?_⟩
    have na : ¬ Al α1 hp1 p := fun z => by obtain ⟨o, ho⟩ := w1.there z; rw [hn] at ho; cases ho
    exact q _ _ α1 _ _ m1.2 (e1.trans (Ext.fresh hn)) (w1.fresh hn) ⟨p, v1, rfl, .inl ⟨upd_same, na⟩, RepL.mono (Step.fresh al_sub hn) _ _ r2⟩
/-- a new list that nobody will change -/
def mLst (Ma : MA) : ME := fun s R Xp => Ma s (fun xs hp1 => on (allD xs) fun ds => ds.length ≤ sizeLine ∧ R (.d (.lst ds)) hp1) Xp
theorem sim_lst {K : Frag} {W : WX} {ta : TA} {Ma : MA} (ha : SimA K W ta Ma) : SimE K W (tLst ta) (mLst Ma) := by
  intro α s H σ w e R Xp m Q q qx
  refine ha α s H σ w e _ _ m _ (fun x hp1 α1 H1 v1 m1 e1 w1 r1 => ?_) qx
  obtain ⟨d1, g1, m1⟩ := on.ex m1
  all_goals
    have r2 := r1.allD g1
    refine ⟨by rw [← r2.length]; exact m1.1, fun p hn => ?_⟩
    have na : ¬ Al α1 hp1 p := fun z => by obtain ⟨o, ho⟩ := w1.there z; rw [hn] at ho; cases ho
    exact q _ _ α1 _ _ m1.2 (e1.trans (Ext.fresh hn)) (w1.fresh hn) ⟨p, v1, rfl, ⟨upd_same, na⟩, RepL.mono (Step.fresh al_sub hn) _ _ r2⟩
/-! ### a new object -/
def Mp_.push (α : Mp_) (p : Addr × List Addr) : Mp_ := { α with own := α.own ++ [p] }
theorem mt_push {α : Mp_} {hp : List O} (hl : α.own.length = hp.length) {p : Addr × List Addr} {o : O} {a : Addr} : Mt (α.push p) (hp ++ [o]) a ↔ Mt α hp a ∨ (o ≠ .gone ∧ (a = p.1 ∨ a ∈ p.2)) := by
  constructor
  · rintro ⟨n, q, u, h1, h2, h3, h4⟩
    have h1 : (α.own ++ [p])[n]? = some q := h1
    by_cases hn : n < α.own.length
    · rw [List.getElem?_append_left hn] at h1
      rw [List.getElem?_append_left (by omega)] at h2
      exact .inl ⟨n, q, u, h1, h2, h3, h4⟩
    · have hx : n < (α.own ++ [p]).length := (List.getElem?_eq_some_iff.mp h1).1
      have en : n = α.own.length := by simp at hx; omega
      subst en
      rw [List.getElem?_append_right (Nat.le_refl _)] at h1
      rw [hl, List.getElem?_append_right (Nat.le_refl _)] at h2
      simp at h1 h2
      subst h1 h2
      exact .inr ⟨h3, h4⟩
  · rintro (⟨n, q, u, h1, h2, h3, h4⟩ | ⟨h3, h4⟩)
    · refine ⟨n, q, u, ?_, ?_, h3, h4⟩
      · show (α.own ++ [p])[n]? = _
        rw [List.getElem?_append_left (List.getElem?_eq_some_iff.mp h1).1]; exact h1
      · rw [List.getElem?_append_left (List.getElem?_eq_some_iff.mp h2).1]; exact h2
    · refine ⟨α.own.length, p, o, ?_, ?_, h3, h4⟩
      · show (α.own ++ [p])[α.own.length]? = _
        rw [List.getElem?_append_right (Nat.le_refl _)]; simp
      · rw [hl, List.getElem?_append_right (Nat.le_refl _)]; simp
/-- a new object at p -/
theorem WOk.pushO {K : Frag} {α : Mp_} {hp : List O} {H H' : Hp} {p : Addr × List Addr} {o : O} (w : WOk K α hp H) (st : StepW α hp H (α.push p) (hp ++ [o]) H')
    (same : ∀ a, Al α hp a → H' a = H a) (na : ∀ a, (a = p.1 ∨ a ∈ p.2) → ¬ Al α hp a) (one : p.1 ∉ p.2 ∧ p.2.Nodup) (ho : OR K (Al (α.push p) (hp ++ [o])) H' p o) : WOk K (α.push p) (hp ++ [o]) H' := by
  have hl := w.len
  have cut : ∀ (n : Nat) (u : O) (q : Addr × List Addr), (hp ++ [o])[n]? = some u → (α.own ++ [p])[n]? = some q → (hp[n]? = some u ∧ α.own[n]? = some q) ∨ (n = hp.length ∧ u = o ∧ q = p) := fun n u q h1 h2 => by
    by_cases hn : n < hp.length
    · rw [List.getElem?_append_left hn] at h1
      rw [List.getElem?_append_left (by omega)] at h2
      exact .inl ⟨h1, h2⟩
    · have hx : n < (hp ++ [o]).length := (List.getElem?_eq_some_iff.mp h1).1
      have en : n = hp.length := by simp at hx; omega
      subst en
      rw [List.getElem?_append_right (Nat.le_refl _)] at h1
      rw [← hl, List.getElem?_append_right (Nat.le_refl _)] at h2
      simp at h1 h2
      exact .inr ⟨rfl, h1.symm, h2.symm⟩
  refine ⟨by show (α.own ++ [p]).length = _; simp [hl], fun n u q h1 h2 => ?_, fun n u q h1 h2 hg => ?_, fun m n u u' q q' h1 h2 h3 h4 h5 h6 hne a ha hb => ?_, fun a ha => ?_⟩
  · rcases cut n u q h1 h2 with ⟨h1, h2⟩ | ⟨_, rfl, rfl⟩
    · exact (w.obj n u q h1 h2).mono st fun hg b hb => same b (.inl ⟨n, q, u, h2, h1, hg, hb⟩)
    · exact ho
  · rcases cut n u q h1 h2 with ⟨h1, h2⟩ | ⟨_, rfl, rfl⟩
    · exact w.one n u q h1 h2 hg
    · exact one
  · rcases cut m u q h1 h2 with ⟨h1, h2⟩ | ⟨e1, rfl, rfl⟩
    · rcases cut n u' q' h4 h5 with ⟨h4, h5⟩ | ⟨e2, z1, z2⟩
      · exact w.inj m n u u' q q' h1 h2 h3 h4 h5 h6 hne a ha hb
      · rw [z2] at hb; exact na a hb (.inl ⟨m, q, u, h2, h1, h3, ha⟩)
    · rcases cut n u' q' h4 h5 with ⟨h4, h5⟩ | ⟨e2, rfl, rfl⟩
      · exact na a ha (.inl ⟨n, q', u', h5, h4, h6, hb⟩)
      · exact hne (e1.trans e2.symm)
  · have ha : α.ban a := ha
    obtain ⟨⟨x, hx⟩, hm⟩ := w.ban a ha
    refine ⟨⟨x, by rw [same a (.inr ha)]; exact hx⟩, fun z => ?_⟩
    rcases (mt_push hl).mp z with z | ⟨_, z⟩
    · exact hm z
    · exact na a z (.inr ha)
theorem Ext.push {α : Mp_} {hp : List O} {H H' : Hp} {p : Addr × List Addr} {o : O} (st : StepW α hp H (α.push p) (hp ++ [o]) H') (hn : H p.1 = none) : Ext α hp H (α.push p) (hp ++ [o]) H' :=
  ⟨⟨OwnLe.app _ _, rfl⟩, st, fun n q h e => by
    have e : (α.own ++ [p])[n]? = some q := e
    rw [List.getElem?_append_right h] at e
    cases z : n - α.own.length with
    | zero => rw [z] at e; cases e; exact hn
    | succ k => rw [z] at e; cases e⟩
/-- a new list at p, to be changed -/
theorem WOk.pushLst {K : Frag} {α : Mp_} {hp : List O} {H : Hp} {p : Addr} {ds : List D} {vs : List V} (w : WOk K α hp H) (hn : H p = none) (r : RepL K (Al α hp) H ds vs) :
    WOk K (α.push (p, [])) (hp ++ [.lst ds]) (upd H p (.lst vs)) ∧ Ext α hp H (α.push (p, [])) (hp ++ [.lst ds]) (upd H p (.lst vs)) := by
  have mt : ∀ a, Mt (α.push (p, [])) (hp ++ [.lst ds]) a → Mt α hp a ∨ a = p := fun a h => by
    rcases (mt_push w.len).mp h with h | ⟨_, h⟩
    · exact .inl h
    · rcases h with h | h
      · exact .inr h
      · cases h
  have na : ¬ Al α hp p := w.non p hn
  have st : StepW α hp H (α.push (p, [])) (hp ++ [.lst ds]) (upd H p (.lst vs)) := ⟨(Step.fresh (A := Al α hp) (M := Mt α hp) al_sub hn).keep, fun a h => by
    rcases h with h | h
    · exact (mt a h).imp .inl fun e => by rw [e]; exact hn
    · exact .inl (.inr h), fun a h => (mt a h).imp id fun e => by rw [e]; exact hn, al_sub, (Step.fresh (A := Al α hp) (M := Mt α hp) al_sub hn).stay⟩
  refine ⟨w.pushO st (fun a h => upd_ne fun e => na (e ▸ h)) (fun a h => ?_) ⟨by simp, by simp⟩ ⟨rfl, vs, upd_same, RepL.mono st _ _ r⟩, Ext.push st hn⟩
  rcases h with h | h
  · rw [h]; exact na
  · cases h
def mLstM (Ma : MA) : ME := fun s R Xp => Ma s (fun xs hp1 => on (allD xs) fun ds => ds.length ≤ sizeLine ∧ R (.mu hp1.length) (hp1 ++ [.lst ds])) Xp
theorem sim_lstM {K : Frag} {W : WX} {ta : TA} {Ma : MA} (ha : SimA K W ta Ma) : SimE K W (tLst ta) (mLstM Ma) := by
  intro α s H σ w e R Xp m Q q qx
  refine ha α s H σ w e _ _ m _ (fun x hp1 α1 H1 v1 m1 e1 w1 r1 => ?_) qx
  obtain ⟨d1, g1, m1⟩ := on.ex m1
  all_goals
    have r2 := r1.allD g1
    refine ⟨by rw [← r2.length]; exact m1.1, fun p hn => ?_⟩
    obtain ⟨w2, e2⟩ := w1.pushLst hn r2
    exact q _ _ _ _ _ m1.2 (e1.trans e2) w2 ⟨(p, []), by show (α1.own ++ [(p, [])])[hp1.length]? = _; rw [← w1.len, List.getElem?_append_right (Nat.le_refl _)]; simp, rfl⟩

/-! ### tests -/
def asB : S → Option Bool
  | .d (.bl b) => some b
  | _ => none
theorem SRep.asB {K : Frag} {α : Mp_} {hp : List O} {H : Hp} {s : S} {v : V} {b : Bool} (h : SRep K α hp H s v) (e : asB s = some b) : v = .bl b := by
  unfold Mp.asB at e
  split at e
  · cases e; exact h
  · cases e
def mTest (Ma : ME) : MT := fun s R Xp => Ma s (fun x hp1 => on (asB x) fun b => R b hp1) Xp
theorem sim_test {K : Frag} {W : WX} {ta : TE} {Ma : ME} (ha : SimE K W ta Ma) : SimT K W (tTest ta) (mTest Ma) := by
  intro α s H σ w e R Xp m Q q qx
  refine ha α s H σ w e _ _ m _ (fun x hp1 α1 H1 v1 m1 e1 w1 r1 => ?_) qx
  obtain ⟨b, g1, m1⟩ := on.ex m1
  exact ⟨b, r1.asB g1, q _ _ α1 _ m1 e1 w1⟩
theorem sim_tB {K : Frag} {W : WX} {ta : TE} {Ma : ME} (ha : SimE K W ta Ma) : SimT K W (tB ta) (mTest Ma) := sim_test ha
def mAnd (Ma Mb : MT) : MT := fun s R Xp => Ma s (fun b hp1 => if b = true then Mb { s with hp := hp1 } R Xp else R false hp1) Xp
def mOr (Ma Mb : MT) : MT := fun s R Xp => Ma s (fun b hp1 => if b = true then R true hp1 else Mb { s with hp := hp1 } R Xp) Xp
def mNot (Ma : MT) : MT := fun s R Xp => Ma s (fun b hp1 => R (!b) hp1) Xp
theorem sim_and {K : Frag} {W : WX} {t u : TT} {Ma Mb : MT} (ha : SimT K W t Ma) (hb : SimT K W u Mb) : SimT K W (tAnd t u) (mAnd Ma Mb) := by
  intro α s H σ w e R Xp m Q q qx
  refine ha α s H σ w e _ _ m _ (fun b hp1 α1 H1 m1 e1 w1 => ?_) qx
  cases b with
  | true => exact hb α1 { s with hp := hp1 } H1 σ w1 (e.mono e1) _ _ m1 _ (q.at e1) (qx.at e1)
  | false => exact q _ _ α1 _ m1 e1 w1
theorem sim_or {K : Frag} {W : WX} {t u : TT} {Ma Mb : MT} (ha : SimT K W t Ma) (hb : SimT K W u Mb) : SimT K W (tOr t u) (mOr Ma Mb) := by
  intro α s H σ w e R Xp m Q q qx
  refine ha α s H σ w e _ _ m _ (fun b hp1 α1 H1 m1 e1 w1 => ?_) qx
  cases b with
  | true => exact q _ _ α1 _ m1 e1 w1
  | false => exact hb α1 { s with hp := hp1 } H1 σ w1 (e.mono e1) _ _ m1 _ (q.at e1) (qx.at e1)
theorem sim_not {K : Frag} {W : WX} {t : TT} {Ma : MT} (ha : SimT K W t Ma) : SimT K W (tNot t) (mNot Ma) := by
  intro α s H σ w e R Xp m Q q qx
  exact ha α s H σ w e _ _ m _ (fun b hp1 α1 H1 m1 e1 w1 => q _ _ α1 _ m1 e1 w1) qx
def mAndV (Ma Mb : ME) : ME := fun s R Xp => Ma s (fun x hp1 => on (asB x) fun b => if b = true then Mb { s with hp := hp1 } R Xp else R (.d (.bl false)) hp1) Xp
def mOrV (Ma Mb : ME) : ME := fun s R Xp => Ma s (fun x hp1 => on (asB x) fun b => if b = true then R (.d (.bl true)) hp1 else Mb { s with hp := hp1 } R Xp) Xp
def mNotV (Ma : ME) : ME := fun s R Xp => Ma s (fun x hp1 => on (asB x) fun b => R (.d (.bl (!b))) hp1) Xp
theorem sim_andV {K : Frag} {W : WX} {t u : TE} {Ma Mb : ME} (ha : SimE K W t Ma) (hb : SimE K W u Mb) : SimE K W (tAndV t u) (mAndV Ma Mb) := by
  intro α s H σ w e R Xp m Q q qx
  refine ha α s H σ w e _ _ m _ (fun x hp1 α1 H1 v1 m1 e1 w1 r1 => ?_) qx
  obtain ⟨b, g1, m1⟩ := on.ex m1
  all_goals
    refine ⟨b, r1.asB g1, ?_⟩
    cases b with
    | true => exact hb α1 { s with hp := hp1 } H1 σ w1 (e.mono e1) _ _ m1 _ (q.at e1) (qx.at e1)
    | false => exact q _ _ α1 _ _ m1 e1 w1 rfl
theorem sim_orV {K : Frag} {W : WX} {t u : TE} {Ma Mb : ME} (ha : SimE K W t Ma) (hb : SimE K W u Mb) : SimE K W (tOrV t u) (mOrV Ma Mb) := by
  intro α s H σ w e R Xp m Q q qx
  refine ha α s H σ w e _ _ m _ (fun x hp1 α1 H1 v1 m1 e1 w1 r1 => ?_) qx
  obtain ⟨b, g1, m1⟩ := on.ex m1
  all_goals
    refine ⟨b, r1.asB g1, ?_⟩
    cases b with
    | true => exact q _ _ α1 _ _ m1 e1 w1 rfl
    | false => exact hb α1 { s with hp := hp1 } H1 σ w1 (e.mono e1) _ _ m1 _ (q.at e1) (qx.at e1)
theorem sim_notV {K : Frag} {W : WX} {t : TE} {Ma : ME} (ha : SimE K W t Ma) : SimE K W (tNotV t) (mNotV Ma) := by
  intro α s H σ w e R Xp m Q q qx
  refine ha α s H σ w e _ _ m _ (fun x hp1 α1 H1 v1 m1 e1 w1 r1 => ?_) qx
  obtain ⟨b, g1, m1⟩ := on.ex m1
  exact ⟨b, r1.asB g1, q _ _ α1 _ _ m1 e1 w1 rfl⟩
def mIf (Mc : MT) (Ma Mb : ME) : ME := fun s R Xp => Mc s (fun b hp1 => if b = true then Ma { s with hp := hp1 } R Xp else Mb { s with hp := hp1 } R Xp) Xp
theorem sim_if {K : Frag} {W : WX} {c : TT} {t u : TE} {Mc : MT} {Ma Mb : ME} (hc : SimT K W c Mc) (ha : SimE K W t Ma) (hb : SimE K W u Mb) : SimE K W (tIf c t u) (mIf Mc Ma Mb) := by
  intro α s H σ w e R Xp m Q q qx
  refine hc α s H σ w e _ _ m _ (fun b hp1 α1 H1 m1 e1 w1 => ?_) qx
  cases b with
  | true => exact ha α1 { s with hp := hp1 } H1 σ w1 (e.mono e1) _ _ m1 _ (q.at e1) (qx.at e1)
  | false => exact hb α1 { s with hp := hp1 } H1 σ w1 (e.mono e1) _ _ m1 _ (q.at e1) (qx.at e1)
/-- a < b < c -/
def mChain (f g : F2) (Ma Mb Mc : ME) : ME := fun s R Xp => Ma s (fun x hp1 => Mb { s with hp := hp1 } (fun y hp2 => on (val hp2 x) fun d1 => on (val hp2 y) fun d2 => f d1 d2 fun d =>
  on (asB (.d d)) fun b => if b = true then Mc { s with hp := hp2 } (fun z hp3 => on (val hp3 y) fun d2 => on (val hp3 z) fun d3 => g d2 d3 fun d => R (.d d) hp3) Xp else R (.d (.bl false)) hp2) Xp) Xp
theorem sim_chain {K : Frag} {W : WX} {r r' : R2} {f g : F2} {ta tb tc : TE} {Ma Mb Mc : ME} (hr : Sim2 K r f) (hr' : Sim2 K r' g) (ha : SimE K W ta Ma) (hb : SimE K W tb Mb) (hc : SimE K W tc Mc) : SimE K W (tChain r r' ta tb tc) (mChain f g Ma Mb Mc) := by
  intro α s H σ w e R Xp m Q q qx
  refine ha α s H σ w e _ _ m _ (fun x hp1 α1 H1 v1 m1 e1 w1 r1 => ?_) qx
  refine hb α1 { s with hp := hp1 } H1 σ w1 (e.mono e1) _ _ m1 _ (fun y hp2 α2 H2 v2 m2 e2 w2 r2 => ?_) (qx.at e1)
  obtain ⟨d1, g1, m2⟩ := on.ex m2
  obtain ⟨d2, g2, m2⟩ := on.ex m2
  refine hr _ H2 d1 d2 v1 v2 w2.non ((r1.mono e2).val w2 g1) (r2.val w2 g2) _ m2 _ fun d v H' p rp st => ?_
  obtain ⟨b, g3, p⟩ := on.ex p
  obtain ⟨e3, w3⟩ := w2.grown st
  have hv : v = .bl b := by
    unfold asB at g3
    split at g3
    · cases g3; rename_i q; cases q; exact rp
    · cases g3
  refine ⟨b, hv, ?_⟩
  cases b with
  | false => exact q _ _ α2 _ _ p ((e1.trans e2).trans e3) w3 rfl
  | true =>
    refine hc α2 { s with hp := hp2 } H' σ w3 ((e.mono (e1.trans e2)).mono e3) _ _ p _ (fun z hp3 α3 H3 v3 m3 e4 w4 r4 => ?_) (((qx.at e1).at e2).at e3)
    obtain ⟨d2', g4, m3⟩ := on.ex m3
    obtain ⟨d3, g5, m3⟩ := on.ex m3
    refine hr' _ H3 d2' d3 v2 v3 w4.non (((r2.mono e3).mono e4).val w4 g4) (r4.val w4 g5) _ m3 Q fun d' v' H4 p' rp' st' => ?_
    obtain ⟨e5, w5⟩ := w4.grown st'
    exact q _ _ α3 _ _ p' ((((e1.trans e2).trans e3).trans e4).trans e5) w5 rp'
end Mp

set_option Elab.async false
set_option linter.all false
set_option maxRecDepth 100000
set_option maxHeartbeats 4000000
/-! Mp3: the operators and built-ins on data. -/
namespace Mp
open PySem PySem.Spec PyProof.Rows L2

theorem OpR.or {X : Cx} {f : Value → Value → Sem Value} {r r' : R2} (h : OpR X f r) (h' : OpR X f r') : OpR X f (fun x y H Q => r x y H Q ∨ r' x y H Q) := by
  intro pins s σ H x y v u Q I rx ry q
  rcases q with q | q
  · exact h pins s σ H x y v u Q I rx ry q
  · exact h' pins s σ H x y v u Q I rx ry q
theorem CallR.or {X : Cx} {f : Value} {r r' : List V → Hp → VK → Prop} (h : CallR X f r) (h' : CallR X f r') : CallR X f (fun x H Q => r x H Q ∨ r' x H Q) := by
  intro pins s σ H xs us Q I rx q
  rcases q with q | q
  · exact h pins s σ H xs us Q I rx q
  · exact h' pins s σ H xs us Q I rx q

/-! ### whole numbers -/
def fI (C : Int → Int → Prop) (g : Int → Int → D) : F2 := fun a b P => match a, b with
  | .int i, .int j => C i j ∧ P (g i j)
  | _, _ => False
@[simp] theorem fI_int {C : Int → Int → Prop} {g : Int → Int → D} {i j : Int} {P : D → Prop} : fI C g (.int i) (.int j) P = (C i j ∧ P (g i j)) := rfl
theorem sim_I {K : Frag} {C : Int → Int → Prop} {g : Int → Int → D} {g' : Int → Int → V} (hg : ∀ A H i j, Rep K A H (g i j) (g' i j)) : Sim2 K (rI C g') (fI C g) := by
  intro A H d1 d2 v1 v2 _ r1 r2 P p Q q
  cases d1 <;> cases d2 <;> first | exact p.elim | (cases r1; cases r2; exact ⟨_, _, rfl, rfl, p.1, q _ _ _ p.2 (hg _ _ _ _) (.inl rfl)⟩)
def fI0 (g : Int → Int → D) : F2 := fun a b P => match a, b with
  | .int i, .int j => P (g i j)
  | _, _ => False
@[simp] theorem fI0_int {g : Int → Int → D} {i j : Int} {P : D → Prop} : fI0 g (.int i) (.int j) P = P (g i j) := rfl
theorem sim_I0 {K : Frag} {g : Int → Int → D} {g' : Int → Int → V} (hg : ∀ A H i j, Rep K A H (g i j) (g' i j)) : Sim2 K (rI0 g') (fI0 g) := by
  intro A H d1 d2 v1 v2 _ r1 r2 P p Q q
  cases d1 <;> cases d2 <;> first | exact p.elim | (cases r1; cases r2; exact ⟨_, _, rfl, rfl, q _ _ _ p (hg _ _ _ _) (.inl rfl)⟩)

/-! ### a + b: numbers, texts, lists, tuples -/
def fAdd : F2 := fun a b P => match a, b with
  | .int i, .int j => P (.int (i + j))
  | .str x, .str y => x.length + y.length ≤ sizeLine ∧ P (.str (x ++ y))
  | .lst x, .lst y => x.length + y.length ≤ sizeLine ∧ P (.lst (x ++ y))
  | .tup x, .tup y => x.length + y.length ≤ sizeLine ∧ P (.tup (x ++ y))
  | _, _ => False
@[simp] theorem fAdd_int {i j : Int} {P : D → Prop} : fAdd (.int i) (.int j) P = P (.int (i + j)) := rfl
@[simp] theorem fAdd_str {i j : Str} {P : D → Prop} : fAdd (.str i) (.str j) P = (i.length + j.length ≤ sizeLine ∧ P (.str (i ++ j))) := rfl
@[simp] theorem fAdd_lst {i j : List D} {P : D → Prop} : fAdd (.lst i) (.lst j) P = (i.length + j.length ≤ sizeLine ∧ P (.lst (i ++ j))) := rfl
@[simp] theorem fAdd_tup {i j : List D} {P : D → Prop} : fAdd (.tup i) (.tup j) P = (i.length + j.length ≤ sizeLine ∧ P (.tup (i ++ j))) := rfl
def rAddS2 : R2 := fun x y H Q => ∃ i j, x = .str i ∧ y = .str j ∧ i.length + j.length ≤ sizeLine ∧ Q (.str (i ++ j)) H
def rAddA (K : Frag) : R2 := fun x y H Q => rI0 (fun i j => .int (i + j)) x y H Q ∨ rAddS2 x y H Q ∨ rCat x y H Q ∨ rCatA K x y H Q
theorem op_addA {X : Cx} : OpR X (binaryOp .Add) (rAddA X.K) := OpR.or op_add (OpR.or op_add_str (OpR.or op_cat op_catA))
theorem tup_sq {K : Frag} {A : Av} {H : Hp} {ds : List D} {v : V} (h : Rep K A H (.tup ds) v) : ∃ a vs, v = .ref a ∧ SqT K H a vs ∧ RepL K A H ds vs := by
  obtain ⟨a, vs, e, h, r⟩ := h
  refine ⟨a, vs, e, ?_, r⟩
  rcases h with h | h
  · exact .inl (.inl h.1)
  · rcases h with h | h
    · rcases h with h | ⟨_, h⟩ <;> cases h
    · exact .inr h
theorem fl_sq {K : Frag} {A : Av} {H : Hp} {ds : List D} {v : V} (h : Rep K A H (.fl ds) v) : ∃ a vs, v = .ref a ∧ SqL K H a vs ∧ RepL K A H ds vs := by
  obtain ⟨a, vs, e, h, r⟩ := h
  refine ⟨a, vs, e, ?_, r⟩
  rcases h with h | h
  · exact .inl h.1
  · rcases h with h | h
    · rcases h with h | ⟨_, h⟩ <;> cases h
    · exact .inr h
theorem new_lst {K : Frag} {A : Av} {H : Hp} {ds : List D} {vs : List V} {p : Addr} (hA : ∀ a, H a = none → ¬ A a) (hn : H p = none) (r : RepL K A H ds vs) : Rep K A (upd H p (.lst vs)) (.lst ds) (.ref p) :=
  ⟨p, vs, rfl, ⟨upd_same, hA p hn⟩, RepL.mono (Step.fresh (M := noA) (fun _ z => z.elim) hn) _ _ r⟩
theorem new_tup {K : Frag} {A : Av} {H : Hp} {ds : List D} {vs : List V} {p : Addr} (hA : ∀ a, H a = none → ¬ A a) (hn : H p = none) (r : RepL K A H ds vs) : Rep K A (upd H p (.tup vs)) (.tup ds) (.ref p) :=
  ⟨p, vs, rfl, .inl ⟨upd_same, hA p hn⟩, RepL.mono (Step.fresh (M := noA) (fun _ z => z.elim) hn) _ _ r⟩
theorem sim_add {K : Frag} : Sim2 K (rAddA K) fAdd := by
  intro A H d1 d2 v1 v2 hA r1 r2 P p Q q
  cases d1 with
  | int i =>
    cases d2 with
    | int j => cases r1; cases r2; exact .inl ⟨_, _, rfl, rfl, q _ _ _ p rfl (.inl rfl)⟩
    | _ => exact p.elim
  | str i =>
    cases d2 with
    | str j => cases r1; cases r2; exact .inr (.inl ⟨_, _, rfl, rfl, p.1, q _ _ _ p.2 rfl (.inl rfl)⟩)
    | _ => exact p.elim
  | lst i =>
    cases d2 with
    | lst j =>
      obtain ⟨a, vs, rfl, h1, k1⟩ := r1
      obtain ⟨b, us, rfl, h2, k2⟩ := r2
      exact .inr (.inr (.inl ⟨a, b, vs, us, rfl, rfl, h1, h2, by rw [← k1.length, ← k2.length]; exact p.1, fun l hl => q _ _ _ p.2 (new_lst hA hl (k1.append k2)) (.inr ⟨l, _, hl, rfl⟩)⟩))
    | _ => exact p.elim
  | tup i =>
    cases d2 with
    | tup j =>
      obtain ⟨a, vs, e1, h1, k1⟩ := tup_sq (r1 : Rep K A H (.tup i) v1)
      obtain ⟨b, us, e2, h2, k2⟩ := tup_sq (r2 : Rep K A H (.tup j) v2)
      refine .inr (.inr (.inr ⟨a, b, vs, us, e1, e2, h1, h2, by rw [← k1.length, ← k2.length]; exact p.1, fun z => ?_, fun z1 z => ?_, fun _ _ l hl => q _ _ _ p.2 (new_tup hA hl (k1.append k2)) (.inr ⟨l, _, hl, rfl⟩)⟩))
      · subst z
        have e : i = [] := List.eq_nil_of_length_eq_zero (by have := k1.length; simpa using this)
        subst e
        exact q _ _ _ p.2 (e2 ▸ r2) (.inl rfl)
      · subst z
        have e : j = [] := List.eq_nil_of_length_eq_zero (by have := k2.length; simpa using this)
        subst e
        refine q _ _ _ p.2 ?_ (.inl rfl)
        rw [List.append_nil]
        exact e1 ▸ r1
    | _ => exact p.elim
  | _ => exact p.elim

/-! ### a * b: numbers, a list so many times -/
def fMul : F2 := fun a b P => match a, b with
  | .int i, .int j => (CMul i j ∨ CMulW i j) ∧ P (.int (i * j))
  | .lst x, .int k => -(2 ^ 63) ≤ k ∧ k < 2 ^ 63 ∧ x.length * k.toNat ≤ sizeLine ∧ P (.lst (List.flatten (List.replicate k.toNat x)))
  | _, _ => False
@[simp] theorem fMul_int {i j : Int} {P : D → Prop} : fMul (.int i) (.int j) P = ((CMul i j ∨ CMulW i j) ∧ P (.int (i * j))) := rfl
@[simp] theorem fMul_lst {x : List D} {k : Int} {P : D → Prop} : fMul (.lst x) (.int k) P = (-(2 ^ 63) ≤ k ∧ k < 2 ^ 63 ∧ x.length * k.toNat ≤ sizeLine ∧ P (.lst (List.flatten (List.replicate k.toNat x)))) := rfl

theorem RepL.flat {K : Frag} {A : Av} {H : Hp} {ds : List D} {vs : List V} (r : RepL K A H ds vs) : ∀ n : Nat, RepL K A H (List.flatten (List.replicate n ds)) (List.flatten (List.replicate n vs))
  | 0 => rfl
  | n + 1 => by rw [List.replicate_succ, List.replicate_succ, List.flatten_cons, List.flatten_cons]; exact r.append (RepL.flat r n)
def rMulA : R2 := fun x y H Q => rI CMul (fun i j => .int (i * j)) x y H Q ∨ rI CMulW (fun i j => .int (i * j)) x y H Q ∨ rRep x y H Q
theorem op_mulA {X : Cx} : OpR X (binaryOp .Mult) rMulA := OpR.or op_mul (OpR.or op_mulW op_rep)
theorem sim_mul {K : Frag} : Sim2 K rMulA fMul := by
  intro A H d1 d2 v1 v2 hA r1 r2 P p Q q
  cases d1 with
  | int i =>
    cases d2 with
    | int j =>
      cases r1; cases r2
      rcases p.1 with c | c
      · exact .inl ⟨_, _, rfl, rfl, c, q _ _ _ p.2 rfl (.inl rfl)⟩
      · exact .inr (.inl ⟨_, _, rfl, rfl, c, q _ _ _ p.2 rfl (.inl rfl)⟩)
    | _ => exact p.elim
  | lst i =>
    cases d2 with
    | int j =>
      obtain ⟨a, vs, rfl, h1, k1⟩ := r1
      cases r2
      obtain ⟨p1, p2, p3, p4⟩ := p
      exact .inr (.inr ⟨a, _, vs, rfl, rfl, h1, p1, p2, by rw [← k1.length]; exact p3, fun l hl => q _ _ _ p4 (new_lst hA hl (k1.flat _)) (.inr ⟨l, _, hl, rfl⟩)⟩)
    | _ => exact p.elim
  | _ => exact p.elim

/-! ### ==, != at any depth -/
mutual
def D.py : D → PyData
  | .non => .none
  | .bl b => .bool b
  | .int i => .int i
  | .str x => .str x
  | .ty _ => .dict []
  | .tup ds => .tuple (D.pyL ds)
  | .lst ds => .list (D.pyL ds)
  | .fl ds => .list (D.pyL ds)
def D.pyL : List D → List PyData
  | [] => []
  | d :: ds => D.py d :: D.pyL ds
end
mutual
/-- no class within -/
def D.nt : D → Bool
  | .ty _ => false
  | .tup ds => D.ntL ds
  | .lst ds => D.ntL ds
  | .fl ds => D.ntL ds
  | _ => true
def D.ntL : List D → Bool
  | [] => true
  | d :: ds => D.nt d && D.ntL ds
end
def eqD (a b : D) : Bool := PyData.eqv a.py b.py
def shD (d : D) : Bool := SeqAt.shaped d.py
theorem lay_nt : ∀ d : D, d.py.canLay0 = true → True := fun _ _ => trivial
mutual
theorem Rep.dp {K : Frag} {A : Av} {H : Hp} : ∀ (d : D) (v : V), d.py.canLay0 = true → Rep K A H d v → Dp K H v d.py
  | .non, _, _, h => by cases h; exact .non
  | .bl b, _, _, h => by cases h; exact .bl b
  | .int b, _, _, h => by cases h; exact .int b
  | .str b, _, _, h => by cases h; exact .str b
  | .ty b, _, z, h => by simp [D.py, PyData.canLay0] at z
  | .tup ds, v, z, h => by
    obtain ⟨a, vs, e, h1, r⟩ := tup_sq h
    subst e
    exact .tup h1 (RepL.dp ds vs (by simpa [D.py, PyData.canLay0] using z) r)
  | .lst ds, v, z, h => by
    obtain ⟨a, vs, e, h1, r⟩ := h
    subst e
    exact .lst (.inl (.inl h1.1)) (RepL.dp ds vs (by simpa [D.py, PyData.canLay0] using z) r)
  | .fl ds, v, z, h => by
    obtain ⟨a, vs, e, h1, r⟩ := fl_sq h
    subst e
    exact .lst h1 (RepL.dp ds vs (by simpa [D.py, PyData.canLay0] using z) r)
theorem RepL.dp {K : Frag} {A : Av} {H : Hp} : ∀ (ds : List D) (vs : List V), PyData.canLayAll0 (D.pyL ds) = true → RepL K A H ds vs → DpAll K H vs (D.pyL ds)
  | [], _, _, h => by cases h; exact .nil
  | d :: ds, _, z, ⟨v, r, e, h, t⟩ => by
    subst e
    have z2 : d.py.canLay0 = true ∧ PyData.canLayAll0 (D.pyL ds) = true := by simpa [D.pyL, PyData.canLayAll0] using z
    exact .cons (Rep.dp d v z2.1 h) (RepL.dp ds r z2.2 t)
end
theorem RepT.dp {K : Frag} {A : Av} {H : Hp} {d : D} {v : V} (z : shD d = true) (h : RepT K A H d v) : Dp K H v d.py := by
  have z1 := SeqAt.canLay_of_shaped z
  cases d with
  | lst ds =>
    obtain ⟨a, vs, e, h1, r⟩ := h
    subst e
    exact .lst (.inl (.inl h1)) (RepL.dp ds vs (by simpa [D.py, PyData.canLay0] using z1) r)
  | non => exact Rep.dp (A := A) _ _ z1 h
  | bl _ => exact Rep.dp (A := A) _ _ z1 h
  | int _ => exact Rep.dp (A := A) _ _ z1 h
  | str _ => exact Rep.dp (A := A) _ _ z1 h
  | ty _ => exact Rep.dp (A := A) _ _ z1 h
  | tup _ => exact Rep.dp (A := A) _ _ z1 h
  | fl _ => exact Rep.dp (A := A) _ _ z1 h
def fEq : F2 := fun a b P => shD a = true ∧ shD b = true ∧ P (.bl (eqD a b))
def fNe : F2 := fun a b P => shD a = true ∧ shD b = true ∧ P (.bl (!eqD a b))
theorem sim_eq {K : Frag} : Sim2 K (rEqD K) fEq := by
  intro A H d1 d2 v1 v2 hA r1 r2 P p Q q
  exact ⟨_, _, r1.dp p.1, r2.dp p.2.1, p.1, p.2.1, q _ _ _ p.2.2 rfl (.inl rfl)⟩
theorem sim_ne {K : Frag} : Sim2 K (rNeD K) fNe := by
  intro A H d1 d2 v1 v2 hA r1 r2 P p Q q
  exact ⟨_, _, r1.dp p.1, r2.dp p.2.1, p.1, p.2.1, q _ _ _ p.2.2 rfl (.inl rfl)⟩

/-! ### is None -/
def isNon : D → Bool
  | .non => true
  | _ => false
theorem RepT.isNon {K : Frag} {A : Av} {H : Hp} {d : D} {v : V} (h : RepT K A H d v) : decide (v = .non) = isNon d := by
  cases d with
  | non => cases h; rfl
  | bl b => cases h; rfl
  | int b => cases h; rfl
  | str b => cases h; rfl
  | ty b => cases h; rfl
  | tup ds => obtain ⟨a, vs, e, _⟩ := h; subst e; rfl
  | fl ds => obtain ⟨a, vs, e, _⟩ := h; subst e; rfl
  | lst ds => obtain ⟨a, vs, e, _⟩ := h; subst e; rfl
def fIsN : F2 := fun a b P => match b with
  | .non => P (.bl (isNon a))
  | _ => False
def fNotN : F2 := fun a b P => match b with
  | .non => P (.bl (!isNon a))
  | _ => False
@[simp] theorem fIsN_non {a : D} {P : D → Prop} : fIsN a .non P = P (.bl (isNon a)) := rfl
@[simp] theorem fNotN_non {a : D} {P : D → Prop} : fNotN a .non P = P (.bl (!isNon a)) := rfl
def rIsNo : R2 := fun x y H Q => y = .non ∧ Q (.bl (decide (x = .non))) H
def rNotNo : R2 := fun x y H Q => y = .non ∧ Q (.bl (!decide (x = .non))) H
theorem sim_isN {K : Frag} : Sim2 K rIsNo fIsN := by
  intro A H d1 d2 v1 v2 hA r1 r2 P p Q q
  cases d2 <;> first | exact p.elim | (cases r2; exact ⟨rfl, by rw [r1.isNon]; exact q _ _ _ p rfl (.inl rfl)⟩)
theorem sim_notN {K : Frag} : Sim2 K rNotNo fNotN := by
  intro A H d1 d2 v1 v2 hA r1 r2 P p Q q
  cases d2 <;> first | exact p.elim | (cases r2; exact ⟨rfl, by rw [r1.isNon]; exact q _ _ _ p rfl (.inl rfl)⟩)

/-! ### in, not in: flat items of a list or tuple; a text in a text -/
def flatD : D → Bool
  | .non => true
  | .bl _ => true
  | .int _ => true
  | .str _ => true
  | _ => false
def eqF : D → D → Bool
  | .non, .non => true
  | .bl a, .bl b => a == b
  | .bl a, .int b => (if a then 1 else 0) == b
  | .int a, .bl b => a == (if b then 1 else 0)
  | .int a, .int b => a == b
  | .str a, .str b => a == b
  | _, _ => false
theorem Rep.flat {K : Frag} {A : Av} {H : Hp} {d : D} {v : V} (h : Rep K A H d v) (f : flatD d = true) : flatV v = true := by
  cases d with
  | non => cases h; rfl
  | bl _ => cases h; rfl
  | int _ => cases h; rfl
  | str _ => cases h; rfl
  | _ => exact absurd f (by simp [flatD])
theorem RepL.flatAll {K : Frag} {A : Av} {H : Hp} : ∀ {ds : List D} {vs : List V}, RepL K A H ds vs → ds.all flatD = true → vs.all flatV = true
  | [], _, h, _ => by cases h; rfl
  | d :: ds, _, ⟨v, r, e, h, t⟩, f => by
    subst e
    rw [List.all_cons, Bool.and_eq_true] at f ⊢
    exact ⟨h.flat f.1, RepL.flatAll t f.2⟩
theorem eqF_of {K : Frag} {A : Av} {H : Hp} {d e : D} {v u : V} (h : Rep K A H d v) (g : Rep K A H e u) (f : flatD d = true) (f' : flatD e = true) : eqV v u = eqF d e := by
  cases d with
  | non => cases e with
    | non => cases h; cases g; rfl
    | bl _ => cases h; cases g; rfl
    | int _ => cases h; cases g; rfl
    | str _ => cases h; cases g; rfl
    | _ => exact absurd f' (by simp [flatD])
  | bl _ => cases e with
    | non => cases h; cases g; rfl
    | bl _ => cases h; cases g; rfl
    | int _ => cases h; cases g; rfl
    | str _ => cases h; cases g; rfl
    | _ => exact absurd f' (by simp [flatD])
  | int _ => cases e with
    | non => cases h; cases g; rfl
    | bl _ => cases h; cases g; rfl
    | int _ => cases h; cases g; rfl
    | str _ => cases h; cases g; rfl
    | _ => exact absurd f' (by simp [flatD])
  | str _ => cases e with
    | non => cases h; cases g; rfl
    | bl _ => cases h; cases g; rfl
    | int _ => cases h; cases g; rfl
    | str _ => cases h; cases g; rfl
    | _ => exact absurd f' (by simp [flatD])
  | _ => exact absurd f (by simp [flatD])
theorem inF_of {K : Frag} {A : Av} {H : Hp} {e : D} {u : V} (g : Rep K A H e u) (f' : flatD e = true) : ∀ {ds : List D} {vs : List V}, RepL K A H ds vs → ds.all flatD = true → inV u vs = ds.any fun y => eqF y e
  | [], _, h, _ => by cases h; rfl
  | d :: ds, _, ⟨v, r, q, h, t⟩, f => by
    subst q
    rw [List.all_cons, Bool.and_eq_true] at f
    show (eqV v u || inV u r) = _
    rw [List.any_cons, eqF_of h g f.1 f', inF_of g f' t f.2]
def inD (x : D) (ds : List D) : Bool := ds.any fun y => eqF y x
def items : D → Option (List D)
  | .tup ds => some ds
  | .lst ds => some ds
  | .fl ds => some ds
  | _ => none
@[simp] theorem items_tup {ds : List D} : items (.tup ds) = some ds := rfl
@[simp] theorem items_lst {ds : List D} : items (.lst ds) = some ds := rfl
@[simp] theorem items_fl {ds : List D} : items (.fl ds) = some ds := rfl
theorem RepT.items {K : Frag} {A : Av} {H : Hp} {d : D} {v : V} {ds : List D} (h : RepT K A H d v) (e : items d = some ds) : ∃ a vs, v = .ref a ∧ (SqL K H a vs ∨ SqT K H a vs) ∧ RepL K A H ds vs := by
  cases d with
  | tup ds => cases e; obtain ⟨a, vs, e1, h1, r⟩ := tup_sq (h : Rep K A H (.tup _) v); exact ⟨a, vs, e1, .inr h1, r⟩
  | lst ds => cases e; obtain ⟨a, vs, e1, h1, r⟩ := h; exact ⟨a, vs, e1, .inl (.inl (.inl h1)), r⟩
  | fl ds => cases e; obtain ⟨a, vs, e1, h1, r⟩ := fl_sq (h : Rep K A H (.fl _) v); exact ⟨a, vs, e1, .inl h1, r⟩
  | _ => cases e
def asS : D → Option Str
  | .str x => some x
  | _ => none
@[simp] theorem asS_str {x : Str} : asS (.str x) = some x := rfl
theorem RepT.asS {K : Frag} {A : Av} {H : Hp} {d : D} {v : V} {x : Str} (h : RepT K A H d v) (e : asS d = some x) : v = .str x := by
  unfold Mp.asS at e
  split at e
  · cases e; exact h
  · cases e
def fIn (neg : Bool) : F2 := fun x c P => (on (asS x) fun i => on (asS c) fun j => P (.bl (if neg then !(!(Builtin.Str.occurrences j i 0 j.length 1).isEmpty) else !(Builtin.Str.occurrences j i 0 j.length 1).isEmpty))) ∨
  on (items c) fun ds => flatD x = true ∧ ds.all flatD = true ∧ P (.bl (if neg then !inD x ds else inD x ds))
def rInS2 (neg : Bool) : R2 := fun x y H Q => ∃ i j, x = .str i ∧ y = .str j ∧ Q (.bl (if neg then !(!(Builtin.Str.occurrences j i 0 j.length 1).isEmpty) else !(Builtin.Str.occurrences j i 0 j.length 1).isEmpty)) H
def rInA (K : Frag) (neg : Bool) : R2 := fun x y H Q => rIn K neg x y H Q ∨ rInS2 neg x y H Q
theorem op_inA {X : Cx} : OpR X (compareOp .In) (rInA X.K false) := OpR.or op_in_seq op_in_str
theorem op_notInA {X : Cx} : OpR X (compareOp .NotIn) (rInA X.K true) := OpR.or op_notIn_seq op_notIn_str
theorem RepT.rep {K : Frag} {A : Av} {H : Hp} {d : D} {v : V} (h : RepT K A H d v) (f : flatD d = true) : Rep K A H d v := by
  cases d with
  | lst _ => cases f
  | _ => exact h
theorem sim_in {K : Frag} {neg : Bool} : Sim2 K (rInA K neg) (fIn neg) := by
  intro A H d1 d2 v1 v2 hA r1 r2 P p Q q
  rcases p with p | p
  · obtain ⟨i, e1, p⟩ := on.ex p
    obtain ⟨j, e2, p⟩ := on.ex p
    exact .inr ⟨_, _, r1.asS e1, r2.asS e2, q _ _ _ p rfl (.inl rfl)⟩
  · obtain ⟨ds, e, f1, f2, p⟩ := on.ex p
    obtain ⟨a, vs, e1, h1, r⟩ := r2.items e
    refine .inl ⟨a, vs, e1, h1, (r1.rep f1).flat f1, r.flatAll f2, ?_⟩
    rw [inF_of (r1.rep f1) f1 r f2]
    exact q _ _ _ p rfl (.inl rfl)

/-! ### items by place -/
def fIx : F2 := fun x y P => match y with
  | .int i => (match x with
    | .str z => z.length ≤ sizeLine ∧ on (atI z.cps.toList i) fun c => P (.str ⟨#[c]⟩)
    | x => on (items x) fun ds => on (atI ds i) P)
  | _ => False
@[simp] theorem fIx_lst {ds : List D} {i : Int} {P : D → Prop} : fIx (.lst ds) (.int i) P = on (atI ds i) P := rfl
@[simp] theorem fIx_tup {ds : List D} {i : Int} {P : D → Prop} : fIx (.tup ds) (.int i) P = on (atI ds i) P := rfl
@[simp] theorem fIx_fl {ds : List D} {i : Int} {P : D → Prop} : fIx (.fl ds) (.int i) P = on (atI ds i) P := rfl
@[simp] theorem fIx_str {z : Str} {i : Int} {P : D → Prop} : fIx (.str z) (.int i) P = (z.length ≤ sizeLine ∧ on (atI z.cps.toList i) fun c => P (.str ⟨#[c]⟩)) := rfl
theorem RepL.atI {K : Frag} {A : Av} {H : Hp} {ds : List D} {vs : List V} {i : Int} {d : D} (r : RepL K A H ds vs) (h : atI ds i = some d) : ∃ v, L2.atI vs i = some v ∧ Rep K A H d v := by
  unfold L2.atI at h ⊢
  rw [← r.length]
  cases e : ixN ds.length i with
  | none => rw [e] at h; cases h
  | some j => rw [e] at h; exact r.get h
theorem sim_ix {K : Frag} : Sim2 K (rIx K) fIx := by
  intro A H d1 d2 v1 v2 hA r1 r2 P p Q q
  cases d2 with
  | int i =>
    cases r2
    cases d1 with
    | str z =>
      cases r1
      obtain ⟨c, e, p2⟩ := on.ex p.2
      exact .inr (.inr ⟨_, _, c, rfl, rfl, p.1, e, q _ _ _ p2 rfl (.inl rfl)⟩)
    | tup ds =>
      obtain ⟨d, e, p⟩ := on.ex (show on (atI ds i) P from p)
      obtain ⟨a, vs, e1, h1, r⟩ := tup_sq (r1 : Rep K A H (.tup ds) v1)
      obtain ⟨v, e2, r2⟩ := r.atI e
      exact .inr (.inl ⟨a, vs, i, v, e1, rfl, h1, e2, q _ _ _ p r2 (.inl rfl)⟩)
    | lst ds =>
      obtain ⟨d, e, p⟩ := on.ex (show on (atI ds i) P from p)
      obtain ⟨a, vs, e1, h1, r⟩ := r1
      obtain ⟨v, e2, r2⟩ := r.atI e
      exact .inl ⟨a, vs, i, v, e1, rfl, .inl (.inl h1), e2, q _ _ _ p r2 (.inl rfl)⟩
    | fl ds =>
      obtain ⟨d, e, p⟩ := on.ex (show on (atI ds i) P from p)
      obtain ⟨a, vs, e1, h1, r⟩ := fl_sq (r1 : Rep K A H (.fl ds) v1)
      obtain ⟨v, e2, r2⟩ := r.atI e
      exact .inl ⟨a, vs, i, v, e1, rfl, h1, e2, q _ _ _ p r2 (.inl rfl)⟩
    | _ => exact p.elim
  | _ => exact p.elim

/-! ### len, int, abs, min, max, list, tuple, isinstance -/
def one (ds : List D) (k : D → Prop) : Prop := match ds with
  | [d] => k d
  | _ => False
@[simp] theorem one_one {d : D} {k : D → Prop} : one [d] k = k d := rfl
theorem one.ex {K : Frag} {A : Av} {H : Hp} {ds : List D} {vs : List V} {k : D → Prop} (h : one ds k) (r : RepTL K A H ds vs) : ∃ d v, vs = [v] ∧ RepT K A H d v ∧ k d := by
  cases r with
  | nil => exact h.elim
  | @cons d v ds vs r t =>
    cases t with
    | cons _ _ => exact h.elim
    | nil => exact ⟨d, v, rfl, r, h⟩
def two (ds : List D) (k : D → D → Prop) : Prop := match ds with
  | [d, e] => k d e
  | _ => False
@[simp] theorem two_two {d e : D} {k : D → D → Prop} : two [d, e] k = k d e := rfl
theorem two.ex {K : Frag} {A : Av} {H : Hp} {ds : List D} {vs : List V} {k : D → D → Prop} (h : two ds k) (r : RepTL K A H ds vs) : ∃ d e v u, vs = [v, u] ∧ RepT K A H d v ∧ RepT K A H e u ∧ k d e := by
  cases r with
  | nil => exact h.elim
  | @cons d v ds vs r t =>
    cases t with
    | nil => exact h.elim
    | @cons e u ds vs r2 t =>
      cases t with
      | cons _ _ => exact h.elim
      | nil => exact ⟨d, e, v, u, rfl, r, r2, h⟩
def asI : D → Option Int
  | .int x => some x
  | _ => none
@[simp] theorem asI_int {x : Int} : asI (.int x) = some x := rfl
theorem RepT.asI {K : Frag} {A : Av} {H : Hp} {d : D} {v : V} {x : Int} (h : RepT K A H d v) (e : asI d = some x) : v = .int x := by
  unfold Mp.asI at e
  split at e
  · cases e; exact h
  · cases e
def fLen : FN := fun ds P => one ds fun d => (on (asS d) fun z => z.length ≤ sizeLine ∧ P (.int z.length)) ∨ on (items d) fun xs => P (.int xs.length)
def rLenA (K : Frag) : List V → Hp → VK → Prop := fun xs H Q => ∃ x n, xs = [x] ∧ LenV K x H n ∧ Q (.int n) H
theorem sim_len {K : Frag} : SimN K (rLenA K) fLen := by
  intro A H ds vs hA r P p Q q
  obtain ⟨d, v, rfl, r, p⟩ := p.ex r
  rcases p with p | p
  · obtain ⟨z, e, p1, p2⟩ := on.ex p
    cases r.asS e
    exact ⟨_, _, rfl, ⟨p1, rfl⟩, q _ _ _ p2 rfl (.inl rfl)⟩
  · obtain ⟨xs, e, p⟩ := on.ex p
    obtain ⟨a, vs, rfl, h, r2⟩ := r.items e
    exact ⟨_, _, rfl, h.imp (fun h => ⟨vs, h, r2.length⟩) (fun h => ⟨vs, h, r2.length⟩), q _ _ _ p rfl (.inl rfl)⟩
def asB' : D → Option Bool
  | .bl x => some x
  | _ => none
@[simp] theorem asB'_bl {x : Bool} : asB' (.bl x) = some x := rfl
theorem RepT.asB {K : Frag} {A : Av} {H : Hp} {d : D} {v : V} {x : Bool} (h : RepT K A H d v) (e : asB' d = some x) : v = .bl x := by
  unfold Mp.asB' at e
  split at e
  · cases e; exact h
  · cases e
def fInt : FN := fun ds P => one ds fun d => (on (asI d) fun i => P (.int i)) ∨ on (asB' d) fun b => P (.int (if b then 1 else 0))
def rInt1 : List V → Hp → VK → Prop := fun xs H Q => (∃ i, xs = [.int i] ∧ Q (.int i) H) ∨ ∃ k, xs = [.bl k] ∧ Q (.int (if k then 1 else 0)) H
theorem sim_int {K : Frag} : SimN K rInt1 fInt := by
  intro A H ds vs hA r P p Q q
  obtain ⟨d, v, rfl, r, p⟩ := p.ex r
  rcases p with p | p
  · obtain ⟨z, e, p⟩ := on.ex p
    cases r.asI e
    exact .inl ⟨_, rfl, q _ _ _ p rfl (.inl rfl)⟩
  · obtain ⟨z, e, p⟩ := on.ex p
    cases r.asB e
    exact .inr ⟨_, rfl, q _ _ _ p rfl (.inl rfl)⟩
def fAbs : FN := fun ds P => one ds fun d => on (asI d) fun i => P (.int (if i < 0 then -i else i))
def rAbs1 : List V → Hp → VK → Prop := fun xs H Q => ∃ i, xs = [.int i] ∧ Q (.int (if i < 0 then -i else i)) H
theorem sim_abs {K : Frag} : SimN K rAbs1 fAbs := by
  intro A H ds vs hA r P p Q q
  obtain ⟨d, v, rfl, r, p⟩ := p.ex r
  obtain ⟨z, e, p⟩ := on.ex p
  cases r.asI e
  exact ⟨_, rfl, q _ _ _ p rfl (.inl rfl)⟩
def fMM (g : Int → Int → Int) : FN := fun ds P => two ds fun d e => on (asI d) fun i => on (asI e) fun j => P (.int (g i j))
def rMM (g : Int → Int → Int) : List V → Hp → VK → Prop := fun xs H Q => ∃ i j, xs = [.int i, .int j] ∧ Q (.int (g i j)) H
theorem sim_MM {K : Frag} {g : Int → Int → Int} : SimN K (rMM g) (fMM g) := by
  intro A H ds vs hA r P p Q q
  obtain ⟨d, e, v, u, rfl, r1, r2, p⟩ := p.ex r
  obtain ⟨i, e1, p⟩ := on.ex p
  obtain ⟨j, e2, p⟩ := on.ex p
  cases r1.asI e1
  cases r2.asI e2
  exact ⟨_, _, rfl, q _ _ _ p rfl (.inl rfl)⟩
/-- list(x) that nobody will change, tuple(x) -/
def fList : FN := fun ds P => one ds fun d => on (items d) fun xs => P (.lst xs)
def rListA (K : Frag) : List V → Hp → VK → Prop := fun xs H Q => ∃ p ys, xs = [.ref p] ∧ (SqL K H p ys ∨ SqT K H p ys) ∧ ∀ l, H l = none → Q (.ref l) (upd H l (.lst ys))
theorem sim_list {K : Frag} : SimN K (rListA K) fList := by
  intro A H ds vs hA r P p Q q
  obtain ⟨d, v, rfl, r, p⟩ := p.ex r
  obtain ⟨xs, e, p⟩ := on.ex p
  obtain ⟨a, vs, rfl, h, r2⟩ := r.items e
  exact ⟨a, vs, rfl, h, fun l hl => q _ _ _ p (new_lst hA hl r2) (.inr ⟨l, _, hl, rfl⟩)⟩
def fTuple : FN := fun ds P => one ds fun d => on (items d) fun xs => P (.tup xs)
def rTupleA (K : Frag) : List V → Hp → VK → Prop := fun xs H Q => ∃ p ys, xs = [.ref p] ∧ ((SqL K H p ys ∧ ∀ l, H l = none → Q (.ref l) (upd H l (.tup ys))) ∨ (SqT K H p ys ∧ Q (.ref p) H))
theorem sim_tuple {K : Frag} : SimN K (rTupleA K) fTuple := by
  intro A H ds vs hA r P p Q q
  obtain ⟨d, v, rfl, r, p⟩ := p.ex r
  obtain ⟨xs, e, p⟩ := on.ex p
  cases d with
  | tup ds =>
    cases e
    obtain ⟨a, vs, rfl, h, r2⟩ := tup_sq (r : Rep K A H (.tup _) v)
    exact ⟨a, vs, rfl, .inr ⟨h, q _ _ _ p r (.inl rfl)⟩⟩
  | lst ds =>
    cases e
    obtain ⟨a, vs, rfl, h, r2⟩ := r
    exact ⟨a, vs, rfl, .inl ⟨.inl (.inl h), fun l hl => q _ _ _ p (new_tup hA hl r2) (.inr ⟨l, _, hl, rfl⟩)⟩⟩
  | fl ds =>
    cases e
    obtain ⟨a, vs, rfl, h, r2⟩ := fl_sq (r : Rep K A H (.fl _) v)
    exact ⟨a, vs, rfl, .inl ⟨h, fun l hl => q _ _ _ p (new_tup hA hl r2) (.inr ⟨l, _, hl, rfl⟩)⟩⟩
  | _ => cases e
/-- the built-in class of a datum -/
def tyN : D → Option String
  | .non => some "NoneType"
  | .bl _ => some "bool"
  | .int _ => some "int"
  | .str _ => some "str"
  | .tup _ => some "tuple"
  | .lst _ => some "list"
  | .fl _ => some "list"
  | .ty _ => none
theorem RepT.tyx {K : Frag} {A : Av} {H : Hp} {d : D} {v : V} {n : String} (h : RepT K A H d v) (e : tyN d = some n) : TyX K H v (.type n) := by
  cases d with
  | non => cases e; cases h; exact .base .non
  | bl b => cases e; cases h; exact .base (.bl b)
  | int b => cases e; cases h; exact .base (.int b)
  | str b => cases e; cases h; exact .base (.str b)
  | ty b => cases e
  | lst ds => cases e; obtain ⟨a, vs, rfl, h1, r⟩ := h; exact .base (.lst h1)
  | tup ds =>
    cases e
    obtain ⟨a, vs, rfl, h1, r⟩ := tup_sq (h : Rep K A H (.tup ds) v)
    rcases h1 with (h1 | ⟨o, h1⟩) | ⟨o, its, m, h1, h2, h3, _⟩
    · exact .base (.tup h1)
    · exact .fTuple h1
    · exact .kTuple h1 h2
  | fl ds =>
    cases e
    obtain ⟨a, vs, rfl, h1, r⟩ := fl_sq (h : Rep K A H (.fl ds) v)
    rcases h1 with (h1 | ⟨o, h1⟩) | ⟨o, its, m, h1, h2, h3, _⟩
    · exact .base (.lst h1)
    · exact .base (.frz h1)
    · exact .kList h1 h2
/-- is a datum of type n one of type m -/
def isTy (d : D) (m : String) : Option Bool := (tyN d).bind fun n => kitB n m
def tyNames : List D → Option (List String)
  | [] => some []
  | .ty m :: r => (tyNames r).bind fun l => some (m :: l)
  | _ => none
def isAny (n : String) : List String → Option Bool
  | [] => some false
  | m :: r => (kitB n m).bind fun b => if b then some true else isAny n r
theorem tyNames_ok {K : Frag} {A : Av} {H : Hp} : ∀ {ms : List D} {vs : List V} {l : List String}, RepL K A H ms vs → tyNames ms = some l → Paired ClsV vs (l.map Value.type)
  | [], _, l, r, e => by cases r; cases e; exact .nil
  | m :: ms, _, l, ⟨v, r, q, h, t⟩, e => by
    subst q
    cases m with
    | ty m =>
      cases h
      have e1 : ((tyNames ms).bind fun l => some (m :: l)) = some l := e
      cases g : tyNames ms with
      | none => rw [g] at e1; cases e1
      | some l' => rw [g] at e1; cases e1; exact .cons (.ty m) (tyNames_ok t g)
    | _ => cases e
theorem isAny_ok {K : Frag} {n : String} : ∀ {l : List String} {b : Bool}, isAny n l = some b → PySem.W.kitAny K (.type n) (l.map Value.type) = some b
  | [], b, e => by cases e; exact kitAny_nil
  | m :: r, b, e => by
    have e1 : ((kitB n m).bind fun b => if b then some true else isAny n r) = some b := e
    cases g : kitB n m with
    | none => rw [g] at e1; cases e1
    | some c =>
      rw [g] at e1
      refine kitAny_cons (kit_ty g) (fun z => ?_) (fun z => ?_)
      · subst z; exact isAny_ok e1
      · subst z; cases e1; rfl
def asTy : D → Option String
  | .ty n => some n
  | _ => none
def asTup : D → Option (List D)
  | .tup n => some n
  | _ => none
@[simp] theorem asTy_ty {n : String} : asTy (.ty n) = some n := rfl
@[simp] theorem asTup_tup {n : List D} : asTup (.tup n) = some n := rfl
def fIsi : FN := fun ds P => two ds fun d c => on (tyN d) fun n => (on (asTy c) fun m => on (kitB n m) fun b => P (.bl b)) ∨ on (asTup c) fun ms => on (tyNames ms) fun l => on (isAny n l) fun b => P (.bl b)
def rIsiA (K : Frag) : List V → Hp → VK → Prop := fun xs H Q => rIsi K xs H Q ∨ rIsiT K xs H Q ∨ rIsiK K xs H Q
theorem call_isiA {X : Cx} : CallR X (.builtin "isinstance") (rIsiA X.K) := CallR.or call_isi (CallR.or call_isiT call_isiK)
theorem sim_isi {K : Frag} : SimN K (rIsiA K) fIsi := by
  intro A H ds vs hA r P p Q q
  obtain ⟨d, c, v, u, rfl, r1, r2, p⟩ := p.ex r
  obtain ⟨n, hn, p⟩ := on.ex p
  rcases p with p | p
  · obtain ⟨m, hm, p⟩ := on.ex p
    obtain ⟨b, hb, pf⟩ := on.ex p
    cases c <;> first | cases hm | skip
    cases r2
    exact .inl ⟨v, _, _, _, b, rfl, .ty _, r1.tyx hn, kit_ty hb, q _ _ _ pf rfl (.inl rfl)⟩
  · obtain ⟨ms, hm, p⟩ := on.ex p
    obtain ⟨l, hl, p⟩ := on.ex p
    obtain ⟨b, hb, pf⟩ := on.ex p
    cases c <;> first | cases hm | skip
    obtain ⟨a, vs, rfl, h, r⟩ := (r2 : Rep K A H (.tup ms) u)
    have hc := tyNames_ok r hl
    rcases h with h | h
    · exact .inr (.inl ⟨v, a, vs, _, _, b, rfl, h.1, hc, r1.tyx hn, isAny_ok hb, q _ _ _ pf rfl (.inl rfl)⟩)
    · rcases h with h | ⟨o, its, k, h1, h2, h3, h4, h5⟩
      · rcases h with h | ⟨_, h⟩ <;> cases h
      · obtain ⟨oc, od, dt, sl⟩ := o
        simp only at h2 h3
        subst h2 h3
        have e := ClsV.all hc h5
        exact .inr (.inr ⟨v, a, od, its.toList, k, sl, _, b, rfl, by simpa using h1, r1.tyx hn, by rw [e]; exact isAny_ok hb, q _ _ _ pf rfl (.inl rfl)⟩)
end Mp

set_option Elab.async false
set_option linter.all false
set_option maxRecDepth 100000
set_option maxHeartbeats 4000000
/-! Mp4: statements, loops, comprehensions, defs. -/
namespace Mp
open PySem PySem.Spec PyProof.Rows L2

/-- what a statement goes on with -/
structure MK where
  nx : PS → Prop
  bk : PS → Prop
  ct : PS → Prop
  rt : S → List O → Prop
  ex : MX
abbrev MS := PS → MK → Prop
abbrev MG := S → PS → (PS → Prop) → Prop

/-- a def's entry: where its callers' objects stand, the heap -/
structure En where
  as : List (Addr × List Addr)
  h : Hp
structure Pre0 (ρ : En) (α : Mp_) (H : Hp) : Prop where
  own : OwnLe ρ.as α.own
  nw : ∀ (n : Nat) (p : Addr × List Addr), ρ.as.length ≤ n → α.own[n]? = some p → ρ.h p.1 = none
  stay : ∀ a o, ρ.h a = some o → ∃ u, H a = some u
theorem Pre0.ext {ρ : En} {α β : Mp_} {hp hp1 : List O} {H H1 : Hp} (h : Pre0 ρ α H) (e : Ext α hp H β hp1 H1) : Pre0 ρ β H1 where
  own := h.own.trans e.pre.own
  nw := fun n p hn q => by
    by_cases hl : n < α.own.length
    · obtain ⟨p', h1, h2⟩ := e.pre.get (List.getElem?_eq_getElem hl)
      rw [q] at h1
      cases h1
      rw [h2]
      exact h.nw n _ hn (List.getElem?_eq_getElem hl)
    · exact none_back h.stay (e.nw n p (by omega) q)
  stay := fun a o q => by
    obtain ⟨u, hu⟩ := h.stay a o q
    exact e.step.stay a u hu
structure Here (K : Frag) (ρ : En) (α : Mp_) (s : PS) (H : Hp) (σ : L2.St) : Prop where
  pre : Pre0 ρ α H
  n0 : True
  ok : WOk K α s.hp H
  env : EnvR K α s.hp H s.env σ
/-- behind a statement -/
def PostN (K : Frag) (ρ : En) (α : Mp_) (hp : List O) (H : Hp) (N : PS → Prop) (Dn : L2.St → Hp → Prop) : Prop :=
  ∀ s' α' H' σ', N s' → Here K ρ α' s' H' σ' → StepW α hp H α' s'.hp H' → α'.ban = α.ban → Dn σ' H'
structure PostS (K : Frag) (W : WX) (ρ : En) (α : Mp_) (hp : List O) (H : Hp) (k : MK) (D : Ends) : Prop where
  nx : PostN K ρ α hp H k.nx D.nx
  bk : PostN K ρ α hp H k.bk D.bk
  ct : PostN K ρ α hp H k.ct D.ct
  rt : ∀ v hp' α' H' u, k.rt v hp' → Pre0 ρ α' H' → WOk K α' hp' H' → StepW α hp H α' hp' H' → α'.ban = α.ban → SRep K α' hp' H' v u → D.rt u H'
  ex : ∀ x hp' α' H' c dd σ', k.ex x hp' → Pre0 ρ α' H' → WOk K α' hp' H' → StepW α hp H α' hp' H' → α'.ban = α.ban → XRep K (Al α' hp') H' x c dd → W c dd σ' H'
def SimS (K : Frag) (W : WX) (t : TS) (M : MS) : Prop := ∀ (ρ : En) (α : Mp_) (s : PS) (H : Hp) (σ : L2.St), Here K ρ α s H σ → ∀ k, M s k → ∀ D : Ends, PostS K W ρ α s.hp H k D → t D σ H
/-- a target; us: the slots that it stores -/
def SimG (K : Frag) (g : TG) (us : List Nat) (M : MG) : Prop := ∀ (ρ : En) (α : Mp_) (s : PS) (H : Hp) (σ : L2.St) (v : S) (u : V), Here K ρ α s H σ → SRep K α s.hp H v u → ∀ N, M v s N → ∀ Q : L2.St → Hp → Prop,
  (∀ s' α' H' σ', N s' → Here K ρ α' s' H' σ' → Ext α s.hp H α' s'.hp H' → (σ'.length = σ.length ∧ ∀ i, i ∉ us → σ'[i]? = σ[i]?) → Q σ' H') → g u σ H Q
section
variable {K : Frag} {W : WX} {ρ : En} {α β : Mp_} {hp hp1 : List O} {H H1 : Hp} {σ : L2.St} {s : PS}
theorem PostN.at {N : PS → Prop} {Dn : L2.St → Hp → Prop} (p : PostN K ρ α hp H N Dn) (e : StepW α hp H β hp1 H1) (b : β.ban = α.ban) : PostN K ρ β hp1 H1 N Dn := fun s' a h' σ' n i st bb => p s' a h' σ' n i (e.trans st) (bb.trans b)
theorem PostS.at {k : MK} {D : Ends} (p : PostS K W ρ α hp H k D) (e : StepW α hp H β hp1 H1) (b : β.ban = α.ban) : PostS K W ρ β hp1 H1 k D :=
  ⟨p.nx.at e b, p.bk.at e b, p.ct.at e b, fun v h a h' u r pr w st bb => p.rt v h a h' u r pr w (e.trans st) (bb.trans b), fun x h a h' c dd σ' r pr w st bb => p.ex x h a h' c dd σ' r pr w (e.trans st) (bb.trans b)⟩
theorem Here.ext (i : Here K ρ α s H σ) (e : Ext α s.hp H β hp1 H1) (w : WOk K β hp1 H1) : Here K ρ β { s with hp := hp1 } H1 σ := ⟨i.pre.ext e, i.n0, w, i.env.mono e⟩
theorem PostS.postX {k : MK} {D : Ends} (p : PostS K W ρ α hp H k D) (pre : Pre0 ρ α H) : PostX K W σ α hp H k.ex := fun x h a h' c dd r e w q => p.ex x h a h' c dd σ r (pre.ext e) w e.step e.pre.ban q
theorem EnvR.set {env : List (Option S)} {i : Nat} {v : S} {u : V} (e : EnvR K α hp H env σ) (r : SRep K α hp H v u) : EnvR K α hp H (env.set i (some v)) (σ.set i (some u)) := by
  refine ⟨by rw [List.length_set, List.length_set]; exact e.1, fun j s hj => ?_⟩
  by_cases hi : i = j
  · subst hi
    by_cases hl : i < env.length
    · rw [List.getElem?_set_self hl] at hj
      cases hj
      exact ⟨u, List.getElem?_set_self (by rw [← e.1]; exact hl), r⟩
    · rw [List.getElem?_eq_none (by simpa using hl)] at hj
      cases hj
  · rw [List.getElem?_set_ne hi] at hj
    obtain ⟨v', h1, h2⟩ := e.2 j s hj
    exact ⟨v', by rw [List.getElem?_set_ne hi]; exact h1, h2⟩
end

/-! ### simple statements -/
def mgName (i : Nat) : MG := fun v s N => N { s with env := s.env.set i (some v) }
theorem simg_name {K : Frag} (i : Nat) : SimG K (gName i) [i] (mgName i) := by
  intro ρ α s H σ v u h r N m Q q
  exact q _ α H _ m ⟨h.pre, h.n0, h.ok, h.env.set r⟩ Ext.refl ⟨List.length_set .., fun j hj => List.getElem?_set_ne fun e => hj (by simp [e])⟩
def mAsg (Ma : ME) (G : MG) : MS := fun s k => Ma s (fun v hp' => G v { s with hp := hp' } k.nx) k.ex
theorem sim_asg {K : Frag} {W : WX} {t : TE} {g : TG} {us : List Nat} {Ma : ME} {G : MG} (ha : SimE K W t Ma) (hg : SimG K g us G) : SimS K W (tAsg t g) (mAsg Ma G) := by
  intro ρ α s H σ h k m D p
  refine ha α s H σ h.ok h.env _ _ m _ (fun v hp1 α1 H1 u m1 e1 w1 r1 => ?_) (p.postX h.pre)
  refine hg ρ α1 { s with hp := hp1 } H1 σ v u (h.ext e1 w1) r1 _ m1 _ fun s' α' H' σ' n i e _ => ?_
  exact p.nx s' α' H' σ' n i (e1.trans e).step ((e1.trans e).pre.ban)
def mDrop (Ma : ME) : MS := fun s k => Ma s (fun _ hp' => k.nx { s with hp := hp' }) k.ex
theorem sim_drop {K : Frag} {W : WX} {t : TE} {Ma : ME} (ha : SimE K W t Ma) : SimS K W (tDrop t) (mDrop Ma) := by
  intro ρ α s H σ h k m D p
  refine ha α s H σ h.ok h.env _ _ m _ (fun v hp1 α1 H1 u m1 e1 w1 r1 => ?_) (p.postX h.pre)
  exact p.nx _ α1 H1 σ m1 (h.ext e1 w1) e1.step e1.pre.ban
def mRet (Ma : ME) : MS := fun s k => Ma s k.rt k.ex
theorem sim_ret {K : Frag} {W : WX} {t : TE} {Ma : ME} (ha : SimE K W t Ma) : SimS K W (tRet t) (mRet Ma) := by
  intro ρ α s H σ h k m D p
  refine ha α s H σ h.ok h.env _ _ m _ (fun v hp1 α1 H1 u m1 e1 w1 r1 => ?_) (p.postX h.pre)
  exact p.rt v hp1 α1 H1 u m1 (h.pre.ext e1) w1 e1.step e1.pre.ban r1
def mRetN : MS := fun s k => k.rt (.d .non) s.hp
theorem sim_retN {K : Frag} {W : WX} : SimS K W tRetN mRetN := fun ρ α s H σ h k m D p => p.rt _ s.hp α H .non m h.pre h.ok (Step.refl al_sub) rfl rfl
def mNext : MS := fun s k => k.nx s
def mBreak : MS := fun s k => k.bk s
def mCont : MS := fun s k => k.ct s
theorem sim_next {K : Frag} {W : WX} : SimS K W tNext mNext := fun ρ α s H σ h k m D p => p.nx s α H σ m h (Step.refl al_sub) rfl
theorem sim_break {K : Frag} {W : WX} : SimS K W tBreak mBreak := fun ρ α s H σ h k m D p => p.bk s α H σ m h (Step.refl al_sub) rfl
theorem sim_cont {K : Frag} {W : WX} : SimS K W tCont mCont := fun ρ α s H σ h k m D p => p.ct s α H σ m h (Step.refl al_sub) rfl
def mSeq (Ma Mb : MS) : MS := fun s k => Ma s { k with nx := fun s' => Mb s' k }
theorem sim_seq {K : Frag} {W : WX} {t u : TS} {Ma Mb : MS} (ha : SimS K W t Ma) (hb : SimS K W u Mb) : SimS K W (tSeq t u) (mSeq Ma Mb) := by
  intro ρ α s H σ h k m D p
  refine ha ρ α s H σ h _ m _ ⟨fun s' α' H' σ' n i st b => ?_, p.bk, p.ct, p.rt, p.ex⟩
  exact hb ρ α' s' H' σ' i k n D (p.at st b)
def mIfS (Mc : MT) (Ma Mb : MS) : MS := fun s k => Mc s (fun b hp' => if b = true then Ma { s with hp := hp' } k else Mb { s with hp := hp' } k) k.ex
theorem sim_ifS {K : Frag} {W : WX} {c : TT} {t u : TS} {Mc : MT} {Ma Mb : MS} (hc : SimT K W c Mc) (ha : SimS K W t Ma) (hb : SimS K W u Mb) : SimS K W (tIfS c t u) (mIfS Mc Ma Mb) := by
  intro ρ α s H σ h k m D p
  refine hc α s H σ h.ok h.env _ _ m _ (fun b hp1 α1 H1 m1 e1 w1 => ?_) (p.postX h.pre)
  cases b with
  | true => exact ha ρ α1 _ H1 σ (h.ext e1 w1) k m1 D (p.at e1.step e1.pre.ban)
  | false => exact hb ρ α1 _ H1 σ (h.ext e1 w1) k m1 D (p.at e1.step e1.pre.ban)
/-- x += e on a number -/
def envI (s : PS) (i : Nat) : Option Int := match s.env[i]? with
  | some (some (.d (.int a))) => some a
  | _ => none
def mAug (i : Nat) (f : Int → Int → Int) (Ma : ME) : MS := fun s k => on (envI s i) fun a => Ma s (fun v hp' => on (val hp' v) fun d => on (asI d) fun b => k.nx { s with hp := hp', env := s.env.set i (some (.d (.int (f a b)))) }) k.ex
theorem sim_aug {K : Frag} {W : WX} {t : TE} {Ma : ME} (i : Nat) (f : Int → Int → Int) (ha : SimE K W t Ma) : SimS K W (tAug i t (ipI f)) (mAug i f Ma) := by
  intro ρ α s H σ h k m D p
  obtain ⟨a, g, m⟩ := on.ex m
  have hx : σ[i]? = some (some (.int a)) := by
    unfold envI at g
    split at g
    · cases g
      rename_i q
      obtain ⟨v, h1, h2⟩ := h.env.2 i _ q
      cases (show v = .int a from h2)
      exact h1
    · cases g
  refine ⟨_, hx, ha α s H σ h.ok h.env _ _ m _ (fun v hp1 α1 H1 u m1 e1 w1 r1 => ?_) (p.postX h.pre)⟩
  obtain ⟨d, g1, m1⟩ := on.ex m1
  obtain ⟨b, g2, m1⟩ := on.ex m1
  have hi := h.ext e1 w1
  refine ⟨a, b, rfl, (r1.val w1 g1).asI g2, p.nx _ α1 H1 _ m1 ⟨hi.pre, hi.n0, hi.ok, hi.env.set (v := .d (.int (f a b))) rfl⟩ e1.step e1.pre.ban⟩

/-! ### while -/
def whileN (Mc : MT) (Mb : MS) : Nat → MS
  | 0 => fun _ _ => False
  | n + 1 => fun s k => Mc s (fun b hp' => if b = true then Mb { s with hp := hp' } { k with nx := fun s' => whileN Mc Mb n s' k, ct := fun s' => whileN Mc Mb n s' k, bk := k.nx } else k.nx { s with hp := hp' }) k.ex
def mWhile (Mc : MT) (Mb : MS) : MS := fun s k => ∃ n, whileN Mc Mb n s k
theorem sim_while {K : Frag} {W : WX} {c : TT} {t : TS} {Mc : MT} {Mb : MS} (hc : SimT K W c Mc) (hb : SimS K W t Mb) : SimS K W (tWhile c t) (mWhile Mc Mb) := by
  intro ρ α s H σ h k ⟨n, m⟩ D p
  refine ⟨fun n σ' H' => ∃ α' s', Here K ρ α' s' H' σ' ∧ StepW α s.hp H α' s'.hp H' ∧ α'.ban = α.ban ∧ whileN Mc Mb n s' k, ⟨n, α, s, h, Step.refl al_sub, rfl, m⟩, ?_⟩
  rintro n σ' H' ⟨α', s', h', st, bb, m⟩
  cases n with
  | zero => exact m.elim
  | succ n =>
    have p' := p.at st bb
    refine hc α' s' H' σ' h'.ok h'.env _ _ m _ (fun b hp1 α1 H1 m1 e1 w1 => ?_) (p'.postX h'.pre)
    have p1 := p'.at e1.step e1.pre.ban
    cases b with
    | false => exact p1.nx _ α1 H1 σ' m1 (h'.ext e1 w1) (Step.refl al_sub) rfl
    | true =>
      show ∃ N : L2.St → Hp → Prop, _ ∧ _
      refine ⟨fun σ2 H2 => ∃ α' s', Here K ρ α' s' H2 σ2 ∧ StepW α s.hp H α' s'.hp H2 ∧ α'.ban = α.ban ∧ whileN Mc Mb n s' k, fun σ2 H2 q => ⟨n, Nat.lt_succ_self n, q⟩, ?_⟩
      have nn : PostN K ρ α1 hp1 H1 (fun s' => whileN Mc Mb n s' k) (fun σ2 H2 => ∃ α' s', Here K ρ α' s' H2 σ2 ∧ StepW α s.hp H α' s'.hp H2 ∧ α'.ban = α.ban ∧ whileN Mc Mb n s' k) := fun s2 α2 H2 σ2 n2 i2 st2 b2 => ⟨α2, s2, i2, (st.trans e1.step).trans st2, b2.trans (e1.pre.ban.trans bb), n2⟩
      exact hb ρ α1 _ H1 σ' (h'.ext e1 w1) _ m1 _ ⟨nn, p1.nx, nn, p1.rt, p1.ex⟩

/-! ### what is walked -/
/-- the walked list, if it is one that may change, is as it was -/
inductive Wk where
  | mu (n : Nat) | ob (n k : Nat)
def Wk.ix : Wk → Nat
  | .mu n => n
  | .ob n _ => n
@[simp] theorem Wk.ix_mu {n : Nat} : (Wk.mu n).ix = n := rfl
@[simp] theorem Wk.ix_ob {n k : Nat} : (Wk.ob n k).ix = n := rfl
def nodeDs (hp : List O) (n k : Nat) : Option (List D) := match nodeAt hp n k with
  | some (.lst xs) => dsOf xs
  | _ => none
def still (v : Option Wk) (ds : List D) (hp : List O) : Prop := match v with
  | none => True
  | some (.mu n) => hp[n]? = some (.lst ds)
  | some (.ob n k) => nodeDs hp n k = some ds
@[simp] theorem still_none {ds : List D} {hp : List O} : still none ds hp = True := rfl
def sameAt (v : Option Wk) (α β : Mp_) : Prop := match v with
  | none => True
  | some (.mu n) => ∃ p q : Addr × List Addr, α.own[n]? = some p ∧ β.own[n]? = some q ∧ q.1 = p.1
  | some (.ob n k) => ∃ (p q : Addr × List Addr) (a : Addr), α.own[n]? = some p ∧ β.own[n]? = some q ∧ (adr p)[k]? = some a ∧ (adr q)[k]? = some a
theorem own_same {α β : Mp_} (h : OwnLe α.own β.own) : ∀ {v : Option Wk}, sameAt v α α → sameAt v α β
  | none, _ => trivial
  | some (.mu n), ⟨p, _, h1, _, _⟩ => by
    obtain ⟨q, g1, g2, _⟩ := h n p h1
    exact ⟨p, q, h1, g1, g2⟩
  | some (.ob n k), ⟨p, _, a, h1, _, h3, _⟩ => by
    obtain ⟨q, g1, g2, g3⟩ := h n p h1
    exact ⟨p, q, a, h1, g1, h3, adr_le g2 g3 h3⟩
theorem sameAt.trans {α β γ : Mp_} : ∀ {v : Option Wk}, sameAt v α β → sameAt v β γ → sameAt v α γ
  | none, _, _ => trivial
  | some (.mu n), ⟨p, q, h1, h2, h3⟩, ⟨p', q', g1, g2, g3⟩ => by
    rw [h2] at g1
    cases g1
    exact ⟨p, q', h1, g2, g3.trans h3⟩
  | some (.ob n k), ⟨p, q, a, h1, h2, h3, h4⟩, ⟨p', q', a', g1, g2, g3, g4⟩ => by
    rw [h2] at g1
    cases g1
    rw [h4] at g3
    cases g3
    exact ⟨p, q', a, h1, g2, h3, g4⟩
theorem sameAt.right {α β : Mp_} : ∀ {v : Option Wk}, sameAt v α β → sameAt v β β
  | none, _ => trivial
  | some (.mu n), ⟨p, q, h1, h2, h3⟩ => ⟨q, q, h2, h2, rfl⟩
  | some (.ob n k), ⟨p, q, a, h1, h2, h3, h4⟩ => ⟨q, q, a, h2, h2, h4, h4⟩
def Walks (K : Frag) (J : It) (α : Mp_) (hp : List O) (H : Hp) (v : Option Wk) (ds : List D) : Prop :=
  ∀ α' hp' H', StepA α hp H α' hp' H' → sameAt v α α' → WOk K α' hp' H' → still v ds hp' →
    (∀ i d, ds[i]? = some d → J.go i H' ∧ ∀ x H'', J.yld i H' x H'' → (H'' = H' ∨ ∃ p o, H' p = none ∧ H'' = upd H' p o) ∧ Rep K (Al α' hp') H'' d x) ∧ J.stop ds.length H'
abbrev MI := PS → (Option Wk → List D → List O → Prop) → MX → Prop
def SimI (K : Frag) (W : WX) (wi : TI) (M : MI) : Prop := ∀ (α : Mp_) (s : PS) (H : Hp) (σ : L2.St), WOk K α s.hp H → EnvR K α s.hp H s.env σ → ∀ R Xp, M s R Xp → ∀ Q : It → Hp → Prop,
  (∀ v ds hp' α' H' J, R v ds hp' → Ext α s.hp H α' hp' H' → WOk K α' hp' H' → Walks K J α' hp' H' v ds → still v ds hp' → sameAt v α' α' → Q J H') → PostX K W σ α s.hp H Xp → wi σ H Q
/-- a thing's items, and which object it is -/
def walked (hp : List O) (v : S) (R : Option Wk → List D → List O → Prop) : Prop := match v with
  | .d d => on (items d) fun ds => R none ds hp
  | .mu n => match hp[n]? with
    | some (.lst ds) => R (some (.mu n)) ds hp
    | _ => False
  | .ob n k => on (nodeDs hp n k) fun ds => R (some (.ob n k)) ds hp
  | .exn _ _ _ _ => False
/-- a list or a tuple -/
def iSq (K : Frag) (t : TE) : TI := fun σ H R => t σ H fun x H1 => ∃ a, x = .ref a ∧ (((∃ vs, SqL K H1 a vs) ∧ R (Itl K a) H1) ∨ ((∃ vs, SqT K H1 a vs) ∧ R (Itt K a) H1))
theorem pi_sq {X : Cx} {tg l : Expr} {t : TE} (h : PE X l t) : PI X tg l (iSq X.K t) := by
  refine ⟨fun pins st σ H R I hq => thn (h.run pins st σ H _ I hq) fun v st1 ⟨x, G, J, rv, a, ex, q⟩ => ?_⟩
  subst ex
  cases rv
  have kp : Inv X pins σ G { st1 with heap := st1.heap.push { cls := .type "x", data := .fields #[] } } := J.kept (t' := st1.toks) fun _ _ e => Heap.get?_push_of_some _ e
  have fp : ∀ b ∈ [st1.heap.objs.size], FpOk X pins G b := fun b hb => by
    cases List.mem_singleton.mp hb
    exact J.fpOk (Nat.le_refl _) (J.hok.fresh (Nat.le_refl _))
  rcases q with ⟨⟨vs, hv⟩, q⟩ | ⟨⟨vs, hv⟩, q⟩
  · obtain ⟨us, _, pl, _⟩ := J.list hv
    exact wpAny_pyIter_list pl.isList ⟨st1.heap.objs.size, [st1.heap.objs.size], _, _, G, rfl, J.kept (t' := st1.toks) (fun _ _ e => Heap.get?_push_of_some _ e), turn_list a _, ⟨_, Heap.get?_push_size _ rfl, rfl, rfl⟩, fp, q⟩
  · obtain ⟨us, _, pl, _⟩ := J.tuple hv
    exact wpAny_pyIter_tuple (show st1.heap.IsTuple a us.toArray from pl) ⟨st1.heap.objs.size, [st1.heap.objs.size], _, _, G, rfl, J.kept (t' := st1.toks) (fun _ _ e => Heap.get?_push_of_some _ e), turn_tuple a _, ⟨_, Heap.get?_push_size _ rfl, rfl, rfl⟩, fp, q⟩
theorem walks_l {K : Frag} {α : Mp_} {hp : List O} {H : Hp} {a : Addr} {v : Option Wk} {ds : List D} (h : ∀ α' hp' H', StepA α hp H α' hp' H' → sameAt v α α' → WOk K α' hp' H' → still v ds hp' → ∃ vs, SqL K H' a vs ∧ RepL K (Al α' hp') H' ds vs) : Walks K (Itl K a) α hp H v ds := by
  intro α' hp' H' st sa w stl
  obtain ⟨vs, hv, r⟩ := h α' hp' H' st sa w stl
  refine ⟨fun i d hd => ?_, ⟨vs, hv, by rw [r.length]; exact Nat.le_refl _⟩⟩
  obtain ⟨u, h1, h2⟩ := r.get hd
  refine ⟨⟨vs, u, hv, h1⟩, fun x H'' ⟨e, y⟩ => ?_⟩
  subst e
  have := y vs hv
  rw [h1] at this
  cases this
  exact ⟨.inl rfl, h2⟩
theorem walks_t {K : Frag} {α : Mp_} {hp : List O} {H : Hp} {a : Addr} {v : Option Wk} {ds : List D} (h : ∀ α' hp' H', StepA α hp H α' hp' H' → sameAt v α α' → WOk K α' hp' H' → still v ds hp' → ∃ vs, SqT K H' a vs ∧ RepL K (Al α' hp') H' ds vs) : Walks K (Itt K a) α hp H v ds := by
  intro α' hp' H' st sa w stl
  obtain ⟨vs, hv, r⟩ := h α' hp' H' st sa w stl
  refine ⟨fun i d hd => ?_, ⟨vs, hv, by rw [r.length]; exact Nat.le_refl _⟩⟩
  obtain ⟨u, h1, h2⟩ := r.get hd
  refine ⟨⟨vs, u, hv, h1⟩, fun x H'' ⟨e, y⟩ => ?_⟩
  subst e
  have := y vs hv
  rw [h1] at this
  cases this
  exact ⟨.inl rfl, h2⟩
def miSq (Ma : ME) : MI := fun s R Xp => Ma s (fun v hp' => walked hp' v R) Xp
theorem simi_sq {K : Frag} {W : WX} {t : TE} {Ma : ME} (ha : SimE K W t Ma) : SimI K W (iSq K t) (miSq Ma) := by
  intro α s H σ w e R Xp m Q q qx
  refine ha α s H σ w e _ _ m _ (fun v hp1 α1 H1 u m1 e1 w1 r1 => ?_) qx
  cases v with
  | d d =>
    obtain ⟨ds, hd, m1⟩ := on.ex (show on (items d) _ from m1)
    cases d with
    | tup xs =>
      cases hd
      obtain ⟨a, vs, eu, h1, r⟩ := tup_sq (show Rep K (Al α1 hp1) H1 (.tup _) u from r1)
      refine ⟨a, eu, .inr ⟨⟨vs, h1⟩, q none _ hp1 α1 H1 _ m1 e1 w1 (walks_t fun α' hp' H' st _ w' _ => ?_) trivial trivial⟩⟩
      obtain ⟨a', vs', eu', h1', r'⟩ := tup_sq (Rep.mono st _ _ (show Rep K (Al α1 hp1) H1 (.tup _) u from r1))
      cases eu.symm.trans eu'
      exact ⟨vs', h1', r'⟩
    | lst xs =>
      cases hd
      obtain ⟨a, vs, eu, h1, r⟩ := (show Rep K (Al α1 hp1) H1 (.lst _) u from r1)
      refine ⟨a, eu, .inl ⟨⟨vs, .inl (.inl h1.1)⟩, q none _ hp1 α1 H1 _ m1 e1 w1 (walks_l fun α' hp' H' st _ w' _ => ?_) trivial trivial⟩⟩
      obtain ⟨a', vs', eu', h1', r'⟩ := Rep.mono st _ _ (show Rep K (Al α1 hp1) H1 (.lst _) u from r1)
      cases eu.symm.trans eu'
      exact ⟨vs', .inl (.inl h1'.1), r'⟩
    | fl xs =>
      cases hd
      obtain ⟨a, vs, eu, h1, r⟩ := fl_sq (show Rep K (Al α1 hp1) H1 (.fl _) u from r1)
      refine ⟨a, eu, .inl ⟨⟨vs, h1⟩, q none _ hp1 α1 H1 _ m1 e1 w1 (walks_l fun α' hp' H' st _ w' _ => ?_) trivial trivial⟩⟩
      obtain ⟨a', vs', eu', h1', r'⟩ := fl_sq (Rep.mono st _ _ (show Rep K (Al α1 hp1) H1 (.fl _) u from r1))
      cases eu.symm.trans eu'
      exact ⟨vs', h1', r'⟩
    | _ => cases hd
  | mu n =>
    obtain ⟨p, hp, eu⟩ := r1
    simp only [walked] at m1
    cases g : hp1[n]? with
    | none => rw [g] at m1; exact m1.elim
    | some o =>
      rw [g] at m1
      cases o with
      | lst ds =>
        obtain ⟨_, vs, h1, r⟩ := w1.obj n _ p g hp
        refine ⟨p.1, eu, .inl ⟨⟨vs, .inl (.inl h1)⟩, q (some (.mu n)) ds hp1 α1 H1 _ m1 e1 w1 (walks_l fun α' hp' H' st sa w' stl => ?_) g ⟨p, p, hp, hp, rfl⟩⟩⟩
        obtain ⟨p1, p2, g1, g2, g3⟩ := sa
        rw [hp] at g1
        cases g1
        obtain ⟨_, vs', h1', r'⟩ := w'.obj n _ p2 stl g2
        rw [g3] at h1'
        exact ⟨vs', .inl (.inl h1'), r'⟩
      | dct _ => exact m1.elim
      | reg _ => exact m1.elim
      | gone => exact m1.elim
  | ob n k =>
    obtain ⟨p, a, hp, ha, eu⟩ := r1
    obtain ⟨ds, g, m1⟩ := on.ex (show on (nodeDs hp1 n k) _ from m1)
    have at_ : ∀ {α' : Mp_} {hp' : List O} {H' : Hp} {p' : Addr × List Addr}, WOk K α' hp' H' → nodeDs hp' n k = some ds → α'.own[n]? = some p' → (adr p')[k]? = some a → ∃ vs, SqL K H' a vs ∧ RepL K (Al α' hp') H' ds vs := fun {α' hp' H' p'} w' g hp ha => by
      unfold nodeDs at g
      split at g
      · rename_i xs e
        obtain ⟨vs, h1, r⟩ := w'.node e hp ha
        exact ⟨vs, .inl (.inl h1), RepNL.ds r g⟩
      · cases g
    obtain ⟨vs, h1, r⟩ := at_ w1 g hp ha
    refine ⟨a, eu, .inl ⟨⟨vs, h1⟩, q (some (.ob n k)) ds hp1 α1 H1 _ m1 e1 w1 (walks_l fun α' hp' H' st sa w' stl => ?_) g ⟨p, p, a, hp, hp, ha, ha⟩⟩⟩
    obtain ⟨p1, p2, b, g1, g2, g3, g4⟩ := sa
    rw [hp] at g1
    cases g1
    rw [ha] at g3
    cases g3
    exact at_ w' stl g2 g4
  | exn _ _ _ _ => exact m1.elim
/-- the numbers of a range -/
def rng (lo c : Int) (n : Nat) : List D := (List.range n).map fun (i : Nat) => D.int (lo + (i : Int) * c)
theorem rng_len {lo c : Int} {n : Nat} : (rng lo c n).length = n := by unfold rng; simp
theorem rng_get {lo c : Int} {n i : Nat} {d : D} (h : (rng lo c n)[i]? = some d) : i < n ∧ d = .int (lo + (i : Int) * c) := by
  have hi : i < n := by have := (List.getElem?_eq_some_iff.mp h).1; rwa [rng_len] at this
  unfold rng at h
  rw [List.getElem?_map, List.getElem?_range hi] at h
  cases h
  exact ⟨hi, rfl⟩
theorem walks_r {K : Frag} {α : Mp_} {hp : List O} {H : Hp} {lo : Int} {n : Nat} : Walks K (Itr lo n) α hp H none (rng lo 1 n) := by
  intro α' hp' H' st sa w stl
  refine ⟨fun i d hd => ?_, by show n ≤ _; rw [rng_len]; exact Nat.le_refl _⟩
  obtain ⟨h1, rfl⟩ := rng_get hd
  exact ⟨h1, fun x H'' ⟨e, y⟩ => ⟨.inl e, by subst y; show V.int _ = V.int _; rw [Int.mul_one]⟩⟩
theorem walks_c {K : Frag} {α : Mp_} {hp : List O} {H : Hp} {lo c : Int} {n : Nat} : Walks K (Itc lo c n) α hp H none (rng lo c n) := by
  intro α' hp' H' st sa w stl
  refine ⟨fun i d hd => ?_, by show n ≤ _; rw [rng_len]; exact Nat.le_refl _⟩
  obtain ⟨h1, rfl⟩ := rng_get hd
  exact ⟨h1, fun x H'' ⟨e, y⟩ => ⟨.inl e, by subst y; rfl⟩⟩
def intsD : List D → Option (List Int)
  | [] => some []
  | .int i :: r => (intsD r).bind fun l => some (i :: l)
  | _ => none
theorem ints_ok {K : Frag} {A : Av} {H : Hp} : ∀ {ds : List D} {vs : List V} {l : List Int}, RepTL K A H ds vs → intsD ds = some l → vs = l.map V.int
  | [], _, l, h, e => by cases h; cases e; rfl
  | d :: ds, _, l, h, e => by
    cases h with
    | @cons _ v _ vs h t =>
      cases d with
      | int i =>
        have e1 : ((intsD ds).bind fun l => some (i :: l)) = some l := e
        cases g : intsD ds with
        | none => rw [g] at e1; cases e1
        | some l' =>
          rw [g] at e1
          cases e1
          cases (show v = .int i from h)
          rw [ints_ok t g]
          rfl
      | _ => cases e
/-- range(n), range(a, b), range(a, b, c): Rs what it tells of the numbers -/
def miRng (f : List Int → (Int → Int → Nat → Prop) → Prop) (Ma : MA) : MI := fun s R Xp => Ma s (fun vs hp' => on (vals hp' vs) fun ds => on (intsD ds) fun l => f l fun lo c n => R none (rng lo c n) hp') Xp
def f1R : List Int → (Int → Int → Nat → Prop) → Prop := fun l k => match l with
  | [j] => -(2 ^ 62) ≤ j ∧ j < 2 ^ 62 ∧ k 0 1 j.toNat
  | _ => False
def f2R : List Int → (Int → Int → Nat → Prop) → Prop := fun l k => match l with
  | [i, j] => (-(2 ^ 62) ≤ i ∧ i < 2 ^ 62 ∧ -(2 ^ 62) ≤ j ∧ j < 2 ^ 62) ∧ k i 1 (j - i).toNat
  | _ => False
def f3R : List Int → (Int → Int → Nat → Prop) → Prop := fun l k => match l with
  | [i, j, c] => ∃ n, RgC i j c n ∧ k i c n
  | _ => False
theorem simi_r1 {K : Frag} {W : WX} {t : TA} {Ma : MA} (ha : SimA K W t Ma) : SimI K W (iRng1 t) (miRng f1R Ma) := by
  intro α s H σ w e R Xp m Q q qx
  refine ha α s H σ w e _ _ m _ (fun v hp1 α1 H1 u m1 e1 w1 r1 => ?_) qx
  obtain ⟨ds, hd, m1⟩ := on.ex m1
  obtain ⟨l, hl, m1⟩ := on.ex m1
  cases ints_ok (r1.vals w1 hd) hl
  match l, m1 with
  | [j], m1 => exact ⟨j, rfl, m1.1, m1.2.1, q _ _ _ α1 H1 _ m1.2.2 e1 w1 walks_r trivial trivial⟩
theorem simi_r2 {K : Frag} {W : WX} {t : TA} {Ma : MA} (ha : SimA K W t Ma) : SimI K W (iRng2 t) (miRng f2R Ma) := by
  intro α s H σ w e R Xp m Q q qx
  refine ha α s H σ w e _ _ m _ (fun v hp1 α1 H1 u m1 e1 w1 r1 => ?_) qx
  obtain ⟨ds, hd, m1⟩ := on.ex m1
  obtain ⟨l, hl, m1⟩ := on.ex m1
  cases ints_ok (r1.vals w1 hd) hl
  match l, m1 with
  | [i, j], m1 => exact ⟨i, j, rfl, m1.1, q _ _ _ α1 H1 _ m1.2 e1 w1 walks_r trivial trivial⟩
theorem simi_r3 {K : Frag} {W : WX} {t : TA} {Ma : MA} (ha : SimA K W t Ma) : SimI K W (iRng3 t) (miRng f3R Ma) := by
  intro α s H σ w e R Xp m Q q qx
  refine ha α s H σ w e _ _ m _ (fun v hp1 α1 H1 u m1 e1 w1 r1 => ?_) qx
  obtain ⟨ds, hd, m1⟩ := on.ex m1
  obtain ⟨l, hl, m1⟩ := on.ex m1
  cases ints_ok (r1.vals w1 hd) hl
  match l, m1 with
  | [i, j, c], ⟨n, g, m1⟩ => exact ⟨i, j, c, n, rfl, g, q _ _ _ α1 H1 _ m1 e1 w1 walks_c trivial trivial⟩

/-! ### for -/
def forL (v : Option Wk) (all : List D) (G : MG) (Mb : MS) : List D → MS
  | [] => fun s k => k.nx s
  | d :: ds => fun s k => G (.d d) s fun s1 => Mb s1 { k with nx := fun s2 => still v all s2.hp ∧ forL v all G Mb ds s2 k, ct := fun s2 => still v all s2.hp ∧ forL v all G Mb ds s2 k, bk := k.nx }
def mFor (I : MI) (G : MG) (Mb : MS) : MS := fun s k => I s (fun v ds hp' => forL v ds G Mb ds { s with hp := hp' } k) k.ex
theorem Pre0.trans {ρ : En} {α β : Mp_} {H H1 : Hp} (h : Pre0 ρ α H) (g : Pre0 ⟨α.own, H⟩ β H1) : Pre0 ρ β H1 where
  own := h.own.trans g.own
  nw := fun n p hn q => by
    by_cases hl : n < α.own.length
    · obtain ⟨p', h1, h2, _⟩ := g.own n _ (List.getElem?_eq_getElem hl)
      rw [q] at h1
      cases h1
      rw [h2]
      exact h.nw n _ hn (List.getElem?_eq_getElem hl)
    · exact none_back h.stay (g.nw n p (by show α.own.length ≤ n; omega) q)
  stay := fun a o q => by
    obtain ⟨u, hu⟩ := h.stay a o q
    exact g.stay a u hu
theorem Pre0.refl {α : Mp_} {H : Hp} : Pre0 ⟨α.own, H⟩ α H := ⟨OwnLe.refl _, fun _ _ h z => (at_none h z).elim, fun _ o h => ⟨o, h⟩⟩
theorem Here.up {K : Frag} {ρ : En} {α β : Mp_} {s : PS} {H H1 : Hp} {σ : L2.St} (pre : Pre0 ρ α H) (h : Here K ⟨α.own, H⟩ β s H1 σ) : Here K ρ β s H1 σ := ⟨pre.trans h.pre, trivial, h.ok, h.env⟩
theorem Here.new {K : Frag} {ρ : En} {α : Mp_} {s : PS} {H : Hp} {σ : L2.St} (h : Here K ρ α s H σ) : Here K ⟨α.own, H⟩ α s H σ := ⟨Pre0.refl, trivial, h.ok, h.env⟩
theorem PostN.up {K : Frag} {ρ : En} {α β : Mp_} {hp1 : List O} {H H1 : Hp} {N : PS → Prop} {Dn : L2.St → Hp → Prop} (pre : Pre0 ρ α H) (p : PostN K ρ β hp1 H1 N Dn) : PostN K ⟨α.own, H⟩ β hp1 H1 N Dn := fun s' a h' σ' n i st b => p s' a h' σ' n (i.up pre) st b
theorem PostS.up {K : Frag} {W : WX} {ρ : En} {α β : Mp_} {hp1 : List O} {H H1 : Hp} {k : MK} {D : Ends} (pre : Pre0 ρ α H) (p : PostS K W ρ β hp1 H1 k D) : PostS K W ⟨α.own, H⟩ β hp1 H1 k D :=
  ⟨p.nx.up pre, p.bk.up pre, p.ct.up pre, fun v h a h' u r pr w st bb => p.rt v h a h' u r (pre.trans pr) w st bb, fun x h a h' c dd σ' r pr w st bb => p.ex x h a h' c dd σ' r (pre.trans pr) w st bb⟩
theorem sim_for {K : Frag} {W : WX} {wi : TI} {g : TG} {us : List Nat} {t : TS} {I : MI} {G : MG} {Mb : MS} (hi : SimI K W wi I) (hg : SimG K g us G) (hb : SimS K W t Mb) : SimS K W (tFor wi g t) (mFor I G Mb) := by
  intro ρ α s H σ h k m D p
  refine hi α s H σ h.ok h.env _ _ m _ (fun v ds hp1 α1 H1 J m1 e1 w1 wk stl hvl => ?_) (p.postX h.pre)
  have h0 := h.ext e1 w1
  have p1 := (p.at e1.step e1.pre.ban).up h0.pre
  have h1 := h0.new
  -- by turns
  let P : Nat → L2.St → Hp → Prop := fun i σ' H' => ∃ α' s', Here K ⟨α1.own, H1⟩ α' s' H' σ' ∧ StepW α1 hp1 H1 α' s'.hp H' ∧ α'.ban = α1.ban ∧ still v ds s'.hp ∧ forL v ds G Mb (ds.drop i) s' k
  refine ⟨fun i m σ' H' => m = ds.length - i ∧ i ≤ ds.length ∧ P i σ' H', ⟨ds.length, by simp, Nat.zero_le _, α1, { s with hp := hp1 }, h1, Step.refl al_sub, rfl, stl, by rw [List.drop_zero]; exact m1⟩, ?_⟩
  rintro i m σ' H' ⟨rfl, hil, α', s', h', st, bb, stl', mm⟩
  obtain ⟨w2, w3⟩ := wk α' s'.hp H' st.toA (own_same h'.pre.own hvl) h'.ok stl'
  by_cases hlt : i < ds.length
  · obtain ⟨go, yl⟩ := w2 i ds[i] (List.getElem?_eq_getElem hlt)
    refine .inr ⟨go, P (i + 1), fun σ2 H2 q => ⟨ds.length - (i + 1), by omega, rfl, hlt, q⟩, fun x H2 y => ?_⟩
    obtain ⟨gr, rx⟩ := yl x H2 y
    obtain ⟨e2, wk2⟩ := h'.ok.grown gr
    rw [List.drop_eq_getElem_cons hlt] at mm
    have p2 := (p1.at st bb).at e2.step e2.pre.ban
    refine hg ⟨α1.own, H1⟩ α' { s' with hp := s'.hp } H2 σ' (.d ds[i]) x (h'.ext e2 wk2) rx _ mm _ fun s3 α3 H3 σ3 n3 i3 e3 _ => ?_
    have p3 := p2.at e3.step e3.pre.ban
    have nn : PostN K ⟨α1.own, H1⟩ α3 s3.hp H3 (fun s2 => still v ds s2.hp ∧ forL v ds G Mb (ds.drop (i + 1)) s2 k) (P (i + 1)) := fun s4 α4 H4 σ4 n4 i4 st4 b4 =>
      ⟨α4, s4, i4, ((st.trans e2.step).trans e3.step).trans st4, b4.trans (e3.pre.ban.trans (e2.pre.ban.trans bb)), n4.1, n4.2⟩
    exact hb ⟨α1.own, H1⟩ α3 s3 H3 σ3 i3 _ n3 _ ⟨nn, p3.nx, nn, p3.rt, p3.ex⟩
  · have e : i = ds.length := by omega
    subst e
    rw [List.drop_length] at mm
    exact .inl ⟨w3, (p1.at st bb).nx s' α' H' σ' mm h' (Step.refl al_sub) rfl⟩
end Mp

set_option Elab.async false
set_option linter.all false
set_option maxRecDepth 100000
set_option maxHeartbeats 4000000
/-! Mp5: comprehensions, lists and dicts that change, calls, defs. -/
namespace Mp
open PySem PySem.Spec PyProof.Rows L2

/-! ### comprehensions -/
def isD : S → Option D
  | .d x => some x
  | _ => none
@[simp] theorem isD_d {x : D} : isD (.d x) = some x := rfl
theorem SRep.isD {K : Frag} {α : Mp_} {hp : List O} {H : Hp} {s : S} {v : V} {d : D} (h : SRep K α hp H s v) (e : Mp.isD s = some d) : Rep K (Al α hp) H d v := by
  cases s with
  | d x => cases e; exact h
  | mu n => cases e
  | ob _ _ => cases e
  | exn _ _ _ _ => cases e
def noX : MX := fun _ _ => False
def wipeE (env : List (Option S)) : List Nat → List (Option S)
  | [] => env
  | v :: vs => (wipeE env vs).set v none
theorem wipe_get (σ : L2.St) (i : Nat) : ∀ vs : List Nat, (wipe σ vs)[i]? = if i ∈ vs then (if i < σ.length then some none else none) else σ[i]?
  | [] => by simp [wipe]
  | v :: vs => by
    unfold wipe
    by_cases h : v = i
    · subst h
      by_cases hl : v < σ.length
      · rw [List.getElem?_set_self (by rw [wipe_length]; exact hl)]; simp [hl]
      · rw [List.getElem?_eq_none (by rw [List.length_set, wipe_length]; omega)]; simp [hl]
    · rw [List.getElem?_set_ne h, wipe_get σ i vs]
      simp [Ne.symm h]
theorem wipeE_get (σ : List (Option S)) (i : Nat) : ∀ vs : List Nat, (wipeE σ vs)[i]? = if i ∈ vs then (if i < σ.length then some none else none) else σ[i]?
  | [] => by simp [wipeE]
  | v :: vs => by
    have hl0 : ∀ ws : List Nat, (wipeE σ ws).length = σ.length := fun ws => by
      induction ws with
      | nil => rfl
      | cons w ws ih => unfold wipeE; rw [List.length_set, ih]
    unfold wipeE
    by_cases h : v = i
    · subst h
      by_cases hl : v < σ.length
      · rw [List.getElem?_set_self (by rw [hl0]; exact hl)]; simp [hl]
      · rw [List.getElem?_eq_none (by rw [List.length_set, hl0]; omega)]; simp [hl]
    · rw [List.getElem?_set_ne h, wipeE_get σ i vs]
      simp [Ne.symm h]
theorem EnvR.wipe {K : Frag} {α : Mp_} {hp : List O} {H : Hp} {env : List (Option S)} {σ : L2.St} (e : EnvR K α hp H env σ) (vs : List Nat) : EnvR K α hp H (wipeE env vs) (wipe σ vs) := by
  refine ⟨?_, fun i s hi => ?_⟩
  · rw [wipe_length, ← e.1]
    induction vs with
    | nil => rfl
    | cons w ws ih => unfold wipeE; rw [List.length_set, ih]
  · rw [wipeE_get] at hi
    rw [wipe_get]
    by_cases h : i ∈ vs
    · rw [if_pos h] at hi
      split at hi <;> cases hi
    · rw [if_neg h] at hi ⊢
      exact e.2 i s hi
theorem wipe_back {σ σ2 : L2.St} {us vs : List Nat} (hl : σ2.length = σ.length) (hs : ∀ u ∈ us, u ∈ vs) (h : ∀ i, i ∉ us → σ2[i]? = (wipe σ vs)[i]?) : wipe σ2 vs = wipe σ vs := by
  apply List.ext_getElem?
  intro i
  rw [wipe_get, wipe_get, hl]
  by_cases hi : i ∈ vs
  · rw [if_pos hi, if_pos hi]
  · rw [if_neg hi, if_neg hi, h i fun z => hi (hs i z), wipe_get, if_neg hi]
theorem WOk.unban {K : Frag} {α : Mp_} {hp : List O} {H : Hp} {b : Av} (w : WOk K α hp H) (hb : ∀ a, b a → α.ban a) : WOk K { α with ban := b } hp H ∧ StepW α hp H { α with ban := b } hp H := by
  have st : StepW α hp H { α with ban := b } hp H := ⟨fun _ _ h _ => h, fun a h => .inl (h.imp id (hb a)), fun _ h => .inl h, al_sub, fun _ o h => ⟨o, h⟩⟩
  exact ⟨⟨w.len, fun n o p h1 h2 => (w.obj n o p h1 h2).mono st fun _ _ _ => rfl, w.one, w.inj, fun a h => w.ban a (hb a h)⟩, st⟩
theorem stay_upd {H : Hp} {p : Addr} {o : HO} : ∀ a u, H a = some u → ∃ w, upd H p o a = some w := fun a u e => by
  by_cases z : a = p
  · subst z; exact ⟨o, upd_same⟩
  · exact ⟨u, by rw [upd_ne z]; exact e⟩
/-- the banned thing at p is another one now -/
theorem stepBan {α : Mp_} {hp : List O} {H : Hp} {p : Addr} {o : HO} (hp' : α.ban p) : Step (Al α hp) (Al α hp) H (Al α hp) (Al α hp) (upd H p o) :=
  ⟨fun a u e n => by
    have z : a ≠ p := fun z => by subst z; exact n (.inr hp')
    rw [upd_ne z]; exact e, fun _ h => .inl h, fun _ h => .inl h, fun _ h => h, stay_upd⟩
theorem WOk.setBan {K : Frag} {α : Mp_} {hp : List O} {H : Hp} {p : Addr} {o : HO} (w : WOk K α hp H) (hb : α.ban p) : WOk K α hp (upd H p o) :=
  ⟨w.len, fun n u q h1 h2 => (w.obj n u q h1 h2).mono (stepBan hb) fun hg b hz => upd_ne fun z => (w.ban p hb).2 (z ▸ ⟨n, q, u, h2, h1, hg, hz⟩), w.one, w.inj, fun a ha => by
    refine ⟨?_, (w.ban a ha).2⟩
    by_cases z : a = p
    · subst z; exact ⟨o, upd_same⟩
    · obtain ⟨x, hx⟩ := (w.ban a ha).1
      exact ⟨x, by rw [upd_ne z]; exact hx⟩⟩
def compL (v : Option Wk) (all : List D) (G : MG) (Mt : MT) (Me : ME) (env0 : List (Option S)) : List D → List D → List O → (List D → List O → Prop) → Prop
  | [], acc, hp, R => R acc hp
  | d :: ds, acc, hp, R => G (.d d) ⟨hp, env0, hp.length⟩ fun s1 => Mt s1 (fun b hp2 => if b = true then Me { s1 with hp := hp2 } (fun y hp3 => on (isD y) fun dy => acc.length < sizeLine ∧ still v all hp3 ∧ compL v all G Mt Me env0 ds (acc ++ [dy]) hp3 R) noX
      else still v all hp2 ∧ compL v all G Mt Me env0 ds acc hp2 R) noX
def mLc (I : MI) (G : MG) (Mt : MT) (Me : ME) (vs : List Nat) : ME := fun s R Xp => I s (fun v ds hp' => compL v ds G Mt Me (wipeE s.env vs) ds [] hp' fun acc hp2 => R (.d (.lst acc)) hp2) Xp
def mLcM (I : MI) (G : MG) (Mt : MT) (Me : ME) (vs : List Nat) : ME := fun s R Xp => I s (fun v ds hp' => compL v ds G Mt Me (wipeE s.env vs) ds [] hp' fun acc hp2 => R (.mu hp2.length) (hp2 ++ [.lst acc])) Xp
theorem postX_no {K : Frag} {W : WX} {σ : L2.St} {α : Mp_} {hp : List O} {H : Hp} : PostX K W σ α hp H noX := fun _ _ _ _ _ _ z => z.elim
/-- the comprehension's run: at its end the new list stands at p -/
structure Built (K : Frag) (α1 : Mp_) (hp1 : List O) (H1 : Hp) (p : Addr) (α' : Mp_) (hp' : List O) (H' : Hp) (acc : List D) : Prop where
  pre : OwnLe α1.own α'.own
  ban : α'.ban = fun a => α1.ban a ∨ a = p
  ok : WOk K α' hp' H'
  step : StepW α1 hp1 H1 α' hp' H'
  nw : ∀ (n : Nat) (p : Addr × List Addr), α1.own.length ≤ n → α'.own[n]? = some p → H1 p.1 = none
  at_ : ∃ us, H' p = some (.lst us) ∧ RepL K (Al α' hp') H' acc us
theorem Built.go {K : Frag} {α1 α2 α3 : Mp_} {hp1 hp2 hp3 : List O} {H1 H2 H3 : Hp} {p : Addr} {acc : List D} (b : Built K α1 hp1 H1 p α2 hp2 H2 acc) (e : Ext α2 hp2 H2 α3 hp3 H3) (w : WOk K α3 hp3 H3) : Built K α1 hp1 H1 p α3 hp3 H3 acc := by
  obtain ⟨us, h1, h2⟩ := b.at_
  refine ⟨b.pre.trans e.pre.own, e.pre.ban.trans b.ban, w, b.step.trans e.step, fun n q h z => ?_, us, e.step.keep p _ h1 ?_, RepL.mono e.step _ _ h2⟩
  · by_cases hn : n < α2.own.length
    · obtain ⟨q', h3, h4⟩ := e.pre.get (List.getElem?_eq_getElem hn)
      rw [z] at h3
      cases h3
      rw [h4]
      exact b.nw n _ h (List.getElem?_eq_getElem hn)
    · exact none_back b.step.stay (e.nw n q (by omega) z)
  · exact (b.ok.ban p (by rw [b.ban]; exact .inr rfl)).2
theorem Built.app {K : Frag} {α1 α2 : Mp_} {hp1 hp2 : List O} {H1 H2 : Hp} {p : Addr} {acc : List D} {d : D} {u : V} (hn : H1 p = none) (b : Built K α1 hp1 H1 p α2 hp2 H2 acc) (r : Rep K (Al α2 hp2) H2 d u) :
    ∃ us, H2 p = some (.lst us) ∧ us.length = acc.length ∧ Built K α1 hp1 H1 p α2 hp2 (upd H2 p (.lst (us ++ [u]))) (acc ++ [d]) := by
  obtain ⟨us, h1, h2⟩ := b.at_
  have hb : α2.ban p := by rw [b.ban]; exact .inr rfl
  refine ⟨us, h1, h2.length.symm, b.pre, b.ban, b.ok.setBan hb, ⟨fun a o e n => by
    have z : a ≠ p := fun z => by subst z; rw [hn] at e; cases e
    rw [upd_ne z]; exact b.step.keep a o e n, b.step.newA, b.step.newM, b.step.sub, fun a o e => by
    obtain ⟨u, hu⟩ := b.step.stay a o e
    exact stay_upd a u hu⟩, b.nw, _, upd_same, ?_⟩
  · exact (RepL.mono (stepBan hb) _ _ h2).append (.cons (Rep.mono (stepBan hb) _ _ r) .nil)
/-- the end of it: a list that nobody will change; one that will be changed -/
theorem Built.fin {K : Frag} {α1 α2 : Mp_} {hp1 hp2 : List O} {H1 H2 : Hp} {p : Addr} {acc : List D} (w1 : WOk K α1 hp1 H1) (hn : H1 p = none) (b : Built K α1 hp1 H1 p α2 hp2 H2 acc) :
    ∃ α3, Ext α1 hp1 H1 α3 hp2 H2 ∧ WOk K α3 hp2 H2 ∧ Rep K (Al α3 hp2) H2 (.lst acc) (.ref p) := by
  obtain ⟨us, h1, h2⟩ := b.at_
  obtain ⟨w3, st⟩ := b.ok.unban (b := α1.ban) (fun a h => by rw [b.ban]; exact .inl h)
  refine ⟨{ α2 with ban := α1.ban }, ⟨⟨b.pre, rfl⟩, b.step.trans st, b.nw⟩, w3, p, us, rfl, ⟨h1, fun z => ?_⟩, RepL.mono st _ _ h2⟩
  rcases z with z | z
  · exact (b.ok.ban p (by rw [b.ban]; exact .inr rfl)).2 z
  · obtain ⟨o, ho⟩ := (w1.ban p z).1
    rw [hn] at ho
    cases ho
theorem Built.finM {K : Frag} {α1 α2 : Mp_} {hp1 hp2 : List O} {H1 H2 : Hp} {p : Addr} {acc : List D} (w1 : WOk K α1 hp1 H1) (hn : H1 p = none) (b : Built K α1 hp1 H1 p α2 hp2 H2 acc) :
    ∃ α3, Ext α1 hp1 H1 α3 (hp2 ++ [.lst acc]) H2 ∧ WOk K α3 (hp2 ++ [.lst acc]) H2 ∧ SRep K α3 (hp2 ++ [.lst acc]) H2 (.mu hp2.length) (.ref p) := by
  obtain ⟨us, h1, h2⟩ := b.at_
  have hb : α2.ban p := by rw [b.ban]; exact .inr rfl
  obtain ⟨w3, st⟩ := b.ok.unban (b := α1.ban) (fun a h => by rw [b.ban]; exact .inl h)
  let α3 : Mp_ := { α2 with ban := α1.ban }
  have np : ¬ Al α3 hp2 p := fun z => by
    rcases z with z | z
    · exact (b.ok.ban p hb).2 z
    · obtain ⟨o, ho⟩ := (w1.ban p z).1
      rw [hn] at ho
      cases ho
  -- from the banned world: p changes from banned to owned
  have mt : ∀ a, Mt (α3.push (p, [])) (hp2 ++ [.lst acc]) a → Mt α2 hp2 a ∨ a = p := fun a h => by
    rcases (mt_push w3.len).mp h with h | ⟨_, h⟩
    · exact .inl h
    · rcases h with h | h
      · exact .inr h
      · cases h
  have st2 : Step (Al α2 hp2) (Al α2 hp2) H2 (Al (α3.push (p, [])) (hp2 ++ [.lst acc])) (Al (α3.push (p, [])) (hp2 ++ [.lst acc])) H2 := by
    have q : ∀ a, Al (α3.push (p, [])) (hp2 ++ [.lst acc]) a → Al α2 hp2 a := fun a h => by
      rcases h with h | h
      · rcases mt a h with h | h
        · exact .inl h
        · subst h; exact .inr hb
      · exact .inr (by rw [b.ban]; exact .inl h)
    exact ⟨fun _ _ h _ => h, fun a h => .inl (q a h), fun a h => .inl (q a h), fun _ h => h, fun _ o h => ⟨o, h⟩⟩
  have stW : StepW α1 hp1 H1 (α3.push (p, [])) (hp2 ++ [.lst acc]) H2 := ⟨b.step.keep, fun a h => by
    rcases h with h | h
    · rcases mt a h with h | h
      · exact b.step.newA a (.inl h)
      · subst h; exact .inr hn
    · exact .inl (.inr h), fun a h => by
    rcases mt a h with h | h
    · exact b.step.newM a h
    · subst h; exact .inr hn, al_sub, b.step.stay⟩
  have hl := w3.len
  have cut : ∀ (n : Nat) (u : O) (q : Addr × List Addr), (hp2 ++ [O.lst acc])[n]? = some u → (α2.own ++ [(p, [])])[n]? = some q → (hp2[n]? = some u ∧ α2.own[n]? = some q) ∨ (n = hp2.length ∧ u = .lst acc ∧ q = (p, [])) := fun n u q h1 h2 => by
    by_cases hx : n < hp2.length
    · rw [List.getElem?_append_left hx] at h1
      rw [List.getElem?_append_left (by have : α2.own.length = hp2.length := hl; omega)] at h2
      exact .inl ⟨h1, h2⟩
    · have hy : n < (hp2 ++ [O.lst acc]).length := (List.getElem?_eq_some_iff.mp h1).1
      have en : n = hp2.length := by simp at hy; omega
      subst en
      rw [List.getElem?_append_right (Nat.le_refl _)] at h1
      rw [← (show α2.own.length = hp2.length from hl), List.getElem?_append_right (Nat.le_refl _)] at h2
      simp at h1 h2
      exact .inr ⟨rfl, h1.symm, h2.symm⟩
  have no : ∀ a, Mt α2 hp2 a → a ≠ p := fun a h z => (b.ok.ban p hb).2 (z ▸ h)
  refine ⟨α3.push (p, []), ⟨⟨?_, rfl⟩, stW, fun n q h z => ?_⟩, ⟨by show (α2.own ++ [(p, [])]).length = _; simp; exact hl, fun n u q h3 h4 => ?_, fun n u q h3 h4 hg => ?_, fun m n u u' q q' h3 h4 h5 h6 h7 h8 hne a ha hb' => ?_, fun a ha => ?_⟩, (p, []), ?_, rfl⟩
  · exact b.pre.appR
  · have z : (α2.own ++ [(p, [])])[n]? = some q := z
    by_cases hx : n < α2.own.length
    · rw [List.getElem?_append_left hx] at z
      exact b.nw n q h z
    · rw [List.getElem?_append_right (by omega)] at z
      cases y : n - α2.own.length with
      | zero => rw [y] at z; cases z; exact hn
      | succ k => rw [y] at z; cases z
  · rcases cut n u q h3 h4 with ⟨h3, h4⟩ | ⟨_, rfl, rfl⟩
    · exact (b.ok.obj n u q h3 h4).mono st2 fun _ _ _ => rfl
    · exact ⟨rfl, us, h1, RepL.mono st2 _ _ h2⟩
  · rcases cut n u q h3 h4 with ⟨h3, h4⟩ | ⟨_, rfl, rfl⟩
    · exact b.ok.one n u q h3 h4 hg
    · exact ⟨by simp, by simp⟩
  · rcases cut m u q h3 h4 with ⟨h3, h4⟩ | ⟨e1, z1, z2⟩
    · rcases cut n u' q' h6 h7 with ⟨h6, h7⟩ | ⟨e2, z3, z4⟩
      · exact b.ok.inj m n u u' q q' h3 h4 h5 h6 h7 h8 hne a ha hb'
      · rw [z4] at hb'
        rcases hb' with hb' | hb'
        · exact no a ⟨m, q, u, h4, h3, h5, ha⟩ hb'
        · cases hb'
    · rcases cut n u' q' h6 h7 with ⟨h6, h7⟩ | ⟨e2, z3, z4⟩
      · rw [z2] at ha
        rcases ha with ha | ha
        · exact no a ⟨n, q', u', h7, h6, h8, hb'⟩ ha
        · cases ha
      · exact hne (e1.trans e2.symm)
  · have ha : α1.ban a := ha
    obtain ⟨⟨o, ho⟩, hm⟩ := w1.ban a ha
    refine ⟨⟨o, b.step.keep a o ho hm⟩, fun z => ?_⟩
    rcases mt a z with z | z
    · exact (b.ok.ban a (by rw [b.ban]; exact .inl ha)).2 z
    · subst z
      rw [hn] at ho
      cases ho
  · show (α2.own ++ [(p, [])])[hp2.length]? = _
    rw [← (show α2.own.length = hp2.length from hl), List.getElem?_append_right (Nat.le_refl _)]
    simp

theorem Here.of {K : Frag} {α : Mp_} {hp : List O} {H : Hp} {env : List (Option S)} {σ : L2.St} (w : WOk K α hp H) (e : EnvR K α hp H env σ) : Here K ⟨α.own, H⟩ α ⟨hp, env, hp.length⟩ H σ :=
  ⟨Pre0.refl, trivial, w, e⟩
theorem SRep.monoA {K : Frag} {α β : Mp_} {hp hp1 : List O} {H H1 : Hp} (st : StepA α hp H β hp1 H1) (pre : OwnLe α.own β.own) : ∀ {s : S} {v : V}, SRep K α hp H s v → SRep K β hp1 H1 s v
  | .d x, v, h => Rep.mono st x v h
  | .mu n, v, ⟨p, h, q⟩ => by
    obtain ⟨p', h', e'⟩ := Pre.get (α := α) (β := { β with ban := α.ban }) ⟨pre, rfl⟩ h
    exact ⟨p', h', by rw [q, e']⟩
  | .ob n k, v, ⟨p, a, h, g, q⟩ => by
    obtain ⟨p', h', e1, e2⟩ := pre n p h
    exact ⟨p', a, h', adr_le e1 e2 g, q⟩
  | .exn a c d x, v, ⟨q, h⟩ => ⟨q, h.mono st⟩
theorem EnvR.monoA {K : Frag} {α β : Mp_} {hp hp1 : List O} {H H1 : Hp} (st : StepA α hp H β hp1 H1) (pre : OwnLe α.own β.own) {env : List (Option S)} {σ : L2.St} (h : EnvR K α hp H env σ) : EnvR K β hp1 H1 env σ :=
  ⟨h.1, fun i s hi => by obtain ⟨v, h1, h2⟩ := h.2 i s hi; exact ⟨v, h1, h2.monoA st pre⟩⟩
theorem Walks.at {K : Frag} {J : It} {α β : Mp_} {hp hp1 : List O} {H H1 : Hp} {v : Option Wk} {ds : List D} (wk : Walks K J α hp H v ds) (st : StepA α hp H β hp1 H1) (pre : OwnLe α.own β.own) (w : WOk K α hp H) (hv : sameAt v α α) : Walks K J β hp1 H1 v ds := by
  intro α' hp' H' st' sa w' stl
  exact wk α' hp' H' (st.trans st') ((own_same pre hv).trans sa) w' stl
/-- the loop of a comprehension, from a state where acc0 has been built; Fin: what is wanted at its end -/
theorem lc_loop {K : Frag} {W0 : WX} {g : TG} {tt : TT} {te : TE} {us vs : List Nat} {G : MG} {Mt : MT} {Me : ME} (hg : SimG K g us G) (hu : ∀ u ∈ us, u ∈ vs) (ht : SimT K W0 tt Mt) (he : SimE K W0 te Me)
    {α1 α0 : Mp_} {hp1 hp0 : List O} {H1 H0 : Hp} {env : List (Option S)} {σ : L2.St} {v : Option Wk} {ds acc0 : List D} {J : It} {p : Addr} {R : List D → List O → Prop} {Fin : Hp → Prop}
    (hn : H1 p = none) (b0 : Built K α1 hp1 H1 p α0 hp0 H0 acc0) (e0 : EnvR K α0 hp0 H0 env σ) (wk : Walks K J α0 hp0 H0 v ds) (stl : still v ds hp0) (hv : sameAt v α0 α0)
    (m : compL v ds G Mt Me (wipeE env vs) ds acc0 hp0 R) (fin : ∀ α2 hp2 H2 acc, R acc hp2 → Built K α1 hp1 H1 p α2 hp2 H2 acc → StepA α0 hp0 H0 α2 hp2 H2 → OwnLe α0.own α2.own → Fin H2) :
    ∃ W : Nat → Nat → Hp → Prop, (∃ m, W 0 m H0) ∧ ∀ i m H, W i m H → (J.stop i H ∧ Fin H) ∨ (J.go i H ∧ ∃ Nx : Hp → Prop, (∀ H', Nx H' → ∃ m', m' < m ∧ W (i + 1) m' H') ∧ ∀ x H', J.yld i H x H' → g x (wipe σ vs) H' fun σ2 H2 => wipe σ2 vs = wipe σ vs ∧ tt σ2 H2 fun b H3 =>
      if b = true then te σ2 H3 fun y H4 => ∃ acc, H4 p = some (.lst acc) ∧ acc.length < sizeLine ∧ Nx (upd H4 p (.lst (acc ++ [y]))) else Nx H3) := by
  let P : Nat → Hp → Prop := fun i H' => ∃ α' hp' acc, Built K α1 hp1 H1 p α' hp' H' acc ∧ StepA α0 hp0 H0 α' hp' H' ∧ OwnLe α0.own α'.own ∧ still v ds hp' ∧ compL v ds G Mt Me (wipeE env vs) (ds.drop i) acc hp' R
  refine ⟨fun i m H' => m = ds.length - i ∧ i ≤ ds.length ∧ P i H', ⟨ds.length, by simp, Nat.zero_le _, α0, hp0, acc0, b0, Step.refl fun _ h => h, OwnLe.refl _, stl, by rw [List.drop_zero]; exact m⟩, ?_⟩
  rintro i m H' ⟨rfl, hil, α', hp', acc, b, st, pre, stl', mm⟩
  obtain ⟨w2, w3⟩ := wk α' hp' H' st (own_same pre hv) b.ok stl'
  by_cases hlt : i < ds.length
  · obtain ⟨go, yl⟩ := w2 i ds[i] (List.getElem?_eq_getElem hlt)
    refine .inr ⟨go, P (i + 1), fun H2 q => ⟨ds.length - (i + 1), by omega, rfl, hlt, q⟩, fun x H2 y => ?_⟩
    obtain ⟨gr, rx⟩ := yl x H2 y
    obtain ⟨e2, wk2⟩ := b.ok.grown gr
    have b2 := b.go e2 wk2
    have st2 := st.trans e2.step.toA
    rw [List.drop_eq_getElem_cons hlt] at mm
    have env2 : EnvR K α' hp' H2 (wipeE env vs) (wipe σ vs) := EnvR.wipe (e0.monoA st2 pre) vs
    refine hg _ α' ⟨hp', wipeE env vs, hp'.length⟩ H2 _ (.d ds[i]) x (Here.of wk2 env2) rx _ mm _ fun s3 α3 H3 σ3 n3 i3 e3 fr => ?_
    have b3 := b2.go e3 i3.ok
    refine ⟨wipe_back (by rw [fr.1, wipe_length]) hu fr.2, ?_⟩
    refine ht α3 s3 H3 σ3 i3.ok i3.env _ _ n3 _ (fun c hp4 α4 H4 m4 e4 w4 => ?_) postX_no
    have b4 := b3.go e4 w4
    cases c with
    | false => exact ⟨α4, hp4, acc, b4, (st2.trans e3.step.toA).trans e4.step.toA, (pre.trans e3.pre.own).trans e4.pre.own, m4.1, m4.2⟩
    | true =>
      refine he α4 { s3 with hp := hp4 } H4 σ3 w4 (i3.env.mono e4) _ _ m4 _ (fun y5 hp5 α5 H5 u5 m5 e5 w5 r5 => ?_) postX_no
      have b5 := b4.go e5 w5
      obtain ⟨dy, hd, hz, stl5, m5⟩ := on.ex m5
      obtain ⟨ws, h1, h2, b6⟩ := b5.app hn (r5.isD hd)
      have hb : α5.ban p := by rw [b5.ban]; exact .inr rfl
      exact ⟨ws, h1, by rw [h2]; exact hz, α5, hp5, _, b6, (((st2.trans e3.step.toA).trans e4.step.toA).trans e5.step.toA).trans (stepBan hb), ((pre.trans e3.pre.own).trans e4.pre.own).trans e5.pre.own, stl5, m5⟩
  · have e : i = ds.length := by omega
    subst e
    rw [List.drop_length] at mm
    exact .inl ⟨w3, fin α' hp' H' acc mm b st pre⟩
/-- .. from its beginning -/
theorem built0 {K : Frag} {α1 : Mp_} {hp1 : List O} {H1 : Hp} {p : Addr} (w1 : WOk K α1 hp1 H1) (hn : H1 p = none) : Built K α1 hp1 H1 p { α1 with ban := fun a => α1.ban a ∨ a = p } hp1 (upd H1 p (.lst [])) [] := by
  obtain ⟨w2, st⟩ := w1.banned (o := .lst []) hn
  exact ⟨OwnLe.refl _, rfl, w2, st, fun n q h z => (at_none h z).elim, [], upd_same, .nil⟩
theorem lc_run {K : Frag} {W0 : WX} {g : TG} {tt : TT} {te : TE} {us vs : List Nat} {G : MG} {Mt : MT} {Me : ME} (hg : SimG K g us G) (hu : ∀ u ∈ us, u ∈ vs) (ht : SimT K W0 tt Mt) (he : SimE K W0 te Me)
    {α1 : Mp_} {hp1 : List O} {H1 : Hp} {env : List (Option S)} {σ : L2.St} {v : Option Wk} {ds : List D} {J : It} {p : Addr} {R : List D → List O → Prop} {Fin : Hp → Prop}
    (w1 : WOk K α1 hp1 H1) (e1 : EnvR K α1 hp1 H1 env σ) (wk : Walks K J α1 hp1 H1 v ds) (stl : still v ds hp1) (hv : sameAt v α1 α1) (hn : H1 p = none)
    (m : compL v ds G Mt Me (wipeE env vs) ds [] hp1 R) (fin : ∀ α2 hp2 H2 acc, R acc hp2 → Built K α1 hp1 H1 p α2 hp2 H2 acc → Fin H2) :
    ∃ W : Nat → Nat → Hp → Prop, (∃ m, W 0 m (upd H1 p (.lst []))) ∧ ∀ i m H, W i m H → (J.stop i H ∧ Fin H) ∨ (J.go i H ∧ ∃ Nx : Hp → Prop, (∀ H', Nx H' → ∃ m', m' < m ∧ W (i + 1) m' H') ∧ ∀ x H', J.yld i H x H' → g x (wipe σ vs) H' fun σ2 H2 => wipe σ2 vs = wipe σ vs ∧ tt σ2 H2 fun b H3 =>
      if b = true then te σ2 H3 fun y H4 => ∃ acc, H4 p = some (.lst acc) ∧ acc.length < sizeLine ∧ Nx (upd H4 p (.lst (acc ++ [y]))) else Nx H3) :=
  lc_loop hg hu ht he hn (built0 w1 hn) (e1.monoA (built0 w1 hn).step.toA (built0 w1 hn).pre) (wk.at (built0 w1 hn).step.toA (built0 w1 hn).pre w1 hv) stl (own_same (built0 w1 hn).pre hv).right m fun α2 hp2 H2 acc r b _ _ => fin α2 hp2 H2 acc r b
theorem sim_lc {K : Frag} {W W0 : WX} {wi : TI} {g : TG} {tt : TT} {te : TE} {us vs : List Nat} {I : MI} {G : MG} {Mt : MT} {Me : ME} (hi : SimI K W wi I) (hg : SimG K g us G) (hu : ∀ u ∈ us, u ∈ vs) (ht : SimT K W0 tt Mt) (he : SimE K W0 te Me) :
    SimE K W (tLc wi g tt te vs) (mLc I G Mt Me vs) := by
  intro α s H σ w e R Xp m Q q qx
  refine hi α s H σ w e _ _ m _ (fun v ds hp1 α1 H1 J m1 e1 w1 wk stl hv => fun p hn => ?_) qx
  refine lc_run hg hu ht he w1 (e.mono e1) wk stl hv hn m1 fun α2 hp2 H2 acc r b => ?_
  obtain ⟨α3, e3, w3, r3⟩ := b.fin w1 hn
  exact q _ _ _ _ _ r (e1.trans e3) w3 r3
theorem sim_lcM {K : Frag} {W W0 : WX} {wi : TI} {g : TG} {tt : TT} {te : TE} {us vs : List Nat} {I : MI} {G : MG} {Mt : MT} {Me : ME} (hi : SimI K W wi I) (hg : SimG K g us G) (hu : ∀ u ∈ us, u ∈ vs) (ht : SimT K W0 tt Mt) (he : SimE K W0 te Me) :
    SimE K W (tLc wi g tt te vs) (mLcM I G Mt Me vs) := by
  intro α s H σ w e R Xp m Q q qx
  refine hi α s H σ w e _ _ m _ (fun v ds hp1 α1 H1 J m1 e1 w1 wk stl hv => fun p hn => ?_) qx
  refine lc_run hg hu ht he w1 (e.mono e1) wk stl hv hn m1 fun α2 hp2 H2 acc r b => ?_
  obtain ⟨α3, e3, w3, r3⟩ := b.finM w1 hn
  exact q _ _ _ _ _ r (e1.trans e3) w3 r3

/-! two clauses, without tests -/
def compL2 (v : Option Wk) (all : List D) (G : MG) (I1 : MI) (G1 : MG) (Me : ME) (vs1 : List Nat) (env0 : List (Option S)) : List D → List D → List O → (List D → List O → Prop) → Prop
  | [], acc, hp, R => R acc hp
  | d :: ds, acc, hp, R => G (.d d) ⟨hp, env0, hp.length⟩ fun s1 => I1 s1 (fun v1 ds1 hp2 => compL v1 ds1 G1 (fun s R _ => R true s.hp) Me (wipeE s1.env vs1) ds1 acc hp2 fun acc2 hp3 => still v all hp3 ∧ compL2 v all G I1 G1 Me vs1 env0 ds acc2 hp3 R) noX
def mLc2 (I : MI) (G : MG) (I1 : MI) (G1 : MG) (Me : ME) (vs vs1 : List Nat) : ME := fun s R Xp => I s (fun v ds hp' => compL2 v ds G I1 G1 Me vs1 (wipeE s.env vs) ds [] hp' fun acc hp2 => R (.d (.lst acc)) hp2) Xp
def mLc2M (I : MI) (G : MG) (I1 : MI) (G1 : MG) (Me : ME) (vs vs1 : List Nat) : ME := fun s R Xp => I s (fun v ds hp' => compL2 v ds G I1 G1 Me vs1 (wipeE s.env vs) ds [] hp' fun acc hp2 => R (.mu hp2.length) (hp2 ++ [.lst acc])) Xp
theorem lc2_run {K : Frag} {W0 : WX} {g g1 : TG} {wi1 : TI} {te : TE} {us us1 vs vs1 : List Nat} {G G1 : MG} {I1 : MI} {Me : ME} (hg : SimG K g us G) (hu : ∀ u ∈ us, u ∈ vs) (hi1 : SimI K W0 wi1 I1) (hg1 : SimG K g1 us1 G1) (hu1 : ∀ u ∈ us1, u ∈ vs1) (he : SimE K W0 te Me)
    {α1 : Mp_} {hp1 : List O} {H1 : Hp} {env : List (Option S)} {σ : L2.St} {v : Option Wk} {ds : List D} {J : It} {p : Addr} {R : List D → List O → Prop} {Fin : Hp → Prop}
    (w1 : WOk K α1 hp1 H1) (e1 : EnvR K α1 hp1 H1 env σ) (wk : Walks K J α1 hp1 H1 v ds) (stl : still v ds hp1) (hv : sameAt v α1 α1) (hn : H1 p = none)
    (m : compL2 v ds G I1 G1 Me vs1 (wipeE env vs) ds [] hp1 R) (fin : ∀ α2 hp2 H2 acc, R acc hp2 → Built K α1 hp1 H1 p α2 hp2 H2 acc → Fin H2) :
    ∃ W : Nat → Nat → Hp → Prop, (∃ m, W 0 m (upd H1 p (.lst []))) ∧ ∀ i m H, W i m H → (J.stop i H ∧ Fin H) ∨ (J.go i H ∧ ∃ Nx : Hp → Prop, (∀ H', Nx H' → ∃ m', m' < m ∧ W (i + 1) m' H') ∧ ∀ x H', J.yld i H x H' → g x (wipe σ vs) H' fun σ2 H2 => wipe σ2 vs = wipe σ vs ∧ tYes σ2 H2 fun b H3 =>
      if b = true then wi1 σ2 H3 fun J1 H4 => ∃ W1 : Nat → Nat → Hp → Prop, (∃ m, W1 0 m H4) ∧ ∀ j k H, W1 j k H →
        (J1.stop j H ∧ Nx H) ∨ (J1.go j H ∧ ∃ Nx1 : Hp → Prop, (∀ H', Nx1 H' → ∃ k', k' < k ∧ W1 (j + 1) k' H') ∧ ∀ x H', J1.yld j H x H' → g1 x (wipe σ2 vs1) H' fun σ3 H5 => wipe σ3 vs1 = wipe σ2 vs1 ∧ tYes σ3 H5 fun b H6 =>
          if b = true then te σ3 H6 fun y H7 => ∃ acc, H7 p = some (.lst acc) ∧ acc.length < sizeLine ∧ Nx1 (upd H7 p (.lst (acc ++ [y]))) else Nx1 H6)
      else Nx H3) := by
  have b0 := built0 w1 hn
  let P : Nat → Hp → Prop := fun i H' => ∃ α' hp' acc, Built K α1 hp1 H1 p α' hp' H' acc ∧ still v ds hp' ∧ compL2 v ds G I1 G1 Me vs1 (wipeE env vs) (ds.drop i) acc hp' R
  refine ⟨fun i m H' => m = ds.length - i ∧ i ≤ ds.length ∧ P i H', ⟨ds.length, by simp, Nat.zero_le _, _, hp1, [], b0, stl, by rw [List.drop_zero]; exact m⟩, ?_⟩
  rintro i m H' ⟨rfl, hil, α', hp', acc, b, stl', mm⟩
  obtain ⟨w2, w3⟩ := wk α' hp' H' b.step.toA (own_same b.pre hv) b.ok stl'
  by_cases hlt : i < ds.length
  · obtain ⟨go, yl⟩ := w2 i ds[i] (List.getElem?_eq_getElem hlt)
    refine .inr ⟨go, P (i + 1), fun H2 q => ⟨ds.length - (i + 1), by omega, rfl, hlt, q⟩, fun x H2 y => ?_⟩
    obtain ⟨gr, rx⟩ := yl x H2 y
    obtain ⟨e2, wk2⟩ := b.ok.grown gr
    have b2 := b.go e2 wk2
    rw [List.drop_eq_getElem_cons hlt] at mm
    have env2 : EnvR K α' hp' H2 (wipeE env vs) (wipe σ vs) := EnvR.wipe (e1.monoA b2.step.toA b2.pre) vs
    refine hg _ α' ⟨hp', wipeE env vs, hp'.length⟩ H2 _ (.d ds[i]) x (Here.of wk2 env2) rx _ mm _ fun s3 α3 H3 σ3 n3 i3 e3 fr => ?_
    have b3 := b2.go e3 i3.ok
    refine ⟨wipe_back (by rw [fr.1, wipe_length]) hu fr.2, ?_⟩
    show wi1 σ3 H3 _
    refine hi1 α3 s3 H3 σ3 i3.ok i3.env _ _ n3 _ (fun v1 ds1 hp4 α4 H4 J1 m4 e4 w4 wk4 stl4 hv4 => ?_) postX_no
    have b4 := b3.go e4 w4
    exact lc_loop (Fin := P (i + 1)) hg1 hu1 (W0 := W0) (Mt := fun s R _ => R true s.hp) (tt := tYes) (fun α s H σ w e R Xp m Q q _ => q _ _ α H m Ext.refl w) he hn b4 (i3.env.mono e4) wk4 stl4 hv4 m4
      fun α5 hp5 H5 acc5 r5 b5 _ _ => ⟨α5, hp5, acc5, b5, r5.1, r5.2⟩
  · have e : i = ds.length := by omega
    subst e
    rw [List.drop_length] at mm
    exact .inl ⟨w3, fin α' hp' H' acc mm b⟩
theorem sim_lc2 {K : Frag} {W W0 : WX} {wi wi1 : TI} {g g1 : TG} {te : TE} {us us1 vs vs1 : List Nat} {I I1 : MI} {G G1 : MG} {Me : ME} (hi : SimI K W wi I) (hg : SimG K g us G) (hu : ∀ u ∈ us, u ∈ vs) (hi1 : SimI K W0 wi1 I1) (hg1 : SimG K g1 us1 G1) (hu1 : ∀ u ∈ us1, u ∈ vs1) (he : SimE K W0 te Me) :
    SimE K W (tLc2 wi g tYes wi1 g1 tYes te vs vs1) (mLc2 I G I1 G1 Me vs vs1) := by
  intro α s H σ w e R Xp m Q q qx
  refine hi α s H σ w e _ _ m _ (fun v ds hp1 α1 H1 J m1 e1 w1 wk stl hv => fun p hn => ?_) qx
  refine lc2_run hg hu hi1 hg1 hu1 he w1 (e.mono e1) wk stl hv hn m1 fun α2 hp2 H2 acc r b => ?_
  obtain ⟨α3, e3, w3, r3⟩ := b.fin w1 hn
  exact q _ _ _ _ _ r (e1.trans e3) w3 r3
theorem sim_lc2M {K : Frag} {W W0 : WX} {wi wi1 : TI} {g g1 : TG} {te : TE} {us us1 vs vs1 : List Nat} {I I1 : MI} {G G1 : MG} {Me : ME} (hi : SimI K W wi I) (hg : SimG K g us G) (hu : ∀ u ∈ us, u ∈ vs) (hi1 : SimI K W0 wi1 I1) (hg1 : SimG K g1 us1 G1) (hu1 : ∀ u ∈ us1, u ∈ vs1) (he : SimE K W0 te Me) :
    SimE K W (tLc2 wi g tYes wi1 g1 tYes te vs vs1) (mLc2M I G I1 G1 Me vs vs1) := by
  intro α s H σ w e R Xp m Q q qx
  refine hi α s H σ w e _ _ m _ (fun v ds hp1 α1 H1 J m1 e1 w1 wk stl hv => fun p hn => ?_) qx
  refine lc2_run hg hu hi1 hg1 hu1 he w1 (e.mono e1) wk stl hv hn m1 fun α2 hp2 H2 acc r b => ?_
  obtain ⟨α3, e3, w3, r3⟩ := b.finM w1 hn
  exact q _ _ _ _ _ r (e1.trans e3) w3 r3
end Mp

set_option Elab.async false
set_option linter.all false
set_option maxRecDepth 100000
set_option maxHeartbeats 4000000
/-! Mp6: lists and dicts that change, slices, calls, defs. -/
namespace Mp
open PySem PySem.Spec PyProof.Rows L2

/-! ### an object changes in its place -/
theorem set_get {τ : Type} {l : List τ} {n m : Nat} {x y : τ} (h : (l.set n x)[m]? = some y) : (n = m ∧ x = y) ∨ (n ≠ m ∧ l[m]? = some y) := by
  by_cases e : n = m
  · subst e
    have hn : n < l.length := by have := (List.getElem?_eq_some_iff.mp h).1; rwa [List.length_set] at this
    rw [List.getElem?_set_self hn] at h
    exact .inl ⟨rfl, Option.some.inj h⟩
  · rw [List.getElem?_set_ne e] at h
    exact .inr ⟨e, h⟩
theorem WOk.put {K : Frag} {α : Mp_} {hp : List O} {H : Hp} {n : Nat} {o o' : O} {p : Addr × List Addr} {x : HO} (w : WOk K α hp H) (h : hp[n]? = some o) (hg : o ≠ .gone) (ha : α.own[n]? = some p) (hg' : o' ≠ .gone)
    (ho : StepW α hp H α (hp.set n o') (upd H p.1 x) → OR K (Al α (hp.set n o')) (upd H p.1 x) p o') : WOk K α (hp.set n o') (upd H p.1 x) ∧ Ext α hp H α (hp.set n o') (upd H p.1 x) := by
  have hn : n < hp.length := (List.getElem?_eq_some_iff.mp h).1
  have mt : ∀ a, Mt α (hp.set n o') a → Mt α hp a := fun a ⟨m, q, u, h1, h2, h3, h4⟩ => by
    rcases set_get h2 with ⟨e, _⟩ | ⟨_, h2⟩
    · subst e
      exact ⟨n, q, o, h1, h, hg, h4⟩
    · exact ⟨m, q, u, h1, h2, h3, h4⟩
  have al : ∀ a, Al α (hp.set n o') a → Al α hp a := fun a z => z.imp (mt a) id
  have hp1 : Mt α hp p.1 := ⟨n, p, o, ha, h, hg, .inl rfl⟩
  have st : StepW α hp H α (hp.set n o') (upd H p.1 x) := ⟨fun a u e z => by
    have : a ≠ p.1 := fun y => by subst y; exact z hp1
    rw [upd_ne this]; exact e, fun a z => .inl (al a z), fun a z => .inl (mt a z), al_sub, stay_upd⟩
  refine ⟨⟨by rw [List.length_set]; exact w.len, fun m u q h1 h2 => ?_, fun m u q h1 h2 hz => ?_, fun m k u u' q q' h1 h2 h3 h4 h5 h6 hne a hx hy => ?_, fun a hb => ?_⟩, ⟨Pre.refl _, st, fun _ _ h e => (at_none h e).elim⟩⟩
  · rcases set_get h1 with ⟨e, e'⟩ | ⟨e, h1⟩
    · subst e e'
      rw [ha] at h2
      cases h2
      exact ho st
    · refine (w.obj m u q h1 h2).mono st fun hz b hb => ?_
      rw [upd_ne fun y => ?_]
      subst y
      exact w.inj n m o u p q h ha hg h1 h2 hz e _ (.inl rfl) hb
  · rcases set_get h1 with ⟨e, e'⟩ | ⟨e, h1⟩
    · subst e
      exact w.one n o q h h2 hg
    · exact w.one m u q h1 h2 hz
  · have f : ∀ {m : Nat} {u : O}, (hp.set n o')[m]? = some u → u ≠ .gone → ∃ u', hp[m]? = some u' ∧ u' ≠ .gone := fun {m u} h1 hz => by
      rcases set_get h1 with ⟨e, e'⟩ | ⟨e, h1⟩
      · subst e; exact ⟨o, h, hg⟩
      · exact ⟨u, h1, hz⟩
    obtain ⟨v, g1, g2⟩ := f h1 h3
    obtain ⟨v', g3, g4⟩ := f h4 h6
    exact w.inj m k v v' q q' g1 h2 g2 g3 h5 g4 hne a hx hy
  · obtain ⟨⟨y, hy⟩, hm⟩ := w.ban a hb
    obtain ⟨z, hz⟩ := st.stay a y hy
    exact ⟨⟨z, hz⟩, fun z => hm (mt a z)⟩
/-- an own list gets other items -/
theorem WOk.putLst {K : Frag} {α : Mp_} {hp : List O} {H : Hp} {n : Nat} {ds ds' : List D} {p : Addr × List Addr} {us' : List V} (w : WOk K α hp H) (h : hp[n]? = some (.lst ds)) (ha : α.own[n]? = some p) (r : RepL K (Al α hp) H ds' us') :
    WOk K α (hp.set n (.lst ds')) (upd H p.1 (.lst us')) ∧ Ext α hp H α (hp.set n (.lst ds')) (upd H p.1 (.lst us')) :=
  w.put h (fun z => by cases z) ha (fun z => by cases z) fun st => ⟨(w.obj n _ p h ha).1, us', upd_same, RepL.mono st _ _ r⟩
def lstAt (hp : List O) (n : Nat) : Option (List D) := match hp[n]? with
  | some (.lst ds) => some ds
  | _ => none
theorem lstAt_some {hp : List O} {n : Nat} {ds : List D} (h : hp[n]? = some (.lst ds)) : lstAt hp n = some ds := by unfold lstAt; rw [h]
theorem lstAt_get {hp : List O} {n : Nat} {ds : List D} (h : lstAt hp n = some ds) : hp[n]? = some (.lst ds) := by
  unfold lstAt at h
  split at h
  · rename_i q; cases h; exact q
  · cases h
def dctAt (hp : List O) (n : Nat) : Option (List (Key × D)) := match hp[n]? with
  | some (.dct ds) => some ds
  | _ => none
theorem dctAt_get {hp : List O} {n : Nat} {ds : List (Key × D)} (h : dctAt hp n = some ds) : hp[n]? = some (.dct ds) := by
  unfold dctAt at h
  split at h
  · rename_i q; cases h; exact q
  · cases h
def asMu : S → Option Nat
  | .mu n => some n
  | _ => none
@[simp] theorem asMu_mu {n : Nat} : asMu (.mu n) = some n := rfl
theorem SRep.asMu {K : Frag} {α : Mp_} {hp : List O} {H : Hp} {s : S} {v : V} {n : Nat} (h : SRep K α hp H s v) (e : Mp.asMu s = some n) : ∃ p, α.own[n]? = some p ∧ v = .ref p.1 := by
  cases s with
  | d _ => cases e
  | mu m => cases e; exact h
  | ob _ _ => cases e
  | exn _ _ _ _ => cases e

theorem tyV_list {K : Frag} {H : Hp} {a : Addr} {us : List V} (h : H a = some (.lst us)) : tyV K "list" (.ref a) H := .inl ⟨rfl, _, .inl (.inl h)⟩
theorem WOk.lstOf {K : Frag} {α : Mp_} {hp : List O} {H : Hp} {n : Nat} {ds : List D} {p : Addr × List Addr} (w : WOk K α hp H) (h : lstAt hp n = some ds) (ha : α.own[n]? = some p) : ∃ us, H p.1 = some (.lst us) ∧ RepL K (Al α hp) H ds us := (w.obj n _ p (lstAt_get h) ha).2
/-! ### methods of a list that changes it: f tells the answer and the new items from the arguments (x: they may be lists that change; else data alone) -/
abbrev FM := List D → List D → (D → List D → Prop) → Prop
def args (x : Bool) (hp : List O) (vs : List S) : Option (List D) := if x then vals hp vs else allD vs
def SimM (K : Frag) (x : Bool) (r : V → List V → Hp → VK → Prop) (f : FM) : Prop := ∀ (A : Av) (H : Hp) (a : Addr) (ds es : List D) (us vs : List V), H a = some (.lst us) → RepL K A H ds us → (if x then RepTL K A H es vs else RepL K A H es vs) → ∀ P, f ds es P → ∀ Q : VK,
  (∀ d ds' v us', P d ds' → (∀ A' H', (∀ e u, Rep K A H e u → Rep K A' H' e u) → Rep K A' H' d v) → RepL K A H ds' us' → Q v (upd H a (.lst us'))) → r (.ref a) vs H Q
def mMeth (x : Bool) (f : FM) (Mo : ME) (Ma : MA) : ME := fun s R Xp => Mo s (fun o hp1 => on (asMu o) fun n => on (lstAt hp1 n) fun _ => Ma { s with hp := hp1 } (fun vs hp2 => on (lstAt hp2 n) fun ds => on (args x hp2 vs) fun es => f ds es fun d ds' => R (.d d) (hp2.set n (.lst ds'))) Xp) Xp
theorem SRepL.args {K : Frag} {α : Mp_} {hp : List O} {H : Hp} (w : WOk K α hp H) {x : Bool} {vs : List S} {us : List V} {es : List D} (r : SRepL K α hp H vs us) (h : args x hp vs = some es) : if x then RepTL K (Al α hp) H es us else RepL K (Al α hp) H es us := by
  cases x with
  | true => exact r.vals w h
  | false => exact r.allD h
theorem sim_meth {K : Frag} {W : WX} {x : Bool} {r : V → List V → Hp → VK → Prop} {f : FM} {to : TE} {t : TA} {Mo : ME} {Ma : MA} (hr : SimM K x r f) (ho : SimE K W to Mo) (ha : SimA K W t Ma) : SimE K W (tBM K "list" r to t) (mMeth x f Mo Ma) := by
  intro α s H σ w e R Xp m Q q qx
  refine ho α s H σ w e _ _ m _ (fun o hp1 α1 H1 u m1 e1 w1 r1 => ?_) qx
  obtain ⟨n, g1, m1⟩ := on.ex m1
  obtain ⟨ds0, g2, m1⟩ := on.ex m1
  obtain ⟨p, h1, h2⟩ := r1.asMu g1
  obtain ⟨us0, h3, _⟩ := w1.lstOf g2 h1
  subst h2
  refine ⟨tyV_list h3, ha α1 { s with hp := hp1 } H1 σ w1 (e.mono e1) _ _ m1 _ (fun vs hp2 α2 H2 ws m2 e2 w2 r2 => ?_) (qx.at e1)⟩
  obtain ⟨ds, g3, m2⟩ := on.ex m2
  obtain ⟨es, g4, m2⟩ := on.ex m2
  obtain ⟨p2, h4, h5⟩ := e2.pre.get h1
  obtain ⟨us, h6, h7⟩ := w2.lstOf g3 h4
  rw [← h5]
  refine hr _ H2 p2.1 ds es us ws h6 h7 (r2.args w2 g4) _ m2 Q fun d ds' v us' pp rd rl => ?_
  obtain ⟨w3, e3⟩ := w2.putLst (lstAt_get g3) h4 rl
  exact q _ _ α2 _ v pp ((e1.trans e2).trans e3) w3 (rd _ _ fun _ _ h => Rep.mono e3.step _ _ h)
theorem sim_meth0 {K : Frag} {W : WX} {r : V → List V → Hp → VK → Prop} {f : FM} {to : TE} {Mo : ME} (hr : SimM K false r f) (ho : SimE K W to Mo) : SimE K W (tBM0 K "list" r to) (mMeth false f Mo mNil) := by
  intro α s H σ w e R Xp m Q q qx
  refine ho α s H σ w e _ _ m _ (fun o hp1 α1 H1 u m1 e1 w1 r1 => ?_) qx
  obtain ⟨n, g1, m1⟩ := on.ex m1
  obtain ⟨ds, g2, m1⟩ := on.ex m1
  obtain ⟨p, h1, h2⟩ := r1.asMu g1
  obtain ⟨us, h3, h7⟩ := w1.lstOf g2 h1
  subst h2
  refine ⟨tyV_list h3, ?_⟩
  obtain ⟨ds', g3, m1⟩ := on.ex (show on (lstAt hp1 n) _ from m1)
  cases g2.symm.trans g3
  obtain ⟨es, g4, m1⟩ := on.ex m1
  cases g4
  refine hr _ H1 p.1 ds [] us [] h3 h7 rfl _ m1 Q fun d ds' v us' pp rd rl => ?_
  obtain ⟨w3, e3⟩ := w1.putLst (lstAt_get g2) h1 rl
  exact q _ _ α1 _ v pp (e1.trans e3) w3 (rd _ _ fun _ _ h => Rep.mono e3.step _ _ h)
def fAppend : FM := fun ds es P => one es fun e => ds.length < sizeLine ∧ P .non (ds ++ [e])
theorem sim_append {K : Frag} : SimM K false rAppend fAppend := by
  intro A H a ds es us vs h r re P p Q q
  match es, vs, re, p with
  | [e], _, ⟨v, t, ev, h1, h2⟩, p =>
    cases h2
    subst ev
    exact ⟨a, us, v, rfl, rfl, h, by rw [← r.length]; exact p.1, q .non _ .non _ p.2 (fun _ _ _ => rfl) (r.append (.cons h1 .nil))⟩
def fExtend : FM := fun ds es P => one es fun e => on (match e with | .lst zs => some zs | _ => none) fun zs => ds.length + zs.length ≤ sizeLine ∧ P .non (ds ++ zs)
theorem sim_extend {K : Frag} : SimM K true rExtend fExtend := by
  intro A H a ds es us vs h r re P p Q q
  obtain ⟨d, v, rfl, r1, p⟩ := p.ex re
  obtain ⟨zs, g, p1, p2⟩ := on.ex p
  cases d with
  | lst ys =>
    cases g
    obtain ⟨b, ws, rfl, h1, h2⟩ := r1
    exact ⟨a, b, us, ws, rfl, rfl, h, h1, by rw [← r.length, ← h2.length]; exact p1, q .non _ .non _ p2 (fun _ _ _ => rfl) (r.append h2)⟩
  | _ => cases g
def fPop : FM := fun ds es P => match es with
  | [] => on (ds[ds.length - 1]?) fun y => P y ds.dropLast
  | _ => False
theorem sim_pop {K : Frag} : SimM K false rPop fPop := by
  intro A H a ds es us vs h r re P p Q q
  match es, vs, re, p with
  | [], _, re, p =>
    cases re
    obtain ⟨y, g, p⟩ := on.ex p
    obtain ⟨v, h1, h2⟩ := r.get g
    rw [r.length] at h1
    exact ⟨a, us, v, rfl, rfl, h, h1, q y _ v _ p (fun _ _ k => k _ _ h2) r.dropLast⟩
def fPopAt : FM := fun ds es P => one es fun e => on (asI e) fun i => -(2 ^ 63) ≤ i ∧ i < 2 ^ 63 ∧ on (seqIndex? i ds.length) fun k => on (ds[k]?) fun y => P y (ds.eraseIdx k)
theorem sim_popAt {K : Frag} : SimM K false rPopAt fPopAt := by
  intro A H a ds es us vs h r re P p Q q
  match es, vs, re, p with
  | [e], _, ⟨v, t, ev, h1, h2⟩, p =>
    cases h2
    subst ev
    obtain ⟨i, g1, b1, b2, p⟩ := on.ex (show on (asI e) _ from p)
    obtain ⟨k, g2, p⟩ := on.ex p
    obtain ⟨y, g3, p⟩ := on.ex p
    obtain ⟨u, h3, h4⟩ := r.get g3
    cases h1.t.asI g1
    exact ⟨a, us, i, k, u, rfl, rfl, h, b1, b2, by rw [← r.length]; exact g2, h3, q y _ u _ p (fun _ _ k => k _ _ h4) (r.eraseIdx k)⟩
def fReverse : FM := fun ds es P => match es with
  | [] => P .non ds.reverse
  | _ => False
theorem sim_reverse {K : Frag} : SimM K false rReverse fReverse := by
  intro A H a ds es us vs h r re P p Q q
  match es, vs, re, p with
  | [], _, re, p => cases re; exact ⟨a, us, rfl, rfl, h, q .non _ .non _ p (fun _ _ _ => rfl) r.reverse⟩
def fClear : FM := fun ds es P => match es with
  | [] => P .non []
  | _ => False
theorem sim_clear {K : Frag} : SimM K false rClear fClear := by
  intro A H a ds es us vs h r re P p Q q
  match es, vs, re, p with
  | [], _, re, p => cases re; exact ⟨a, us, rfl, rfl, h, q .non _ .non _ p (fun _ _ _ => rfl) .nil⟩

/-! ### xs[i] = e -/
def mgSub (Mo Mi : ME) : MG := fun v s N => Mo s (fun o hp1 => Mi { s with hp := hp1 } (fun i hp2 => on (asMu o) fun n => on (lstAt hp2 n) fun ds => on (isD i) fun di => on (asI di) fun k => on (ixN ds.length k) fun j => on (isD v) fun d => N { s with hp := hp2.set n (.lst (ds.set j d)) }) noX) noX
theorem simg_sub {K : Frag} {W : WX} {to ti : TE} {Mo Mi : ME} (ho : SimE K W to Mo) (hi : SimE K W ti Mi) : SimG K (gSub to ti rSetL) [] (mgSub Mo Mi) := by
  intro ρ α s H σ v u h rv N m Q q
  refine ho α s H σ h.ok h.env _ _ m _ (fun o hp1 α1 H1 uo m1 e1 w1 r1 => ?_) postX_no
  refine hi α1 { s with hp := hp1 } H1 σ w1 (h.env.mono e1) _ _ m1 _ (fun i hp2 α2 H2 ui m2 e2 w2 r2 => ?_) postX_no
  obtain ⟨n, g1, m2⟩ := on.ex m2
  obtain ⟨ds, g2, m2⟩ := on.ex m2
  obtain ⟨di, g3, m2⟩ := on.ex m2
  obtain ⟨k, g4, m2⟩ := on.ex m2
  obtain ⟨j, g5, m2⟩ := on.ex m2
  obtain ⟨d, g6, m2⟩ := on.ex m2
  obtain ⟨p, h1, h2⟩ := (r1.mono e2).asMu g1
  obtain ⟨us, h3, h4⟩ := w2.lstOf g2 h1
  subst h2
  have rd := (rv.mono (e1.trans e2)).isD g6
  obtain ⟨w3, e3⟩ := w2.putLst (lstAt_get g2) h1 (h4.set j rd)
  refine ⟨p.1, us, k, j, rfl, (r2.isD g3).t.asI g4, h3, by rw [← h4.length]; exact g5, ?_⟩
  exact q _ α2 _ σ m2 (h.ext ((e1.trans e2).trans e3) w3) ((e1.trans e2).trans e3) ⟨rfl, fun _ _ => rfl⟩
/-! ### a, b = e -/
def mgsNil : List D → PS → (PS → Prop) → Prop := fun ds s N => match ds with
  | [] => N s
  | _ => False
def mgsCons (G : MG) (Gs : List D → PS → (PS → Prop) → Prop) : List D → PS → (PS → Prop) → Prop := fun ds s N => match ds with
  | d :: r => G (.d d) s fun s1 => Gs r s1 N
  | _ => False
def SimGs (K : Frag) (g : TGs) (us : List Nat) (M : List D → PS → (PS → Prop) → Prop) : Prop := ∀ (ρ : En) (α : Mp_) (s : PS) (H : Hp) (σ : L2.St) (ds : List D) (vs : List V), Here K ρ α s H σ → RepL K (Al α s.hp) H ds vs → ∀ N, M ds s N → ∀ Q : L2.St → Hp → Prop,
  (∀ s' α' H' σ', N s' → Here K ρ α' s' H' σ' → Ext α s.hp H α' s'.hp H' → (σ'.length = σ.length ∧ ∀ i, i ∉ us → σ'[i]? = σ[i]?) → Q σ' H') → g vs σ H Q
theorem simgs_nil {K : Frag} : SimGs K gNil [] mgsNil := by
  intro ρ α s H σ ds vs h r N m Q q
  match ds, vs, r, m with
  | [], _, r, m => cases r; exact ⟨rfl, q s α H σ m h Ext.refl ⟨rfl, fun _ _ => rfl⟩⟩
theorem simgs_cons {K : Frag} {g : TG} {gs : TGs} {us ws : List Nat} {G : MG} {Gs : List D → PS → (PS → Prop) → Prop} (h1 : SimG K g us G) (h2 : SimGs K gs ws Gs) : SimGs K (gCons g gs) (us ++ ws) (mgsCons G Gs) := by
  intro ρ α s H σ ds vs h r N m Q q
  match ds, vs, r, m with
  | d :: ds, _, ⟨v, t, e, r1, r2⟩, m =>
    subst e
    refine ⟨v, t, rfl, h1 ρ α s H σ (.d d) v h r1 _ m _ fun s1 α1 H1 σ1 n1 i1 e1 f1 => ?_⟩
    refine h2 ρ α1 s1 H1 σ1 ds t i1 (RepL.mono e1.step _ _ r2) _ n1 _ fun s2 α2 H2 σ2 n2 i2 e2 f2 => ?_
    refine q s2 α2 H2 σ2 n2 i2 (e1.trans e2) ⟨f2.1.trans f1.1, fun i hi => ?_⟩
    rw [List.mem_append, not_or] at hi
    exact (f2.2 i hi.2).trans (f1.2 i hi.1)
def mgTup (n : Nat) (Gs : List D → PS → (PS → Prop) → Prop) : MG := fun v s N => on (isD v) fun d => on (asTup d) fun ds => ds.length = n ∧ Gs ds s N
theorem simg_tup {K : Frag} {n : Nat} {gs : TGs} {us : List Nat} {Gs : List D → PS → (PS → Prop) → Prop} (h : SimGs K gs us Gs) : SimG K (gTup K n gs) us (mgTup n Gs) := by
  intro ρ α s H σ v u hh r N m Q q
  obtain ⟨d, g1, m⟩ := on.ex m
  obtain ⟨ds, g2, m1, m2⟩ := on.ex m
  have rd := r.isD g1
  cases d with
  | tup ds' =>
    cases g2
    obtain ⟨a, vs, e, h1, h2⟩ := tup_sq rd
    exact ⟨a, vs, e, h1, by rw [← h2.length]; exact m1, h ρ α s H σ ds vs hh h2 N m2 Q q⟩
  | _ => cases g2
end Mp

set_option Elab.async false
set_option linter.all false
set_option maxRecDepth 100000
set_option maxHeartbeats 4000000
/-! Mp7: dicts, slices, calls, defs. -/
namespace Mp
open PySem PySem.Spec PyProof.Rows L2

/-! ### dicts -/
def keyD : D → Option Key
  | .int i => some (.inl i)
  | .str x => some (.inr x)
  | _ => none
@[simp] theorem keyD_int {i : Int} : keyD (.int i) = some (.inl i) := rfl
@[simp] theorem keyD_str {i : Str} : keyD (.str i) = some (.inr i) := rfl
theorem Rep.key {K : Frag} {A : Av} {H : Hp} {d : D} {v : V} {k : Key} (h : Rep K A H d v) (e : keyD d = some k) : v = kV k := by
  cases d with
  | int i => cases e; exact h
  | str i => cases e; exact h
  | _ => cases e
def getK (l : List (Key × D)) (k : Key) : Option D := (l.find? fun kv => decide (kv.1 = k)).map (·.2)
def setK (l : List (Key × D)) (k : Key) (d : D) : List (Key × D) :=
  if (l.any fun kv => decide (kv.1 = k)) = true then l.map (fun kv => if kv.1 = k then (kv.1, d) else kv) else l ++ [(k, d)]
section
variable {K : Frag} {A : Av} {H : Hp}
theorem RepK.get : ∀ {l : List (Key × D)} {ws : List (Key × V)} {k : Key} {d : D}, RepK K A H l ws → getK l k = some d → ∃ v, valV ws k = some v ∧ Rep K A H d v
  | [], _, k, d, _, e => by cases e
  | (j, x) :: r, _, k, d, ⟨v, t, e, h, q⟩, g => by
    subst e
    unfold getK valV at *
    rw [List.find?_cons] at g ⊢
    by_cases hj : j = k
    · simp only [hj, decide_true, Option.map_some] at g ⊢
      cases g
      exact ⟨v, rfl, h⟩
    · simp only [hj, decide_false] at g ⊢
      exact RepK.get q g
theorem RepK.none : ∀ {l : List (Key × D)} {ws : List (Key × V)} {k : Key}, RepK K A H l ws → getK l k = none → valV ws k = none
  | [], _, k, h, _ => by cases h; rfl
  | (j, x) :: r, _, k, ⟨v, t, e, h, q⟩, g => by
    subst e
    unfold getK valV at *
    rw [List.find?_cons] at g ⊢
    by_cases hj : j = k
    · simp only [hj, decide_true, Option.map_some] at g
      cases g
    · simp only [hj, decide_false] at g ⊢
      exact RepK.none q g
theorem RepK.any (k : Key) : ∀ {l : List (Key × D)} {ws : List (Key × V)}, RepK K A H l ws → (ws.any fun kv => decide (kv.1 = k)) = l.any fun kv => decide (kv.1 = k)
  | [], _, h => by cases h; rfl
  | (j, x) :: r, _, ⟨v, t, e, h, q⟩ => by subst e; rw [List.any_cons, List.any_cons, RepK.any k q]
theorem RepK.len : ∀ {l : List (Key × D)} {ws : List (Key × V)}, RepK K A H l ws → l.length = ws.length
  | [], _, h => by cases h; rfl
  | (j, x) :: r, _, ⟨v, t, e, h, q⟩ => by subst e; exact congrArg Nat.succ (RepK.len q)
theorem RepK.app : ∀ {l m : List (Key × D)} {ws us : List (Key × V)}, RepK K A H l ws → RepK K A H m us → RepK K A H (l ++ m) (ws ++ us)
  | [], _, _, _, h, g => by cases h; exact g
  | (j, x) :: r, _, _, _, ⟨v, t, e, h, q⟩, g => by subst e; exact ⟨v, t ++ _, rfl, h, RepK.app q g⟩
theorem RepK.repl (k : Key) {d : D} {u : V} (hd : Rep K A H d u) : ∀ {l : List (Key × D)} {ws : List (Key × V)}, RepK K A H l ws → RepK K A H (l.map fun kv => if kv.1 = k then (kv.1, d) else kv) (ws.map fun kv => if kv.1 = k then (kv.1, u) else kv)
  | [], _, h => by cases h; rfl
  | (j, x) :: r, _, ⟨v, t, e, h, q⟩ => by
    subst e
    rw [List.map_cons, List.map_cons]
    by_cases hj : j = k
    · simp only [hj, if_true]; exact ⟨u, _, rfl, hd, RepK.repl k hd q⟩
    · simp only [hj, if_false]; exact ⟨v, _, rfl, h, RepK.repl k hd q⟩
theorem RepK.set {l : List (Key × D)} {ws : List (Key × V)} (k : Key) {d : D} {u : V} (hd : Rep K A H d u) (h : RepK K A H l ws) : RepK K A H (setK l k d) (putK ws k u) := by
  unfold setK putK
  rw [h.any k]
  split
  · exact h.repl k hd
  · exact h.app ⟨u, [], rfl, hd, rfl⟩
end
theorem WOk.dctOf {K : Frag} {α : Mp_} {hp : List O} {H : Hp} {n : Nat} {ds : List (Key × D)} {p : Addr × List Addr} (w : WOk K α hp H) (h : dctAt hp n = some ds) (ha : α.own[n]? = some p) : ∃ us, H p.1 = some (.dK us) ∧ RepK K (Al α hp) H ds us := (w.obj n _ p (dctAt_get h) ha).2
def mDGet (Md Mk : ME) : ME := fun s R Xp => Md s (fun o hp1 => Mk { s with hp := hp1 } (fun y hp2 => on (asMu o) fun n => on (dctAt hp2 n) fun l => on (isD y) fun dy => on (keyD dy) fun k => on (getK l k) fun d => R (.d d) hp2) Xp) Xp
theorem sim_dget {K : Frag} {W : WX} {td ty : TE} {Md Mk : ME} (hd : SimE K W td Md) (hk : SimE K W ty Mk) : SimE K W (tDGet td ty) (mDGet Md Mk) := by
  intro α s H σ w e R Xp m Q q qx
  refine hd α s H σ w e _ _ m _ (fun o hp1 α1 H1 u m1 e1 w1 r1 => ?_) qx
  refine hk α1 { s with hp := hp1 } H1 σ w1 (e.mono e1) _ _ m1 _ (fun y hp2 α2 H2 uy m2 e2 w2 r2 => ?_) (qx.at e1)
  obtain ⟨n, g1, m2⟩ := on.ex m2
  obtain ⟨l, g2, m2⟩ := on.ex m2
  obtain ⟨dy, g3, m2⟩ := on.ex m2
  obtain ⟨k, g4, m2⟩ := on.ex m2
  obtain ⟨d, g5, m2⟩ := on.ex m2
  obtain ⟨p, h1, h2⟩ := (r1.mono e2).asMu g1
  obtain ⟨us, h3, h4⟩ := w2.dctOf g2 h1
  obtain ⟨v, h5, h6⟩ := h4.get g5
  subst h2
  refine ⟨p.1, v, rfl, ?_, q _ _ α2 H2 v m2 (e1.trans e2) w2 h6⟩
  rw [(r2.isD g3).key g4, ← h5]
  exact DGet.k h3
def mDIn (neg : Bool) (Mk Md : ME) : ME := fun s R Xp => Mk s (fun y hp1 => Md { s with hp := hp1 } (fun o hp2 => on (asMu o) fun n => on (dctAt hp2 n) fun l => on (isD y) fun dy => on (keyD dy) fun k => R (.d (.bl (if neg then !(getK l k).isSome else (getK l k).isSome))) hp2) Xp) Xp
theorem RepK.isSome {K : Frag} {A : Av} {H : Hp} {l : List (Key × D)} {ws : List (Key × V)} {k : Key} (h : RepK K A H l ws) : (valV ws k).isSome = (getK l k).isSome := by
  cases e : getK l k with
  | none => rw [h.none e]; rfl
  | some d => obtain ⟨v, h1, _⟩ := h.get e; rw [h1]; rfl
theorem sim_din {K : Frag} {W : WX} {td ty : TE} {Md Mk : ME} (hk : SimE K W ty Mk) (hd : SimE K W td Md) : SimE K W (tDIn ty td) (mDIn false Mk Md) := by
  intro α s H σ w e R Xp m Q q qx
  refine hk α s H σ w e _ _ m _ (fun y hp1 α1 H1 u m1 e1 w1 r1 => ?_) qx
  refine hd α1 { s with hp := hp1 } H1 σ w1 (e.mono e1) _ _ m1 _ (fun o hp2 α2 H2 uy m2 e2 w2 r2 => ?_) (qx.at e1)
  obtain ⟨n, g1, m2⟩ := on.ex m2
  obtain ⟨l, g2, m2⟩ := on.ex m2
  obtain ⟨dy, g3, m2⟩ := on.ex m2
  obtain ⟨k, g4, m2⟩ := on.ex m2
  obtain ⟨p, h1, h2⟩ := r2.asMu g1
  obtain ⟨us, h3, h4⟩ := w2.dctOf g2 h1
  subst h2
  refine ⟨p.1, valV us k, rfl, ?_, ?_⟩
  · rw [((r1.mono e2).isD g3).key g4]; exact DGet.k h3
  · rw [h4.isSome]; exact q _ _ α2 H2 _ m2 (e1.trans e2) w2 rfl
theorem sim_dnotin {K : Frag} {W : WX} {td ty : TE} {Md Mk : ME} (hk : SimE K W ty Mk) (hd : SimE K W td Md) : SimE K W (tDNotIn ty td) (mDIn true Mk Md) := by
  intro α s H σ w e R Xp m Q q qx
  refine hk α s H σ w e _ _ m _ (fun y hp1 α1 H1 u m1 e1 w1 r1 => ?_) qx
  refine hd α1 { s with hp := hp1 } H1 σ w1 (e.mono e1) _ _ m1 _ (fun o hp2 α2 H2 uy m2 e2 w2 r2 => ?_) (qx.at e1)
  obtain ⟨n, g1, m2⟩ := on.ex m2
  obtain ⟨l, g2, m2⟩ := on.ex m2
  obtain ⟨dy, g3, m2⟩ := on.ex m2
  obtain ⟨k, g4, m2⟩ := on.ex m2
  obtain ⟨p, h1, h2⟩ := r2.asMu g1
  obtain ⟨us, h3, h4⟩ := w2.dctOf g2 h1
  subst h2
  refine ⟨p.1, valV us k, rfl, ?_, ?_⟩
  · rw [((r1.mono e2).isD g3).key g4]; exact DGet.k h3
  · rw [h4.isSome]; exact q _ _ α2 H2 _ m2 (e1.trans e2) w2 rfl
/-- d[k] = e -/
def mDPut (Md Mk Me : ME) : MS := fun s k => Me s (fun v hp1 => Md { s with hp := hp1 } (fun o hp2 => Mk { s with hp := hp2 } (fun y hp3 => on (asMu o) fun n => on (dctAt hp3 n) fun l => on (isD y) fun dy => on (keyD dy) fun key => on (isD v) fun d => l.length < sizeLine ∧
  k.nx { s with hp := hp3.set n (.dct (setK l key d)) }) k.ex) k.ex) k.ex
theorem sim_dput {K : Frag} {W : WX} {td ty tv : TE} {Md Mk Me : ME} (hd : SimE K W td Md) (hk : SimE K W ty Mk) (he : SimE K W tv Me) : SimS K W (sDPut td ty tv) (mDPut Md Mk Me) := by
  intro ρ α s H σ h k m D p
  have px := p.postX (σ := σ) h.pre
  refine he α s H σ h.ok h.env _ _ m _ (fun v hp1 α1 H1 u m1 e1 w1 r1 => ?_) px
  refine hd α1 { s with hp := hp1 } H1 σ w1 (h.env.mono e1) _ _ m1 _ (fun o hp2 α2 H2 uo m2 e2 w2 r2 => ?_) (px.at e1)
  refine hk α2 { s with hp := hp2 } H2 σ w2 ((h.env.mono e1).mono e2) _ _ m2 _ (fun y hp3 α3 H3 uy m3 e3 w3 r3 => ?_) ((px.at e1).at e2)
  obtain ⟨n, g1, m3⟩ := on.ex m3
  obtain ⟨l, g2, m3⟩ := on.ex m3
  obtain ⟨dy, g3, m3⟩ := on.ex m3
  obtain ⟨key, g4, m3⟩ := on.ex m3
  obtain ⟨d, g5, hz, m3⟩ := on.ex m3
  obtain ⟨q, h1, h2⟩ := (r2.mono e3).asMu g1
  obtain ⟨us, h3, h4⟩ := w3.dctOf g2 h1
  subst h2
  have rd := ((r1.mono e2).mono e3).isD g5
  obtain ⟨w4, e4⟩ := w3.put (x := .dK (putK us key u)) (o' := .dct (setK l key d)) (dctAt_get g2) (fun z => by cases z) h1 (fun z => by cases z) fun st => ⟨(w3.obj n _ q (dctAt_get g2) h1).1, _, upd_same, (h4.set key rd).mono st⟩
  have eT := ((e1.trans e2).trans e3).trans e4
  refine ⟨q.1, upd H3 q.1 (.dK (putK us key u)), rfl, ?_, p.nx _ α3 _ σ m3 (h.ext eT w4) eT.step eT.pre.ban⟩
  rw [(r3.isD g3).key g4]
  exact DPut.k h3 (by rw [← h4.len]; exact hz)
/-- {k: v, ..}: a dict that will change; the values are data -/
def mPairs : List (ME × ME) → PS → (List (S × S) → List O → Prop) → MX → Prop
  | [], s, R, _ => R [] s.hp
  | (Mk, Mv) :: r, s, R, Xp => Mk s (fun k hp1 => Mv { s with hp := hp1 } (fun v hp2 => mPairs r { s with hp := hp2 } (fun ps hp3 => R ((k, v) :: ps) hp3) Xp) Xp) Xp
def keysD : List (S × S) → Option (List (Key × D))
  | [] => some []
  | (k, v) :: r => (isD k).bind fun dk => (keyD dk).bind fun key => (isD v).bind fun d => (keysD r).bind fun l => some ((key, d) :: l)
inductive SimPs (K : Frag) (W : WX) : List (TE × TE) → List (ME × ME) → Prop where
  | nil : SimPs K W [] []
  | cons {tk tv : TE} {Mk Mv : ME} {r : List (TE × TE)} {m : List (ME × ME)} (h1 : SimE K W tk Mk) (h2 : SimE K W tv Mv) (h3 : SimPs K W r m) : SimPs K W ((tk, tv) :: r) ((Mk, Mv) :: m)
theorem sim_pairs {K : Frag} {W : WX} : ∀ {tr : List (TE × TE)} {mr : List (ME × ME)}, SimPs K W tr mr → ∀ (α : Mp_) (s : PS) (H : Hp) (σ : L2.St), WOk K α s.hp H → EnvR K α s.hp H s.env σ → ∀ R Xp, mPairs mr s R Xp → ∀ Q : List (V × V) → Hp → Prop,
    (∀ ps hp' α' H' vs, R ps hp' → Ext α s.hp H α' hp' H' → WOk K α' hp' H' → Paired (fun (x : S × S) (y : V × V) => SRep K α' hp' H' x.1 y.1 ∧ SRep K α' hp' H' x.2 y.2) ps vs → Q vs H') → PostX K W σ α s.hp H Xp → tPairs tr σ H Q
  | _, _, .nil, α, s, H, σ, w, e, R, Xp, m, Q, q, _ => q [] s.hp α H [] m Ext.refl w .nil
  | _, _, .cons h1 h2 h3, α, s, H, σ, w, e, R, Xp, m, Q, q, qx => by
    refine h1 α s H σ w e _ _ m _ (fun k hp1 α1 H1 u m1 e1 w1 r1 => ?_) qx
    refine h2 α1 { s with hp := hp1 } H1 σ w1 (e.mono e1) _ _ m1 _ (fun v hp2 α2 H2 u2 m2 e2 w2 r2 => ?_) (qx.at e1)
    refine sim_pairs h3 α2 { s with hp := hp2 } H2 σ w2 ((e.mono e1).mono e2) _ _ m2 _ (fun ps hp3 α3 H3 vs m3 e3 w3 r3 => ?_) ((qx.at e1).at e2)
    exact q _ _ α3 H3 _ m3 ((e1.trans e2).trans e3) w3 (.cons ⟨(r1.mono e2).mono e3, r2.mono e3⟩ r3)
theorem keysD_ok {K : Frag} {α : Mp_} {hp : List O} {H : Hp} : ∀ {ps : List (S × S)} {vs : List (V × V)} {l : List (Key × D)}, Paired (fun (x : S × S) (y : V × V) => SRep K α hp H x.1 y.1 ∧ SRep K α hp H x.2 y.2) ps vs → keysD ps = some l →
    ∃ kvs : List (Key × V), vs = kvs.map (fun kv => (kV kv.1, kv.2)) ∧ RepK K (Al α hp) H l kvs
  | [], _, l, r, e => by cases r; cases e; exact ⟨[], rfl, rfl⟩
  | (k, v) :: r, _, l, rr, e => by
    cases rr with
    | @cons a b as bs h t =>
      obtain ⟨u1, u2⟩ := b
      unfold keysD at e
      cases g1 : isD k with
      | none => rw [g1] at e; cases e
      | some dk =>
        cases g2 : keyD dk with
        | none => rw [g1] at e; simp [g2] at e
        | some key =>
          cases g3 : isD v with
          | none => rw [g1] at e; simp [g2, g3] at e
          | some d =>
            cases g4 : keysD r with
            | none => rw [g1] at e; simp [g2, g3, g4] at e
            | some l' =>
              rw [g1] at e
              simp [g2, g3, g4] at e
              subst e
              obtain ⟨kvs, e1, r1⟩ := keysD_ok t g4
              refine ⟨(key, u2) :: kvs, ?_, u2, kvs, rfl, h.2.isD g3, r1⟩
              rw [e1, List.map_cons]
              have : u1 = kV key := (h.1.isD g1).key g2
              rw [this]
def mergeD (l more : List (Key × D)) : List (Key × D) := more.foldl (fun acc kv => setK acc kv.1 kv.2) l
theorem RepK.merge {K : Frag} {A : Av} {H : Hp} : ∀ {more : List (Key × D)} {ms : List (Key × V)} {l : List (Key × D)} {ws : List (Key × V)}, RepK K A H more ms → RepK K A H l ws → RepK K A H (mergeD l more) (mergeK ws ms)
  | [], _, l, ws, h, g => by cases h; exact g
  | (k, d) :: r, _, l, ws, ⟨v, t, e, h, q⟩, g => by subst e; exact RepK.merge (more := r) (ms := t) q (g.set k h)

/-- the banned thing at p becomes an object of one's own -/
theorem ban_push {K : Frag} {α1 α2 : Mp_} {hp1 hp2 : List O} {H1 H2 : Hp} {p : Addr} {o : O} (w1 : WOk K α1 hp1 H1) (hn : H1 p = none) (bpre : OwnLe α1.own α2.own) (bban : α2.ban = fun a => α1.ban a ∨ a = p) (bok : WOk K α2 hp2 H2)
    (bst : StepW α1 hp1 H1 α2 hp2 H2) (bnw : ∀ (n : Nat) (q : Addr × List Addr), α1.own.length ≤ n → α2.own[n]? = some q → H1 q.1 = none)
    (ho : ∀ A' : Av, Step (Al α2 hp2) (Al α2 hp2) H2 A' A' H2 → OR K A' H2 (p, []) o) :
    ∃ α3, Ext α1 hp1 H1 α3 (hp2 ++ [o]) H2 ∧ WOk K α3 (hp2 ++ [o]) H2 ∧ SRep K α3 (hp2 ++ [o]) H2 (.mu hp2.length) (.ref p) := by
  have hb : α2.ban p := by rw [bban]; exact .inr rfl
  obtain ⟨w3, st⟩ := bok.unban (b := α1.ban) (fun a h => by rw [bban]; exact .inl h)
  let α3 : Mp_ := { α2 with ban := α1.ban }
  have mt : ∀ a, Mt (α3.push (p, [])) (hp2 ++ [o]) a → Mt α2 hp2 a ∨ a = p := fun a h => by
    rcases (mt_push w3.len).mp h with h | ⟨_, h⟩
    · exact .inl h
    · rcases h with h | h
      · exact .inr h
      · cases h
  have st2 : Step (Al α2 hp2) (Al α2 hp2) H2 (Al (α3.push (p, [])) (hp2 ++ [o])) (Al (α3.push (p, [])) (hp2 ++ [o])) H2 := by
    have q : ∀ a, Al (α3.push (p, [])) (hp2 ++ [o]) a → Al α2 hp2 a := fun a h => by
      rcases h with h | h
      · rcases mt a h with h | h
        · exact .inl h
        · subst h; exact .inr hb
      · exact .inr (by rw [bban]; exact .inl h)
    exact ⟨fun _ _ h _ => h, fun a h => .inl (q a h), fun a h => .inl (q a h), fun _ h => h, fun _ o h => ⟨o, h⟩⟩
  have stW : StepW α1 hp1 H1 (α3.push (p, [])) (hp2 ++ [o]) H2 := ⟨bst.keep, fun a h => by
    rcases h with h | h
    · rcases mt a h with h | h
      · exact bst.newA a (.inl h)
      · subst h; exact .inr hn
    · exact .inl (.inr h), fun a h => by
    rcases mt a h with h | h
    · exact bst.newM a h
    · subst h; exact .inr hn, al_sub, bst.stay⟩
  have hl := w3.len
  have cut : ∀ (n : Nat) (u : O) (q : Addr × List Addr), (hp2 ++ [o])[n]? = some u → (α2.own ++ [(p, [])])[n]? = some q → (hp2[n]? = some u ∧ α2.own[n]? = some q) ∨ (n = hp2.length ∧ u = o ∧ q = (p, [])) := fun n u q h1 h2 => by
    by_cases hx : n < hp2.length
    · rw [List.getElem?_append_left hx] at h1
      rw [List.getElem?_append_left (by have : α2.own.length = hp2.length := hl; omega)] at h2
      exact .inl ⟨h1, h2⟩
    · have hy : n < (hp2 ++ [o]).length := (List.getElem?_eq_some_iff.mp h1).1
      have en : n = hp2.length := by simp at hy; omega
      subst en
      rw [List.getElem?_append_right (Nat.le_refl _)] at h1
      rw [← (show α2.own.length = hp2.length from hl), List.getElem?_append_right (Nat.le_refl _)] at h2
      simp at h1 h2
      exact .inr ⟨rfl, h1.symm, h2.symm⟩
  have no : ∀ a, Mt α2 hp2 a → a ≠ p := fun a h z => (bok.ban p hb).2 (z ▸ h)
  refine ⟨α3.push (p, []), ⟨⟨?_, rfl⟩, stW, fun n q h z => ?_⟩, ⟨by show (α2.own ++ [(p, [])]).length = _; simp; exact hl, fun n u q h3 h4 => ?_, fun n u q h3 h4 hg => ?_, fun m n u u' q q' h3 h4 h5 h6 h7 h8 hne a ha hb' => ?_, fun a ha => ?_⟩, (p, []), ?_, rfl⟩
  · exact bpre.appR
  · have z : (α2.own ++ [(p, [])])[n]? = some q := z
    by_cases hx : n < α2.own.length
    · rw [List.getElem?_append_left hx] at z
      exact bnw n q h z
    · rw [List.getElem?_append_right (by omega)] at z
      cases y : n - α2.own.length with
      | zero => rw [y] at z; cases z; exact hn
      | succ k => rw [y] at z; cases z
  · rcases cut n u q h3 h4 with ⟨h3, h4⟩ | ⟨_, rfl, rfl⟩
    · exact (bok.obj n u q h3 h4).mono st2 fun _ _ _ => rfl
    · exact ho _ st2
  · rcases cut n u q h3 h4 with ⟨h3, h4⟩ | ⟨_, rfl, rfl⟩
    · exact bok.one n u q h3 h4 hg
    · exact ⟨by simp, by simp⟩
  · rcases cut m u q h3 h4 with ⟨h3, h4⟩ | ⟨e1, z1, z2⟩
    · rcases cut n u' q' h6 h7 with ⟨h6, h7⟩ | ⟨e2, z3, z4⟩
      · exact bok.inj m n u u' q q' h3 h4 h5 h6 h7 h8 hne a ha hb'
      · rw [z4] at hb'
        rcases hb' with hb' | hb'
        · exact no a ⟨m, q, u, h4, h3, h5, ha⟩ hb'
        · cases hb'
    · rcases cut n u' q' h6 h7 with ⟨h6, h7⟩ | ⟨e2, z3, z4⟩
      · rw [z2] at ha
        rcases ha with ha | ha
        · exact no a ⟨n, q', u', h7, h6, h8, hb'⟩ ha
        · cases ha
      · exact hne (e1.trans e2.symm)
  · have ha : α1.ban a := ha
    obtain ⟨⟨y, hy⟩, hm⟩ := w1.ban a ha
    refine ⟨⟨y, bst.keep a y hy hm⟩, fun z => ?_⟩
    rcases mt a z with z | z
    · exact (bok.ban a (by rw [bban]; exact .inl ha)).2 z
    · subst z
      rw [hn] at hy
      cases hy
  · show (α2.own ++ [(p, [])])[hp2.length]? = _
    rw [← (show α2.own.length = hp2.length from hl), List.getElem?_append_right (Nat.le_refl _)]
    simp
def mDisp (mr : List (ME × ME)) : ME := fun s R Xp => mPairs mr s (fun ps hp1 => on (keysD ps) fun l => l.length ≤ 15 ∧ R (.mu hp1.length) (hp1 ++ [.dct (mergeD [] l)])) Xp
theorem nw_back {α : Mp_} {hp hp1 : List O} {H H0 : Hp} {α0 β : Mp_} {H1 : Hp} (hl : α0.own = α.own) (st : ∀ a o, H0 a = some o → ∃ u, H a = some u) (e : Ext α hp H β hp1 H1) : ∀ (n : Nat) (q : Addr × List Addr), α0.own.length ≤ n → β.own[n]? = some q → H0 q.1 = none := fun n q h z =>
  none_back st (e.nw n q (by rw [← hl]; exact h) z)
theorem sim_disp {K : Frag} {W : WX} {tr : List (TE × TE)} {mr : List (ME × ME)} (h : SimPs K W tr mr) : SimE K W (tDisp tr) (mDisp mr) := by
  intro α s H σ w e R Xp m Q q qx
  intro p hn
  obtain ⟨wb, stb⟩ := w.banned (o := .dK []) hn
  have eb : EnvR K { α with ban := fun a => α.ban a ∨ a = p } s.hp (upd H p (.dK [])) s.env σ := ⟨e.1, fun i x hx => by
    obtain ⟨v, h1, h2⟩ := e.2 i x hx
    refine ⟨v, h1, ?_⟩
    cases x with
    | d d => exact Rep.mono stb d v h2
    | mu n => exact h2
    | ob _ _ => exact h2
    | exn a c d x => exact ⟨h2.1, h2.2.mono stb⟩⟩
  refine sim_pairs h { α with ban := fun a => α.ban a ∨ a = p } s _ σ wb eb _ _ m _ (fun ps hp1 α1 H1 vs m1 e1 w1 r1 => ?_) ?_
  · obtain ⟨l, g1, hz, m1⟩ := on.ex m1
    obtain ⟨kvs, ev, rk⟩ := keysD_ok r1 g1
    have hb1 : α1.ban p := by rw [e1.pre.ban]; exact .inr rfl
    have hp1' : H1 p = some (.dK []) := e1.step.keep p _ upd_same (wb.ban p (.inr rfl)).2
    refine ⟨hp1', kvs, ev, by rw [← rk.len]; exact hz, ?_⟩
    have bst : StepW α s.hp H α1 hp1 (upd H1 p (.dK (mergeK [] kvs))) := by
      have st0 := stb.trans e1.step
      refine ⟨fun a u ea na => ?_, st0.newA, st0.newM, st0.sub, fun a u ea => ?_⟩
      · have z : a ≠ p := fun z => by subst z; rw [hn] at ea; cases ea
        rw [upd_ne z]; exact st0.keep a u ea na
      · obtain ⟨u', hu⟩ := st0.stay a u ea
        exact stay_upd a u' hu
    obtain ⟨α3, e3, w3, r3⟩ := ban_push (o := .dct (mergeD [] l)) w hn e1.pre.own e1.pre.ban (w1.setBan hb1) bst (fun n q h z => none_back stb.stay (e1.nw n q h z))
      fun A' st => ⟨rfl, _, upd_same, (RepK.merge (RepK.mono (stepBan hb1) rk) (show RepK K (Al α1 hp1) _ [] [] from rfl)).mono st⟩
    exact q _ _ α3 _ _ m1 e3 w3 r3
  · intro x hp' α' H' c dd z e1 w1 r1
    obtain ⟨w2, st2⟩ := w1.unban (b := α.ban) (fun a h => by rw [e1.pre.ban]; exact .inl h)
    refine qx x hp' { α' with ban := α.ban } H' c dd z ⟨⟨e1.pre.own, rfl⟩, (stb.trans e1.step).trans st2, fun n q h z => none_back stb.stay (e1.nw n q h z)⟩ w2 ?_
    exact r1.mono st2

/-! ### slices -/
def cutD (xs : List D) (lo hi : Option Int) : List D := (xs.drop (HT.sIx xs.length 0 lo)).take (HT.sIx xs.length xs.length hi - HT.sIx xs.length 0 lo)
theorem RepL.cut {K : Frag} {A : Av} {H : Hp} {ds : List D} {vs : List V} (r : RepL K A H ds vs) (lo hi : Option Int) : RepL K A H (cutD ds lo hi) (cutV vs lo hi) := by
  unfold cutD cutV
  rw [r.length]
  exact (r.drop _).take _
abbrev MO := PS → (Option Int → List O → Prop) → MX → Prop
def SimO (K : Frag) (W : WX) (t : TO) (M : MO) : Prop := ∀ (α : Mp_) (s : PS) (H : Hp) (σ : L2.St), WOk K α s.hp H → EnvR K α s.hp H s.env σ → ∀ R Xp, M s R Xp → ∀ Q : Option Int → Hp → Prop,
  (∀ o hp' α' H', R o hp' → Ext α s.hp H α' hp' H' → WOk K α' hp' H' → Q o H') → PostX K W σ α s.hp H Xp → t σ H Q
def moNone : MO := fun s R _ => R none s.hp
def moSome (Ma : ME) : MO := fun s R Xp => Ma s (fun v hp1 => on (isD v) fun d => on (asI d) fun i => R (some i) hp1) Xp
theorem simo_none {K : Frag} {W : WX} : SimO K W tNoPart moNone := fun α s H σ w e R Xp m Q q _ => q _ _ α H m Ext.refl w
theorem simo_some {K : Frag} {W : WX} {t : TE} {Ma : ME} (ha : SimE K W t Ma) : SimO K W (tPart t) (moSome Ma) := by
  intro α s H σ w e R Xp m Q q qx
  refine ha α s H σ w e _ _ m _ (fun x hp1 α1 H1 v1 m1 e1 w1 r1 => ?_) qx
  obtain ⟨d, g1, m1⟩ := on.ex m1
  obtain ⟨i, g2, m1⟩ := on.ex m1
  exact ⟨i, (r1.isD g1).t.asI g2, q _ _ α1 H1 m1 e1 w1⟩
/-- of a list: a new one; of a tuple; of a text -/
def fSl (d : D) (lo hi : Option Int) (P : D → Prop) : Prop := match d with
  | .lst ds => P (.lst (cutD ds lo hi))
  | .fl ds => P (.lst (cutD ds lo hi))
  | .tup ds => P (.tup (cutD ds lo hi))
  | _ => False
@[simp] theorem fSl_lst {ds : List D} {lo hi : Option Int} {P : D → Prop} : fSl (.lst ds) lo hi P = P (.lst (cutD ds lo hi)) := rfl
@[simp] theorem fSl_tup {ds : List D} {lo hi : Option Int} {P : D → Prop} : fSl (.tup ds) lo hi P = P (.tup (cutD ds lo hi)) := rfl
def rSlX (K : Frag) : V → Option Int → Option Int → Hp → VK → Prop := fun x lo hi H Q => rSlL K x lo hi H Q ∨ rSlA K x lo hi H Q
theorem sl_x {X : Cx} : SlR X (rSlX X.K) := SlR.or sl_list sl_tupA
theorem cutD_whole {ds : List D} {lo hi : Option Int} (h : HT.sIx ds.length 0 lo = 0 ∧ HT.sIx ds.length ds.length hi = ds.length) : cutD ds lo hi = ds := by
  unfold cutD
  rw [h.1, h.2]
  simp
theorem sim_fSl {K : Frag} (A : Av) (H : Hp) (d : D) (v : V) (hA : ∀ a, H a = none → ¬ A a) (r : RepT K A H d v) (lo hi : Option Int) (P : D → Prop) (p : fSl d lo hi P) (Q : VK)
    (q : ∀ d v H', P d → Rep K A H' d v → (H' = H ∨ ∃ p o, H p = none ∧ H' = upd H p o) → Q v H') : rSlX K v lo hi H Q := by
  cases d with
  | lst ds =>
    obtain ⟨a, vs, rfl, h, k⟩ := r
    exact .inl ⟨a, vs, rfl, .inl (.inl h), fun l hl => q _ _ _ p (new_lst hA hl (k.cut lo hi)) (.inr ⟨l, _, hl, rfl⟩)⟩
  | fl ds =>
    obtain ⟨a, vs, e, h, k⟩ := fl_sq (r : Rep K A H (.fl ds) v)
    exact .inl ⟨a, vs, e, h, fun l hl => q _ _ _ p (new_lst hA hl (k.cut lo hi)) (.inr ⟨l, _, hl, rfl⟩)⟩
  | tup ds =>
    obtain ⟨a, vs, e, h, k⟩ := tup_sq (r : Rep K A H (.tup ds) v)
    refine .inr ⟨a, vs, e, h, fun hw => ?_, fun _ l hl => q _ _ _ p (new_tup hA hl (k.cut lo hi)) (.inr ⟨l, _, hl, rfl⟩)⟩
    rw [← k.length] at hw
    refine q _ _ _ p ?_ (.inl rfl)
    rw [cutD_whole hw, ← e]
    exact r
  | _ => exact p.elim
def mSl (Ma : ME) (Ml Mh : MO) : ME := fun s R Xp => Ma s (fun x hp1 => Ml { s with hp := hp1 } (fun lo hp2 => Mh { s with hp := hp2 } (fun hi hp3 => on (val hp3 x) fun d => fSl d lo hi fun d' => R (.d d') hp3) Xp) Xp) Xp
theorem sim_sl {K : Frag} {W : WX} {t : TE} {tl th : TO} {Ma : ME} {Ml Mh : MO} (ha : SimE K W t Ma) (hl : SimO K W tl Ml) (hh : SimO K W th Mh) : SimE K W (tSl (rSlX K) t tl th) (mSl Ma Ml Mh) := by
  intro α s H σ w e R Xp m Q q qx
  refine ha α s H σ w e _ _ m _ (fun x hp1 α1 H1 v1 m1 e1 w1 r1 => ?_) qx
  refine hl α1 { s with hp := hp1 } H1 σ w1 (e.mono e1) _ _ m1 _ (fun lo hp2 α2 H2 m2 e2 w2 => ?_) (qx.at e1)
  refine hh α2 { s with hp := hp2 } H2 σ w2 ((e.mono e1).mono e2) _ _ m2 _ (fun hi hp3 α3 H3 m3 e3 w3 => ?_) ((qx.at e1).at e2)
  obtain ⟨d, g1, m3⟩ := on.ex m3
  refine sim_fSl _ H3 d v1 w3.non (((r1.mono e2).mono e3).val w3 g1) lo hi _ m3 Q fun d' v' H' p rp st => ?_
  obtain ⟨e4, w4⟩ := w3.grown st
  exact q _ _ α3 _ _ p (((e1.trans e2).trans e3).trans e4) w4 rp
end Mp

set_option Elab.async false
set_option linter.all false
set_option maxRecDepth 100000
set_option maxHeartbeats 4000000
/-! Mp8: calls, defs. -/
namespace Mp
open PySem PySem.Spec PyProof.Rows L2

abbrev MF := List O → List S → (S → List O → Prop) → MX → Prop
/-- a result that nothing else leans on -/
def Frs (K : Frag) (H : Hp) (α' : Mp_) (hp' : List O) (H' : Hp) (s : S) (v : V) : Prop := ∀ ds, s = .d (.lst ds) → ∃ a us, v = .ref a ∧ H a = none ∧ H' a = some (.lst us) ∧ WOk K { α' with ban := fun b => α'.ban b ∨ b = a } hp' H' ∧ RepL K (Al { α' with ban := fun b => α'.ban b ∨ b = a } hp') H' ds us
/-- THE PROMISE of a def by what it does to data and objects; fr: its lists are new -/
def spM (K : Frag) (n : Nat) (fr : Bool) (M : MF) : Sp := fun vs H Q E => vs.length = n ∧ ∃ α hp ss R Xp, WOk K α hp H ∧ SRepL K α hp H ss vs ∧ M hp ss R Xp ∧
  (∀ s hp' α' H' v, R s hp' → Ext α hp H α' hp' H' → WOk K α' hp' H' → SRep K α' hp' H' s v → (fr = true → Frs K H α' hp' H' s v) → Q v H') ∧
  (∀ x hp' α' H' c dd, Xp x hp' → Ext α hp H α' hp' H' → WOk K α' hp' H' → XRep K (Al α' hp') H' x c dd → E c dd H')
theorem spM_len {K : Frag} {n : Nat} {fr : Bool} {M : MF} : ∀ vs H Q E, spM K n fr M vs H Q E → vs.length = n := fun _ _ _ _ h => h.1
/-! ### calls -/
def mCall (n : Nat) (M : MF) (dd : List D) (Ma : MA) : ME := fun s R Xp => Ma s (fun ss hp1 => ss.length + dd.length = n ∧ M hp1 (ss ++ dd.map S.d) R Xp) Xp
/-- .. whose new list will be changed -/
def mCallM (n : Nat) (M : MF) (dd : List D) (Ma : MA) : ME := fun s R Xp => Ma s (fun ss hp1 => ss.length + dd.length = n ∧ M hp1 (ss ++ dd.map S.d) (fun v hp2 => match v with
  | .d (.lst ds) => R (.mu hp2.length) (hp2 ++ [.lst ds])
  | _ => False) Xp) Xp
theorem srepL_app {K : Frag} {α : Mp_} {hp : List O} {H : Hp} {dd : List D} {dvs : List V} (hd : RepL K (Al α hp) H dd dvs) : ∀ {ss : List S} {vs : List V}, SRepL K α hp H ss vs → SRepL K α hp H (ss ++ dd.map S.d) (vs ++ dvs)
  | _, _, .nil => by
    induction dd generalizing dvs with
    | nil => cases hd; exact .nil
    | cons d dd ih => obtain ⟨v, r, e, h, t⟩ := hd; subst e; exact .cons h (ih t)
  | _, _, .cons h t => .cons h (srepL_app hd t)
theorem sim_call {K : Frag} {W : WX} {n : Nat} {fr : Bool} {M : MF} {dvs : List V} {dd : List D} {t : TA} {Ma : MA} (hd : ∀ A H, RepL K A H dd dvs) (ha : SimA K W t Ma) : SimE K W (tCallSD (spM K n fr M) dvs (WE W) t) (mCall n M dd Ma) := by
  intro α s H σ w e R Xp m Q q qx
  refine ha α s H σ w e _ _ m _ (fun ss hp1 α1 H1 vs m1 e1 w1 r1 => ?_) qx
  have hl : vs.length = ss.length := r1.length.symm
  refine ⟨by rw [List.length_append, hl, ← (hd noA H).length]; exact m1.1, α1, hp1, _, R, Xp, w1, srepL_app (hd _ _) r1, m1.2, fun s' hp' α' H' v r e' w' sr _ => q s' hp' α' H' v r (e1.trans e') w' sr, fun x hp' α' H' c d' r e' w' xr => qx x hp' α' H' c d' r (e1.trans e') w' xr⟩
theorem sim_callM {K : Frag} {W : WX} {n : Nat} {M : MF} {dvs : List V} {dd : List D} {t : TA} {Ma : MA} (hd : ∀ A H, RepL K A H dd dvs) (ha : SimA K W t Ma) : SimE K W (tCallSD (spM K n true M) dvs (WE W) t) (mCallM n M dd Ma) := by
  intro α s H σ w e R Xp m Q q qx
  refine ha α s H σ w e _ _ m _ (fun ss hp1 α1 H1 vs m1 e1 w1 r1 => ?_) qx
  have hl : vs.length = ss.length := r1.length.symm
  refine ⟨by rw [List.length_append, hl, ← (hd noA H).length]; exact m1.1, α1, hp1, _, _, Xp, w1, srepL_app (hd _ _) r1, m1.2, fun s' hp' α' H' v r e' w' sr fs => ?_, fun x hp' α' H' c d' r e' w' xr => qx x hp' α' H' c d' r (e1.trans e') w' xr⟩
  cases s' with
  | mu _ => exact r.elim
  | ob _ _ => exact r.elim
  | exn _ _ _ _ => exact r.elim
  | d d =>
    cases d with
    | lst ds =>
      obtain ⟨a, us, ev, hn, ha', wb, rl⟩ := fs rfl ds rfl
      subst ev
      have bst : StepW α1 hp1 H1 { α' with ban := fun b => α'.ban b ∨ b = a } hp' H' := ⟨e'.step.keep, fun b z => by
        rcases z with z | z | z
        · exact e'.step.newA b (.inl z)
        · exact e'.step.newA b (.inr z)
        · subst z; exact .inr hn, e'.step.newM, al_sub, e'.step.stay⟩
      obtain ⟨α3, e3, w3, r3⟩ := ban_push (α2 := { α' with ban := fun b => α'.ban b ∨ b = a }) (o := .lst ds) w1 hn e'.pre.own (show (fun b => α'.ban b ∨ b = a) = _ by rw [e'.pre.ban]) wb bst e'.nw fun A' st => ⟨rfl, us, ha', RepL.mono st _ _ rl⟩
      exact q _ _ α3 H' _ r (e1.trans e3) w3 r3
    | _ => exact r.elim
/-! ### defs -/
def isLst : D → Bool
  | .lst _ => true
  | _ => false
def retP (n0 : Nat) (fr : Bool) (R : S → List O → Prop) (v : S) (hp' : List O) : Prop := match v with
  | .d d => (fr = true → isLst d = false) ∧ R (.d d) (hp'.take n0)
  | .mu n => if n < n0 then R (.mu n) (hp'.take n0) else match hp'[n]? with
    | some (.lst ds) => R (.d (.lst ds)) (hp'.take n0)
    | some (.dct l) => R (.mu n0) (hp'.take n0 ++ [.dct l])
    | some (.reg gs) => R (.ob n0 0) (hp'.take n0 ++ [.reg gs])
    | _ => False
  | .ob n k => if n < n0 then R (.ob n k) (hp'.take n0) else match hp'[n]? with
    | some (.reg gs) => R (.ob n0 k) (hp'.take n0 ++ [.reg gs])
    | _ => False
  | .exn _ _ _ _ => False
def mDef (N : Nat) (fr : Bool) (Mb : MS) : MF := fun hp ss R Xp => Mb ⟨hp, ss.map some ++ List.replicate (N - ss.length) none, hp.length⟩
  { nx := fun s' => retP hp.length fr R (.d .non) s'.hp, bk := fun _ => False, ct := fun _ => False, rt := retP hp.length fr R, ex := fun x hp' => Xp x (hp'.take hp.length) }
def Mp_.cut (α : Mp_) (n : Nat) : Mp_ := { α with own := α.own.take n }
theorem take_get {τ : Type} {l : List τ} {n k : Nat} {x : τ} (h : (l.take n)[k]? = some x) : k < n ∧ l[k]? = some x := by
  have hk : k < (l.take n).length := (List.getElem?_eq_some_iff.mp h).1
  rw [List.length_take] at hk
  have hk' : k < n := by omega
  rw [List.getElem?_take_of_lt hk'] at h
  exact ⟨hk', h⟩
theorem WOk.cut {K : Frag} {α : Mp_} {hp : List O} {H : Hp} (w : WOk K α hp H) (n : Nat) : WOk K (α.cut n) (hp.take n) H ∧ (∀ a, Mt (α.cut n) (hp.take n) a → Mt α hp a) ∧ Step (Al α hp) (Al α hp) H (Al (α.cut n) (hp.take n)) (Al (α.cut n) (hp.take n)) H := by
  have mt : ∀ a, Mt (α.cut n) (hp.take n) a → Mt α hp a := fun a ⟨k, p, o, h1, h2, h3, h4⟩ => ⟨k, p, o, (take_get h1).2, (take_get h2).2, h3, h4⟩
  have al : ∀ a, Al (α.cut n) (hp.take n) a → Al α hp a := fun a h => h.imp (mt a) id
  have st : Step (Al α hp) (Al α hp) H (Al (α.cut n) (hp.take n)) (Al (α.cut n) (hp.take n)) H := ⟨fun _ _ h _ => h, fun a h => .inl (al a h), fun a h => .inl (al a h), fun _ h => h, fun _ o h => ⟨o, h⟩⟩
  exact ⟨⟨by show (α.own.take n).length = _; rw [List.length_take, List.length_take, w.len], fun k o p h1 h2 => (w.obj k o p (take_get h1).2 (take_get h2).2).mono st fun _ _ _ => rfl, fun k o p h1 h2 => w.one k o p (take_get h1).2 (take_get h2).2,
    fun j k o u p q h1 h2 h3 h4 h5 h6 => w.inj j k o u p q (take_get h1).2 (take_get h2).2 h3 (take_get h4).2 (take_get h5).2 h6, fun a h => ⟨(w.ban a h).1, fun z => (w.ban a h).2 (mt a z)⟩⟩, mt, st⟩
/-- where the i-th of the first n and the k-th stands -/
def mvIx (n k i : Nat) : Nat := if i < n then i else k
theorem mv_get {τ : Type} {l : List τ} {n k i : Nat} {x z : τ} (hl : n ≤ l.length) (hk : l[k]? = some x) (h : (l.take n ++ [x])[i]? = some z) : l[mvIx n k i]? = some z ∧ i ≤ n := by
  have hl2 : (l.take n).length = n := by rw [List.length_take]; omega
  unfold mvIx
  by_cases hi : i < n
  · rw [if_pos hi]
    rw [List.getElem?_append_left (by omega)] at h
    exact ⟨(take_get h).2, by omega⟩
  · rw [if_neg hi]
    have : i < (l.take n ++ [x]).length := (List.getElem?_eq_some_iff.mp h).1
    rw [List.length_append, hl2] at this
    simp at this
    have e : i = n := by omega
    subst e
    rw [List.getElem?_append_right (by omega), hl2] at h
    simp at h
    subst h
    exact ⟨hk, Nat.le_refl _⟩
def Mp_.mv (α : Mp_) (n : Nat) (p : Addr × List Addr) : Mp_ := { α with own := α.own.take n ++ [p] }
/-- the first n objects and one more -/
theorem WOk.mv {K : Frag} {α : Mp_} {hp : List O} {H : Hp} {p : Addr × List Addr} {o : O} {k : Nat} (w : WOk K α hp H) (n : Nat) (hn : n ≤ k) (hk : hp[k]? = some o) (hp' : α.own[k]? = some p) :
    WOk K (α.mv n p) (hp.take n ++ [o]) H ∧ (∀ a, Mt (α.mv n p) (hp.take n ++ [o]) a → Mt α hp a) := by
  have l1 : n ≤ hp.length := Nat.le_trans hn (Nat.le_of_lt (List.getElem?_eq_some_iff.mp hk).1)
  have l2 : n ≤ α.own.length := by rw [w.len]; exact l1
  have mt : ∀ a, Mt (α.mv n p) (hp.take n ++ [o]) a → Mt α hp a := fun a ⟨i, q, u, h1, h2, h3, h4⟩ => ⟨mvIx n k i, q, u, (mv_get l2 hp' h1).1, (mv_get l1 hk h2).1, h3, h4⟩
  have al : ∀ a, Al (α.mv n p) (hp.take n ++ [o]) a → Al α hp a := fun a h => h.imp (mt a) id
  have st : Step (Al α hp) (Al α hp) H (Al (α.mv n p) (hp.take n ++ [o])) (Al (α.mv n p) (hp.take n ++ [o])) H := ⟨fun _ _ h _ => h, fun a h => .inl (al a h), fun a h => .inl (al a h), fun _ h => h, fun _ o h => ⟨o, h⟩⟩
  refine ⟨⟨?_, fun i u q h1 h2 => (w.obj _ u q (mv_get l1 hk h1).1 (mv_get l2 hp' h2).1).mono st fun _ _ _ => rfl, fun i u q h1 h2 => w.one _ u q (mv_get l1 hk h1).1 (mv_get l2 hp' h2).1,
    fun i j u u' q q' h1 h2 h3 h4 h5 h6 h7 => w.inj _ _ u u' q q' (mv_get l1 hk h1).1 (mv_get l2 hp' h2).1 h3 (mv_get l1 hk h4).1 (mv_get l2 hp' h5).1 h6 ?_, fun a h => ⟨(w.ban a h).1, fun z => (w.ban a h).2 (mt a z)⟩⟩, mt⟩
  · show (α.own.take n ++ [p]).length = _
    simp only [List.length_append, List.length_take, List.length_cons, List.length_nil]
    rw [w.len]
  · have a1 := (mv_get l1 hk h1).2
    have a2 := (mv_get l1 hk h4).2
    unfold mvIx
    split <;> split <;> omega
theorem XRep.cut {K : Frag} {A A' : Av} {H : Hp} {x : Exn} {c : Value} {dd : Option Addr} (s : Step A A H A' A' H) (r : XRep K A H x c dd) : XRep K A' H x c dd := r.mono s
/-- what a def has done, its own objects left out -/
theorem cut_ext {K : Frag} {α α' : Mp_} {hp hp' : List O} {H H' : Hp} (w : WOk K α hp H) (pre : Pre0 ⟨α.own, H⟩ α' H') (w' : WOk K α' hp' H') (st : StepW α hp H α' hp' H') (hb : α'.ban = α.ban) : Ext α hp H (α'.cut hp.length) (hp'.take hp.length) H' := by
  obtain ⟨_, mt, st2⟩ := w'.cut hp.length
  refine ⟨⟨?_, hb⟩, ⟨st.keep, fun a h => st.newA a (h.imp (mt a) id), fun a h => st.newM a (mt a h), al_sub, st.stay⟩, fun n p h e => ?_⟩
  · exact OwnLe.take pre.own (by rw [w.len]; exact Nat.le_refl _)
  · have := (take_get (show (α'.own.take hp.length)[n]? = some p from e)).1
    rw [w.len] at h
    omega
theorem sim_def {K : Frag} {N n : Nat} {fr : Bool} {t : TS} {Mb : MS} {Ns : List Str} {E : XK} (hN : Ns.length = N) (h : SimS K (fun c d _ H => E c d H) t Mb) {vs : List V} {H : Hp} {Q : VK} (p : spM K n fr (mDef N fr Mb) vs H Q E) :
    t { nx := fun _ H' => Q .non H', rt := Q } (L2.start Ns vs) H := by
  obtain ⟨hn, α, hp, ss, R, Xp, w, sr, m, q, qx⟩ := p
  have hl : ss.length = vs.length := sr.length
  have hs : EnvR K α hp H (ss.map some ++ List.replicate (N - ss.length) none) (L2.start Ns vs) := by
    refine ⟨by unfold L2.start; simp [hN, hl], fun i s hi => ?_⟩
    by_cases hi2 : i < (ss.map some).length
    · rw [List.getElem?_append_left hi2, List.getElem?_map] at hi
      cases g : ss[i]? with
      | none => rw [g] at hi; cases hi
      | some s' =>
        rw [g] at hi
        cases hi
        have : ∀ {ss : List S} {vs : List V} {i : Nat} {s : S}, SRepL K α hp H ss vs → ss[i]? = some s → ∃ v, vs[i]? = some v ∧ SRep K α hp H s v := by
          intro ss vs i s r
          induction r generalizing i with
          | nil => intro e; simp at e
          | @cons a b as bs h1 h2 ih =>
            intro e
            cases i with
            | zero => simp at e; subst e; exact ⟨b, rfl, h1⟩
            | succ i => exact ih (by simpa using e)
        obtain ⟨v, h1, h2⟩ := this sr g
        refine ⟨v, ?_, h2⟩
        unfold L2.start
        rw [List.getElem?_append_left (by rw [List.length_map]; exact (List.getElem?_eq_some_iff.mp h1).1), List.getElem?_map, h1]
        rfl
    · rw [List.getElem?_append_right (by omega)] at hi
      rw [List.getElem?_replicate] at hi
      split at hi <;> cases hi
  have hh : Here K ⟨α.own, H⟩ α ⟨hp, ss.map some ++ List.replicate (N - ss.length) none, hp.length⟩ H (L2.start Ns vs) :=
    ⟨Pre0.refl, trivial, w, hs⟩
  have ret : ∀ v hp' α' H' u, retP hp.length fr R v hp' → Pre0 ⟨α.own, H⟩ α' H' → WOk K α' hp' H' → StepW α hp H α' hp' H' → α'.ban = α.ban → SRep K α' hp' H' v u → Q u H' := by
    intro v hp' α' H' u r pre w' st hb rv
    obtain ⟨w2, mt, st2⟩ := w'.cut hp.length
    have ex := cut_ext w pre w' st hb
    have mvd : ∀ (k : Nat) (pk : Addr × List Addr) (o : O) (s0 : S), (fr = true → ∀ ds, s0 ≠ .d (.lst ds)) → hp.length ≤ k → α'.own[k]? = some pk → hp'[k]? = some o → (∀ β : Mp_, β.own[hp.length]? = some pk → SRep K β (hp'.take hp.length ++ [o]) H' s0 u) → R s0 (hp'.take hp.length ++ [o]) → Q u H' := by
      intro k pk o s0 nl hk h1 ho hs r
      obtain ⟨w3, mt3⟩ := w'.mv hp.length hk ho h1
      have hn : H pk.1 = none := pre.nw k pk (by show α.own.length ≤ k; rw [w.len]; omega) h1
      have hlt : hp.length ≤ α'.own.length := by
        have := (List.getElem?_eq_some_iff.mp h1).1
        omega
      refine q s0 _ (α'.mv hp.length pk) H' u r ⟨⟨?_, hb⟩, ⟨st.keep, fun a h => st.newA a (h.imp (mt3 a) id), fun a h => st.newM a (mt3 a h), al_sub, st.stay⟩, fun n p h e => ?_⟩ w3 (hs _ ?_) fun hf ds ed => absurd ed (nl hf ds)
      · exact (OwnLe.take pre.own (by show α.own.length ≤ _; rw [w.len]; exact Nat.le_refl _)).appR
      · have e' := (mv_get hlt h1 (show (α'.own.take hp.length ++ [pk])[n]? = some p from e))
        rw [w.len] at h
        have en : n = hp.length := by omega
        subst en
        have e2 := e'.1
        unfold mvIx at e2
        rw [if_neg (Nat.lt_irrefl _), h1] at e2
        cases e2
        exact hn
      · show (α'.own.take hp.length ++ [pk])[hp.length]? = _
        have hl3 : (α'.own.take hp.length).length = hp.length := by rw [List.length_take]; omega
        rw [List.getElem?_append_right (by omega), hl3]
        simp
    cases v with
    | exn _ _ _ _ => exact r.elim
    | d d =>
      refine q _ _ _ H' u r.2 ex w2 (Rep.mono st2 _ _ rv) fun hf ds ed => ?_
      cases ed
      exact absurd (r.1 hf) (by simp [isLst])
    | ob k j =>
      obtain ⟨pk, a, h1, h5, h2⟩ := rv
      simp only [retP] at r
      by_cases hk : k < hp.length
      · rw [if_pos hk] at r
        refine q _ _ _ H' u r ex w2 ⟨pk, a, ?_, h5, h2⟩ fun _ ds ed => by cases ed
        show (α'.own.take hp.length)[k]? = _
        rw [List.getElem?_take_of_lt hk]
        exact h1
      · rw [if_neg hk] at r
        cases hgo : hp'[k]? with
        | none => rw [hgo] at r; exact r.elim
        | some o =>
        rw [hgo] at r
        cases o with
        | reg gs => exact mvd k pk _ (.ob hp.length j) (fun _ ds ed => by cases ed) (by omega) h1 hgo (fun β hβ => ⟨pk, a, hβ, h5, h2⟩) r
        | _ => exact r.elim
    | mu k =>
      obtain ⟨pk, h1, h2⟩ := rv
      simp only [retP] at r
      by_cases hk : k < hp.length
      · rw [if_pos hk] at r
        refine q _ _ _ H' u r ex w2 ⟨pk, ?_, h2⟩ fun _ ds ed => by cases ed
        show (α'.own.take hp.length)[k]? = _
        rw [List.getElem?_take_of_lt hk]
        exact h1
      · rw [if_neg hk] at r
        cases hgo : hp'[k]? with
        | none => rw [hgo] at r; exact r.elim
        | some o =>
        rw [hgo] at r
        cases o with
        | gone => exact r.elim
        | dct l => exact mvd k pk _ (.mu hp.length) (fun _ ds ed => by cases ed) (by omega) h1 hgo (fun β hβ => ⟨pk, hβ, h2⟩) r
        | reg gs => exact mvd k pk _ (.ob hp.length 0) (fun _ ds ed => by cases ed) (by omega) h1 hgo (fun β hβ => ⟨pk, pk.1, hβ, rfl, h2⟩) r
        | lst ds =>
        have g := lstAt_some hgo
        obtain ⟨us, h3, h4⟩ := w'.lstOf g h1
        have hn : H pk.1 = none := pre.nw k pk (by show α.own.length ≤ k; rw [w.len]; omega) h1
        have na : ∀ b, (Mt (α'.cut hp.length) (hp'.take hp.length) b) → b ≠ pk.1 := by
          rintro b ⟨j, pj, o, g1, g2, g3, g4⟩ e
          obtain ⟨hj, g1⟩ := take_get g1
          obtain ⟨_, g2⟩ := take_get g2
          subst e
          exact w'.inj j k o _ pj pk g2 g1 g3 (lstAt_get g) h1 (fun z => by cases z) (by omega) _ g4 (.inl rfl)
        have nb : ¬ α'.ban pk.1 := fun z => (w'.ban _ z).2 ⟨k, pk, _, h1, lstAt_get g, (fun z => by cases z), .inl rfl⟩
        have nal : ¬ Al (α'.cut hp.length) (hp'.take hp.length) pk.1 := fun z => z.elim (fun z => na _ z rfl) nb
        have sub : ∀ a, Al { α'.cut hp.length with ban := fun b => α'.ban b ∨ b = pk.1 } (hp'.take hp.length) a → Al α' hp' a := fun a z => by
          rcases z with z | z | z
          · exact .inl (mt a z)
          · exact .inr z
          · subst z; exact .inl ⟨k, pk, _, h1, lstAt_get g, (fun z => by cases z), .inl rfl⟩
        have st3 : Step (Al α' hp') (Al α' hp') H' (Al { α'.cut hp.length with ban := fun b => α'.ban b ∨ b = pk.1 } (hp'.take hp.length)) (Al { α'.cut hp.length with ban := fun b => α'.ban b ∨ b = pk.1 } (hp'.take hp.length)) H' :=
          ⟨fun _ _ h _ => h, fun a h => .inl (sub a h), fun a h => .inl (sub a h), fun _ h => h, fun _ o h => ⟨o, h⟩⟩
        refine q _ _ _ H' u r ex w2 ⟨pk.1, us, h2, ⟨h3, nal⟩, RepL.mono st2 _ _ h4⟩ fun _ ds' ed => ?_
        cases ed
        refine ⟨pk.1, us, h2, hn, h3, ?_, RepL.mono st3 _ _ h4⟩
        refine ⟨w2.len, fun j o p g1 g2 => ?_, w2.one, w2.inj, fun a z => ?_⟩
        · exact (w'.obj j o p (take_get g1).2 (take_get (show (α'.own.take hp.length)[j]? = some p from g2)).2).mono st3 fun _ _ _ => rfl
        · rcases z with z | z
          · exact w2.ban a z
          · subst z; exact ⟨⟨_, h3⟩, fun z => na _ z rfl⟩
  refine h _ α _ H _ hh _ m _ ⟨fun s' α' H' σ' n i st hb => ?_, fun _ _ _ _ n _ _ _ => n.elim, fun _ _ _ _ n _ _ _ => n.elim, ret, fun x hp' α' H' c dd σ' r pre w' st hb xr => ?_⟩
  · exact ret (.d .non) s'.hp α' H' .non n i.pre i.ok st hb rfl
  · obtain ⟨w2, mt, st2⟩ := w'.cut hp.length
    exact qx x _ _ H' c dd r (cut_ext w pre w' st hb) w2 (xr.cut st2)
end Mp

set_option Elab.async false
set_option linter.all false
set_option maxRecDepth 100000
set_option maxHeartbeats 4000000
/-! Mp9: the rules by syntax. -/
namespace Mp
open PySem PySem.Spec PyProof.Rows L2

structure DE (X : Cx) (W : WX) (e : Expr) (t : TE) (M : ME) : Prop where
  p : PE X e t
  s : SimE X.K W t M
structure DT (X : Cx) (W : WX) (e : Expr) (t : TT) (M : MT) : Prop where
  p : PT X e t
  s : SimT X.K W t M
structure DW (X : Cx) (W : WX) (e : Expr) (t : TT) (M : MT) : Prop where
  p : PW X e t
  s : SimT X.K W t M
structure DA (X : Cx) (W : WX) (es : List Expr) (t : TA) (M : MA) : Prop where
  p : PA X es t
  s : SimA X.K W t M
structure DS (X : Cx) (W : WX) (st : Stmt) (t : TS) (M : MS) : Prop where
  p : L2.PS X st t
  s : SimS X.K W t M
structure DSs (X : Cx) (W : WX) (st : List Stmt) (t : TS) (M : MS) : Prop where
  p : PSs X st t
  s : SimS X.K W t M
structure DG (X : Cx) (e : Expr) (t : TG) (us : List Nat) (M : MG) : Prop where
  p : PG X e t
  s : SimG X.K t us M
structure DGs (X : Cx) (es : List Expr) (t : TGs) (us : List Nat) (M : List D → PS → (PS → Prop) → Prop) : Prop where
  p : PGs X es t
  s : SimGs X.K t us M
structure DI (X : Cx) (W : WX) (tg e : Expr) (t : TI) (M : MI) : Prop where
  p : PI X tg e t
  s : SimI X.K W t M
structure DO (X : Cx) (W : WX) (e : Option Expr) (t : TO) (M : MO) : Prop where
  p : PO X e t
  s : SimO X.K W t M
section
variable {X : Cx} {W : WX} {a b c e : Expr} {es : List Expr} {pos : Pos} {ta tb tc te : TE} {Ma Mb Mc Me : ME} {t u : TT} {Mt Mu : MT} {tA : TA} {MA' : MA}
/-! expressions -/
theorem de_var (i : Nat) {x : Str} (hN : X.N[i]? = some x := by rfl) (hv : Vis X.env.scope x := by first | exact Or.inl rfl | exact Or.inr (Or.inl rfl) | exact Or.inr (Or.inr rfl)) (hd : (x == ("__debug__" : Str)) = false := by decide) (hcd : (x == ("__classdict__" : Str)) = false := by decide) :
    DE X W (.Name x pos) (tVar i) (mVar i) := ⟨pe_var hN hv hd hcd, sim_var i⟩
theorem de_int {i : Int} {j : Nat} : DE X W (.Constant (.int i) j pos) (tC (.int i)) (mC (.int i)) := ⟨pe_int, sim_c fun _ _ => rfl⟩
theorem de_bl {i : Bool} {j : Nat} : DE X W (.Constant (.bool i) j pos) (tC (.bl i)) (mC (.bl i)) := ⟨pe_bl, sim_c fun _ _ => rfl⟩
theorem de_non {j : Nat} : DE X W (.Constant .none j pos) (tC .non) (mC .non) := ⟨pe_non, sim_c fun _ _ => rfl⟩
theorem de_str {i : Str} {j : Nat} : DE X W (.Constant (.str i) j pos) (tC (.str i)) (mC (.str i)) := ⟨pe_str, sim_c fun _ _ => rfl⟩
theorem de_glob {x : Str} {v : V} {u : Value} {d : D} (hg : Gl X x) (hm : X.mg x = some u) (r : RelV v u) (h : ∀ A H, Rep X.K A H d v) (hd : (x == ("__debug__" : Str)) = false := by decide) : DE X W (.Name x pos) (tC v) (mC d) := ⟨pe_glob hg hm r hd, sim_c h⟩
theorem de_ty {x : Str} {n : String} (hg : Gl X x) (hm : X.mg x = none) (hv : bootBuiltins x = some (.type n)) (hn : x ≠ "__name__" := by decide) (hd : (x == ("__debug__" : Str)) = false := by decide) : DE X W (.Name x pos) (tC (.ty n)) (mC (.ty n)) :=
  ⟨pe_bltn (v := .ty n) hg hm hv rfl hn hd, sim_c fun _ _ => rfl⟩
theorem de_op {op : Operator} {r : R2} {f : F2} (ho : OpR X (binaryOp op) r) (hr : Sim2 X.K r f) (ha : DE X W a ta Ma) (hb : DE X W b tb Mb) : DE X W (.BinOp a op b pos) (tOp r ta tb) (m2 f Ma Mb) := ⟨pe_op ho ha.p hb.p, sim_op hr ha.s hb.s⟩
theorem de_un {op : UnaryOp} {r : V → Hp → VK → Prop} {f : F1} (ho : UnR X (unaryOp op) r) (hr : Sim1 X.K r f) (ha : DE X W a ta Ma) : DE X W (.UnaryOp op a pos) (tUn r ta) (m1 f Ma) := ⟨pe_un ho ha.p, sim_un hr ha.s⟩
theorem de_cmp {op : CmpOp} {r : R2} {f : F2} (ho : OpR X (compareOp op) r) (hr : Sim2 X.K r f) (ha : DE X W a ta Ma) (hb : DE X W b tb Mb) (hm : behindInMarks op b = false) : DE X W (.Compare a [op] [b] pos) (tOp r ta tb) (m2 f Ma Mb) := ⟨pe_cmpR ho ha.p hb.p hm, sim_op hr ha.s hb.s⟩
theorem dt_cmp {op : CmpOp} {r : R2} {f : F2} (ho : OpR X (compareOp op) r) (hr : Sim2 X.K r f) (ha : DE X W a ta Ma) (hb : DE X W b tb Mb) (hm : behindInMarks op b = false) : DT X W (.Compare a [op] [b] pos) (tTest (tOp r ta tb)) (mTest (m2 f Ma Mb)) := ⟨pt_cmpR ho ha.p hb.p hm, sim_test (sim_op hr ha.s hb.s)⟩
theorem de_chain {op op' : CmpOp} {r r' : R2} {f g : F2} (ho : OpR X (compareOp op) r) (hr : Sim2 X.K r f) (ho' : OpR X (compareOp op') r') (hr' : Sim2 X.K r' g) (ha : DE X W a ta Ma) (hb : DE X W b tb Mb) (hc : DE X W c tc Mc) (hm : lastMarks [op, op'] [b, c] = false := by with_unfolding_all rfl) :
    DE X W (.Compare a [op, op'] [b, c] pos) (tChain r r' ta tb tc) (mChain f g Ma Mb Mc) := ⟨pe_chain ho ho' ha.p hb.p hc.p hm, sim_chain hr hr' ha.s hb.s hc.s⟩
theorem dt_chain {op op' : CmpOp} {r r' : R2} {f g : F2} (ho : OpR X (compareOp op) r) (hr : Sim2 X.K r f) (ho' : OpR X (compareOp op') r') (hr' : Sim2 X.K r' g) (ha : DE X W a ta Ma) (hb : DE X W b tb Mb) (hc : DE X W c tc Mc) (hm : lastMarks [op, op'] [b, c] = false := by with_unfolding_all rfl) :
    DT X W (.Compare a [op, op'] [b, c] pos) (tTest (tChain r r' ta tb tc)) (mTest (mChain f g Ma Mb Mc)) := ⟨pt_chain ho ho' ha.p hb.p hc.p hm, sim_test (sim_chain hr hr' ha.s hb.s hc.s)⟩
theorem dt_val (ha : DE X W a ta Ma) (he : ∀ whole, isTrue a X.env whole = (do let v ← whole; standAt a.pos; holding [v] (truthy v)) := by intro _; rfl) : DT X W a (tB ta) (mTest Ma) := ⟨pt_val ha.p he, sim_tB ha.s⟩
theorem dw_and1 (ha : DT X W a t Mt) : DW X W (.BoolOp .And [a] pos) t Mt := ⟨pw_and1 ha.p, ha.s⟩
theorem dw_or1 (ha : DT X W a t Mt) : DW X W (.BoolOp .Or [a] pos) t Mt := ⟨pw_or1 ha.p, ha.s⟩
theorem dw_and (ha : DT X W a t Mt) (hb : DW X W (.BoolOp .And (b :: es) pos) u Mu) : DW X W (.BoolOp .And (a :: b :: es) pos) (tAnd t u) (mAnd Mt Mu) := ⟨pw_and ha.p hb.p, sim_and ha.s hb.s⟩
theorem dw_or (ha : DT X W a t Mt) (hb : DW X W (.BoolOp .Or (b :: es) pos) u Mu) : DW X W (.BoolOp .Or (a :: b :: es) pos) (tOr t u) (mOr Mt Mu) := ⟨pw_or ha.p hb.p, sim_or ha.s hb.s⟩
theorem dt_w (h : DW X W a t Mt) : DT X W a t Mt := ⟨PW.pt h.p, h.s⟩
theorem dt_not (ha : DT X W a t Mt) : DT X W (.UnaryOp .Not a pos) (tNot t) (mNot Mt) := ⟨pt_not ha.p, sim_not ha.s⟩
theorem de_one {op : BoolOp} (h : DE X W a ta Ma) : DE X W (.BoolOp op [a] pos) ta Ma := ⟨pe_one h.p, h.s⟩
theorem de_and (ha : DE X W a ta Ma) (hb : DE X W (.BoolOp .And (b :: es) pos) tb Mb) : DE X W (.BoolOp .And (a :: b :: es) pos) (tAndV ta tb) (mAndV Ma Mb) := ⟨pe_and ha.p hb.p, sim_andV ha.s hb.s⟩
theorem de_or (ha : DE X W a ta Ma) (hb : DE X W (.BoolOp .Or (b :: es) pos) tb Mb) : DE X W (.BoolOp .Or (a :: b :: es) pos) (tOrV ta tb) (mOrV Ma Mb) := ⟨pe_or ha.p hb.p, sim_orV ha.s hb.s⟩
theorem de_not (ha : DE X W a ta Ma) : DE X W (.UnaryOp .Not a pos) (tNotV ta) (mNotV Ma) := ⟨pe_not ha.p, sim_notV ha.s⟩
theorem de_if (hc : DT X W c t Mt) (ha : DE X W a ta Ma) (hb : DE X W b tb Mb) : DE X W (.IfExp c a b pos) (tIf t ta tb) (mIf Mt Ma Mb) := ⟨pe_ifExp hc.p ha.p hb.p, sim_if hc.s ha.s hb.s⟩
theorem da_nil : DA X W [] tNil mNil := ⟨pa_nil, sim_nil⟩
theorem da_cons (ha : DE X W e te Me) (hr : DA X W es tA MA') (hs : starEach (e :: es) X.env = (false, eval e X.env) :: starEach es X.env := by rfl) : DA X W (e :: es) (tCons te tA) (mCons Me MA') := ⟨pa_cons ha.p hr.p hs, sim_cons ha.s hr.s⟩
theorem de_tup {x1 : Nat} (h : DA X W es tA MA') : DE X W (.Tuple es x1 pos) (tTup tA) (mTup MA') := ⟨pe_tup h.p, sim_tup h.s⟩
theorem de_lst (h : DA X W es tA MA') : DE X W (.List es pos) (tLst tA) (mLst MA') := ⟨pe_lst h.p, sim_lst h.s⟩
theorem de_lstM (h : DA X W es tA MA') : DE X W (.List es pos) (tLst tA) (mLstM MA') := ⟨pe_lst h.p, sim_lstM h.s⟩
theorem de_callB {x : Str} {id : String} {r : List V → Hp → VK → Prop} {f : FN} {p : Pos} (hc : CallR X (.builtin id) r) (hr : SimN X.K r f) (hg : Gl X x) (hm : X.mg x = none) (hv : bootBuiltins x = some (.builtin id)) (ha : DA X W (e :: es) tA MA') (hn : x ≠ "__name__" := by decide) (hdb : (x == ("__debug__" : Str)) = false := by decide)
    (he : starEach (e :: es) X.env = (false, eval e X.env) :: starEach es X.env := by rfl) (hpl : (backTo pos (starEach es X.env)).any (·.1) = false := by rfl) : DE X W (.Call (.Name x p) (e :: es) [] pos) (tCB r tA) (mN f MA') :=
  ⟨pe_callB hc hg hm hv ha.p hn hdb he hpl, sim_cb hr ha.s⟩
theorem de_callTy {x : Str} {T : String} {r : List V → Hp → VK → Prop} {f : FN} {p : Pos} (hc : CallR X (.type T) r) (hr : SimN X.K r f) (hg : Gl X x) (hm : X.mg x = none) (hv : bootBuiltins x = some (.type T)) (ha : DA X W (e :: es) tA MA') (hn : x ≠ "__name__" := by decide) (hdb : (x == ("__debug__" : Str)) = false := by decide)
    (he : starEach (e :: es) X.env = (false, eval e X.env) :: starEach es X.env := by rfl) (hpl : (backTo pos (starEach es X.env)).any (·.1) = false := by rfl) : DE X W (.Call (.Name x p) (e :: es) [] pos) (tCB r tA) (mN f MA') :=
  ⟨pe_callTy hc hg hm hv ha.p hn hdb he hpl, sim_cb hr ha.s⟩
theorem de_ix (K : Frag) (ha : DE X W a ta Ma) (hb : DE X W b tb Mb) (hs : PlainIx b := by exact fun _ _ => rfl) (hK : X.K = K := by rfl) : DE X W (.Subscript a b pos) (tOp (rIx K) ta tb) (m2 fIx Ma Mb) := by subst hK; exact ⟨pe_ix ix_seq ha.p hb.p hs, sim_op sim_ix ha.s hb.s⟩
theorem de_dget (hu : X.A.units + 1 < cLine) (ha : DE X W a ta Ma) (hb : DE X W b tb Mb) (hs : NoSl b := by exact fun _ _ => rfl) : DE X W (.Subscript a b pos) (tDGet ta tb) (mDGet Ma Mb) := ⟨pe_dget hu ha.p hb.p hs, sim_dget ha.s hb.s⟩
theorem do_none : DO X W none tNoPart moNone := ⟨po_none, simo_none⟩
theorem do_some (ha : DE X W a ta Ma) : DO X W (some a) (tPart ta) (moSome Ma) := ⟨po_some ha.p, simo_some ha.s⟩
theorem de_sl (K : Frag) {lo hi : Option Expr} {tl th : TO} {Ml Mh : MO} {p2 : Pos} (ha : DE X W a ta Ma) (hl : DO X W lo tl Ml) (hh : DO X W hi th Mh) (hK : X.K = K := by rfl) : DE X W (.Subscript a (.Slice lo hi none p2) pos) (tSl (rSlX K) ta tl th) (mSl Ma Ml Mh) := by subst hK; exact ⟨pe_slice sl_x ha.p hl.p hh.p, sim_sl ha.s hl.s hh.s⟩
/-! calls -/
theorem de_call (K : Frag) {x : Str} {k n : Nat} {f : Addr} {fd : FuncData} {ps : List Str} {fr : Bool} {M : MF} {ds : List Value} {dvs : List V} {dd : List D} {p : Pos} (F : FnOk X.prog X.w K X.mg X.base (L2.CX X.prog X.w) k f fd ps (spM K n fr M)) (tk : Takes X W) (hr : Room k X.A) (hg : Gl X x) (hm : X.mg x = some (.ref f))
    (hk : PySem.W.keepIn K (.ref f) = true) (hb : Binds K fd ps ds) (hd : Vals dvs ds) (hdd : ∀ A H, RepL K A H dd dvs) (ha : DA X W (e :: es) tA MA') (hdb : (x == ("__debug__" : Str)) = false := by decide)
    (he : starEach (e :: es) X.env = (false, eval e X.env) :: starEach es X.env := by rfl) (hpl : (backTo pos (starEach es X.env)).any (·.1) = false := by rfl) (hK : X.K = K := by rfl) :
    DE X W (.Call (.Name x p) (e :: es) [] pos) (tCallSD (spM K n fr M) dvs (WE W) tA) (mCall n M dd MA') := by subst hK; exact ⟨pe_callSD F hr hg hm hk hb hd (fun σ => passAt tk σ) ha.p hdb he hpl, sim_call hdd ha.s⟩
theorem de_callM (K : Frag) {x : Str} {k n : Nat} {f : Addr} {fd : FuncData} {ps : List Str} {M : MF} {ds : List Value} {dvs : List V} {dd : List D} {p : Pos} (F : FnOk X.prog X.w K X.mg X.base (L2.CX X.prog X.w) k f fd ps (spM K n true M)) (tk : Takes X W) (hr : Room k X.A) (hg : Gl X x) (hm : X.mg x = some (.ref f))
    (hk : PySem.W.keepIn K (.ref f) = true) (hb : Binds K fd ps ds) (hd : Vals dvs ds) (hdd : ∀ A H, RepL K A H dd dvs) (ha : DA X W (e :: es) tA MA') (hdb : (x == ("__debug__" : Str)) = false := by decide)
    (he : starEach (e :: es) X.env = (false, eval e X.env) :: starEach es X.env := by rfl) (hpl : (backTo pos (starEach es X.env)).any (·.1) = false := by rfl) (hK : X.K = K := by rfl) :
    DE X W (.Call (.Name x p) (e :: es) [] pos) (tCallSD (spM K n true M) dvs (WE W) tA) (mCallM n M dd MA') := by subst hK; exact ⟨pe_callSD F hr hg hm hk hb hd (fun σ => passAt tk σ) ha.p hdb he hpl, sim_callM hdd ha.s⟩
/-! methods of lists -/
variable {o : Expr} {to : TE} {Mo : ME} {m : Str} {id : String} {apos : Pos}
theorem de_bm (K : Frag) {x : Bool} {r : V → List V → Hp → VK → Prop} {f : FM} (pa : PlainAttrs "list") (slot : Slot "list" m id) (hty : typeOf (.builtin id) = pure (.type "method_descriptor")) (hm : MtR X id r) (hr : SimM K x r f) (ho : DE X W o to Mo) (ha : DA X W (e :: es) tA MA')
    (hbase : attributeBase o m X.env (eval o X.env) = eval o X.env := by rfl)
    (hfew : ((backTo pos (starEach (e :: es) X.env)).all (fun x => !x.1) && (backToKw pos (keywordEach [] X.env)).all (fun x => x.1.isSome) && decide ((e :: es).length + ([] : List Keyword).length + (if ([] : List Keyword).isEmpty then 0 else 1) < 30)) = true := by rfl)
    (hline : (apos.endLine == pos.line) = true := by rfl) (hs : starEach (e :: es) X.env = (false, eval e X.env) :: starEach es X.env := by rfl) (hp : (backTo pos (starEach es X.env)).any (·.1) = false := by rfl) (hK : X.K = K := by rfl) :
    DE X W (.Call (.Attribute o m apos) (e :: es) [] pos) (tBM K "list" r to tA) (mMeth x f Mo MA') := by subst hK; exact ⟨pe_bm pa slot hty hm ho.p ha.p hbase hfew hline hs hp, sim_meth hr ho.s ha.s⟩
theorem de_bm0 (K : Frag) {r : V → List V → Hp → VK → Prop} {f : FM} (pa : PlainAttrs "list") (slot : Slot "list" m id) (hty : typeOf (.builtin id) = pure (.type "method_descriptor")) (hm : MtR X id r) (hr : SimM K false r f) (ho : DE X W o to Mo)
    (hbase : attributeBase o m X.env (eval o X.env) = eval o X.env := by rfl) (hline : (apos.endLine == pos.line) = true := by rfl) (hK : X.K = K := by rfl) :
    DE X W (.Call (.Attribute o m apos) [] [] pos) (tBM0 K "list" r to) (mMeth false f Mo mNil) := by subst hK; exact ⟨pe_bm0 pa slot hty hm ho.p hbase hline, sim_meth0 hr ho.s⟩
/-! dicts displayed -/
inductive DPs (X : Cx) (W : WX) (pos : Pos) : List (Option Expr) → List Expr → List (TE × TE) → List (ME × ME) → Prop where
  | nil : DPs X W pos [] [] [] []
  | cons {k v : Expr} {ks : List (Option Expr)} {vs : List Expr} {tk tv : TE} {Mk Mv : ME} {tr : List (TE × TE)} {mr : List (ME × ME)} (h1 : DE X W k tk Mk) (h2 : DE X W v tv Mv) (h3 : DPs X W pos ks vs tr mr) : DPs X W pos (some k :: ks) (v :: vs) ((tk, tv) :: tr) ((Mk, Mv) :: mr)
theorem DPs.p {ks : List (Option Expr)} {vs : List Expr} {tr : List (TE × TE)} {mr : List (ME × ME)} (h : DPs X W pos ks vs tr mr) : PPs X pos ks vs tr := by
  induction h with
  | nil => exact pps_nil
  | cons h1 h2 h3 ih => exact pps_cons h1.p h2.p ih
theorem DPs.s {ks : List (Option Expr)} {vs : List Expr} {tr : List (TE × TE)} {mr : List (ME × ME)} (h : DPs X W pos ks vs tr mr) : SimPs X.K W tr mr := by
  induction h with
  | nil => exact .nil
  | cons h1 h2 h3 ih => exact .cons h1.s h2.s ih
theorem de_disp {ks : List (Option Expr)} {vs : List Expr} {tr : List (TE × TE)} {mr : List (ME × ME)} (h : DPs X W pos ks vs tr mr) (hall : ks.all (·.isSome) = true := by rfl) (hl : ks.length = vs.length := by rfl) (h0 : ks ≠ [] := by intro z; cases z) (h15 : ks.length ≤ 15 := by decide) :
    DE X W (.Dict ks vs pos) (tDisp tr) (mDisp mr) := ⟨pe_disp h.p hall hl h0 h15, sim_disp h.s⟩
/-! targets, walks -/
theorem dg_name (i : Nat) {x : Str} (hN : X.N.Nodup) (hi : X.N[i]? = some x := by rfl) (hx : Loc X.env.scope x := by first | exact Or.inl rfl | exact Or.inr rfl) (hf : X.fn x = true ∨ X.env.scope.names.lookup x = some .local := by first | exact .inl rfl | exact .inr rfl) : DG X (.Name x pos) (gName i) [i] (mgName i) := ⟨pg_name hN hi hx hf, simg_name i⟩
theorem dgs_nil : DGs X [] gNil [] mgsNil := ⟨pgs_nil, simgs_nil⟩
theorem di_sq (K : Frag) {tg : Expr} (h : DE X W e te Me) (hK : X.K = K := by rfl) : DI X W tg e (iSq K te) (miSq Me) := by subst hK; exact ⟨pi_sq h.p, simi_sq h.s⟩
theorem di_r1 {tg : Expr} {p : Pos} (hg : Gl X "range") (hm : X.mg "range" = none) (ha : DA X W [a] tA MA') (hs : starEach [a] X.env = [(false, eval a X.env)] := by rfl) : DI X W tg (.Call (.Name "range" p) [a] [] pos) (iRng1 tA) (miRng f1R MA') := ⟨pi_range1 hg hm ha.p hs, simi_r1 ha.s⟩
theorem di_r2 {tg : Expr} {p : Pos} (hg : Gl X "range") (hm : X.mg "range" = none) (ha : DA X W [a, b] tA MA') (hs : starEach [a, b] X.env = [(false, eval a X.env), (false, eval b X.env)] := by rfl) (hs2 : starEach [b] X.env = [(false, eval b X.env)] := by rfl) : DI X W tg (.Call (.Name "range" p) [a, b] [] pos) (iRng2 tA) (miRng f2R MA') := ⟨pi_range2 hg hm ha.p hs hs2, simi_r2 ha.s⟩
/-! comprehensions -/
abbrev W00 : WX := fun _ _ _ _ => False
theorem de_lc {elt tg iter : Expr} {ifs : List Expr} {scope : Scope} {wi : TI} {g : TG} {us : List Nat} {I : MI} {G : MG} {vs : List Nat} (own : List (Str × Nat)) (ev : own.map (·.2) = vs) (hc : X.calm = true) (hN : X.N.Nodup) (hi : DI X W tg iter wi I) (ok : BlkOk X.N X.env.scope scope own)
    (hg : ∀ (s : Shared) (H : Hp) (C : Addr) (cl : List (Str × Addr)) (fp : List Addr), DG (X.blk s H scope (compEnvC scope cl C X.env) fp) tg g us G) (ht : ∀ (s : Shared) (H : Hp) (C : Addr) (cl : List (Str × Addr)) (fp : List Addr), PTs (X.blk s H scope (compEnvC scope cl C X.env) fp) ifs t)
    (hts : SimT X.K W00 t Mt) (he : ∀ (s : Shared) (H : Hp) (C : Addr) (cl : List (Str × Addr)) (fp : List Addr), DE (X.blk s H scope (compEnvC scope cl C X.env) fp) W00 elt te Me) (hu : ∀ u ∈ us, u ∈ own.map (·.2)) (hs : ∀ x, foldedSetIterable iter X.env x = pure x := by intro _; rfl) :
    DE X W (.ListComp elt [⟨tg, iter, ifs, 0⟩] scope pos) (tLc wi g t te vs) (mLc I G Mt Me vs) :=
  by subst ev; exact ⟨pe_lc hc hN hi.p ok (fun s H C cl fp => (hg s H C cl fp).p) ht (fun s H C cl fp => (he s H C cl fp).p) hs, sim_lc hi.s (hg X.s_0 X.H_0 0 [] []).s hu hts (he X.s_0 X.H_0 0 [] []).s⟩
theorem de_lcM {elt tg iter : Expr} {ifs : List Expr} {scope : Scope} {wi : TI} {g : TG} {us : List Nat} {I : MI} {G : MG} {vs : List Nat} (own : List (Str × Nat)) (ev : own.map (·.2) = vs) (hc : X.calm = true) (hN : X.N.Nodup) (hi : DI X W tg iter wi I) (ok : BlkOk X.N X.env.scope scope own)
    (hg : ∀ (s : Shared) (H : Hp) (C : Addr) (cl : List (Str × Addr)) (fp : List Addr), DG (X.blk s H scope (compEnvC scope cl C X.env) fp) tg g us G) (ht : ∀ (s : Shared) (H : Hp) (C : Addr) (cl : List (Str × Addr)) (fp : List Addr), PTs (X.blk s H scope (compEnvC scope cl C X.env) fp) ifs t)
    (hts : SimT X.K W00 t Mt) (he : ∀ (s : Shared) (H : Hp) (C : Addr) (cl : List (Str × Addr)) (fp : List Addr), DE (X.blk s H scope (compEnvC scope cl C X.env) fp) W00 elt te Me) (hu : ∀ u ∈ us, u ∈ own.map (·.2)) (hs : ∀ x, foldedSetIterable iter X.env x = pure x := by intro _; rfl) :
    DE X W (.ListComp elt [⟨tg, iter, ifs, 0⟩] scope pos) (tLc wi g t te vs) (mLcM I G Mt Me vs) :=
  by subst ev; exact ⟨pe_lc hc hN hi.p ok (fun s H C cl fp => (hg s H C cl fp).p) ht (fun s H C cl fp => (he s H C cl fp).p) hs, sim_lcM hi.s (hg X.s_0 X.H_0 0 [] []).s hu hts (he X.s_0 X.H_0 0 [] []).s⟩
def mYes : MT := fun s R _ => R true s.hp
theorem sim_yes {K : Frag} : SimT K W tYes mYes := fun α s H σ w e R Xp m Q q _ => q _ _ α H m Ext.refl w
/-! statements -/
variable {st : Stmt} {rest : List Stmt} {ts us : TS} {Ms Ms' : MS}
theorem dss_nil : DSs X W [] tNext mNext := ⟨pss_nil, sim_next⟩
theorem dss_one (h : DS X W st ts Ms) : DSs X W [st] ts Ms := ⟨pss_one h.p, h.s⟩
theorem dss_cons (h : DS X W st ts Ms) (hr : DSs X W rest us Ms') : DSs X W (st :: rest) (tSeq ts us) (mSeq Ms Ms') := ⟨pss_cons h.p hr.p, sim_seq h.s hr.s⟩
theorem ds_pass : DS X W (.Pass pos) tNext mNext := ⟨ps_pass, sim_next⟩
theorem ds_break : DS X W (.Break pos) tBreak mBreak := ⟨ps_break, sim_break⟩
theorem ds_continue : DS X W (.Continue pos) tCont mCont := ⟨ps_continue, sim_cont⟩
theorem ds_ret (h : DE X W e te Me) : DS X W (.Return (some e) pos) (tRet te) (mRet Me) := ⟨ps_ret h.p, sim_ret h.s⟩
theorem ds_retN : DS X W (.Return none pos) tRetN mRetN := ⟨ps_retN, sim_retN⟩
theorem ds_expr (h : DE X W e te Me) (hs : swapsWith e none pos.line X.env = pure false := by rfl) : DS X W (.Expr e pos) (tDrop te) (mDrop Me) := ⟨ps_expr h.p hs, sim_drop h.s⟩
theorem ds_asg {tg : Expr} {g : TG} {uu : List Nat} {G : MG} (h : DE X W e te Me) (hg : DG X tg g uu G) (hs : swapsWithSole [tg] e pos.line X.env = pure false := by rfl) (hw : swappedStores [tg] e X.env = pure none := by rfl) (h1 : (assignEach [tg] X.env).map (·.2) = [assign tg X.env] := by rfl) :
    DS X W (.Assign [tg] e pos) (tAsg te g) (mAsg Me G) := ⟨ps_asg h.p hg.p hs hw h1, sim_asg h.s hg.s⟩
theorem ds_set (i : Nat) {x : Str} {p' : Pos} (hN : X.N.Nodup) (h : DE X W e te Me) (hi : X.N[i]? = some x := by rfl) (hx : Loc X.env.scope x := by first | exact Or.inl rfl | exact Or.inr rfl) (hs : swapsWith e (some (.Name x p')) pos.line X.env = pure false := by rfl)
    (hf : X.fn x = true ∨ X.env.scope.names.lookup x = some .local := by first | exact .inl rfl | exact .inr rfl) : DS X W (.Assign [.Name x p'] e pos) (tAsg te (gName i)) (mAsg Me (mgName i)) := ⟨ps_set hN hi hx h.p hs hf, sim_asg h.s (simg_name i)⟩
theorem ds_aug (i : Nat) {x : Str} {p' : Pos} {op : Operator} {f : Int → Int → Int} (hN : X.N.Nodup) (h : DE X W e te Me) (ho : PIp X op (ipI f)) (hi : X.N[i]? = some x := by rfl) (hx : Loc X.env.scope x := by first | exact Or.inl rfl | exact Or.inr rfl)
    (hf : X.fn x = true ∨ X.env.scope.names.lookup x = some .local := by first | exact .inl rfl | exact .inr rfl) : DS X W (.AugAssign (.Name x p') op e pos) (tAug i te (ipI f)) (mAug i f Me) := ⟨ps_aug hN hi hx h.p ho hf, sim_aug i f h.s⟩
theorem ds_if {xs ys : List Stmt} {t1 t2 : TS} {M1 M2 : MS} (hc : DT X W c t Mt) (ha : DSs X W xs t1 M1) (hb : DSs X W ys t2 M2) : DS X W (.If c xs ys pos) (tIfS t t1 t2) (mIfS Mt M1 M2) := ⟨ps_if hc.p ha.p hb.p, sim_ifS hc.s ha.s hb.s⟩
theorem ds_while {xs : List Stmt} {t1 : TS} {M1 : MS} (hp : PassesOwn (model X.prog X.w) X.A X.env X.xe) (hc : DT X W c t Mt) (hb : DSs X W xs t1 M1) : DS X W (.While c xs [] pos) (tWhile t t1) (mWhile Mt M1) := ⟨ps_while hp hc.p hb.p, sim_while hc.s hb.s⟩
theorem ds_for {tg iter : Expr} {xs : List Stmt} {t1 : TS} {M1 : MS} {wi : TI} {g : TG} {uu : List Nat} {I : MI} {G : MG} (hp : PassesOwn (model X.prog X.w) X.A X.env X.xe) (hc : X.calm = true) (hi : DI X W tg iter wi I) (hg : DG X tg g uu G) (hb : DSs X W xs t1 M1)
    (hs : ∀ x, foldedSetIterable iter X.env x = pure x := by intro _; rfl) : DS X W (.For tg iter xs [] pos) (tFor wi g t1) (mFor I G M1) := ⟨ps_for hp hc hi.p hg.p hb.p hs, sim_for hi.s hg.s hb.s⟩
theorem ds_dput {p' : Pos} (hu : X.A.units + 1 < cLine) (ho : DE X W o to Mo) (hi : DE X W a ta Ma) (hv : DE X W e te Me) (hs : swapsWith e (some (.Subscript o a p')) pos.line X.env = pure false := by rfl) : DS X W (.Assign [.Subscript o a p'] e pos) (sDPut to ta te) (mDPut Mo Ma Me) := ⟨ps_dput hu ho.p hi.p hv.p hs, sim_dput ho.s hi.s hv.s⟩
theorem dg_sub (ho : DE X W o to Mo) (hi : DE X W a ta Ma) (hs : assign (.Subscript o a pos) X.env = assign (.Subscript o a pos) X.env := by rfl) (h : PG X (.Subscript o a pos) (gSub to ta rSetL)) : DG X (.Subscript o a pos) (gSub to ta rSetL) [] (mgSub Mo Ma) := ⟨h, simg_sub ho.s hi.s⟩
/-- y = [elt for ..] -/
theorem ds_setLc (i : Nat) {y : Str} {py spos : Pos} {elt tg iter : Expr} {ifs : List Expr} {scope : Scope} {wi : TI} {g : TG} {uu : List Nat} {I : MI} {G : MG} {vs : List Nat} (own : List (Str × Nat)) (ev : own.map (·.2) = vs) (hc : X.calm = true) (hN : X.N.Nodup) (hi : DI X W tg iter wi I) (ok : BlkOk X.N X.env.scope scope own)
    (hg : ∀ (s : Shared) (H : Hp) (C : Addr) (cl : List (Str × Addr)) (fp : List Addr), DG (X.blk s H scope (compEnvC scope cl C X.env) fp) tg g uu G) (ht : ∀ (s : Shared) (H : Hp) (C : Addr) (cl : List (Str × Addr)) (fp : List Addr), PTs (X.blk s H scope (compEnvC scope cl C X.env) fp) ifs t)
    (hts : SimT X.K W00 t Mt) (he : ∀ (s : Shared) (H : Hp) (C : Addr) (cl : List (Str × Addr)) (fp : List Addr), DE (X.blk s H scope (compEnvC scope cl C X.env) fp) W00 elt te Me) (hu : ∀ u ∈ uu, u ∈ own.map (·.2))
    (hyl : X.env.scope.names.lookup y = some .local) (hsw : swapsWith (.ListComp elt [⟨tg, iter, ifs, 0⟩] scope pos) (some (.Name y py)) spos.line X.env = pure true) (hs : ∀ x, foldedSetIterable iter X.env x = pure x := by intro _; rfl) (hy : X.N[i]? = some y := by rfl) :
    DS X W (.Assign [.Name y py] (.ListComp elt [⟨tg, iter, ifs, 0⟩] scope pos) spos) (tAsg (tLc wi g t te vs) (gName i)) (mAsg (mLc I G Mt Me vs) (mgName i)) :=
  by subst ev; exact ⟨ps_setLc hc hN hy hyl hsw hi.p ok (fun s H C cl fp => (hg s H C cl fp).p) ht (fun s H C cl fp => (he s H C cl fp).p) hs, sim_asg (sim_lc hi.s (hg X.s_0 X.H_0 0 [] []).s hu hts (he X.s_0 X.H_0 0 [] []).s) (simg_name i)⟩
theorem ds_setLcM (i : Nat) {y : Str} {py spos : Pos} {elt tg iter : Expr} {ifs : List Expr} {scope : Scope} {wi : TI} {g : TG} {uu : List Nat} {I : MI} {G : MG} {vs : List Nat} (own : List (Str × Nat)) (ev : own.map (·.2) = vs) (hc : X.calm = true) (hN : X.N.Nodup) (hi : DI X W tg iter wi I) (ok : BlkOk X.N X.env.scope scope own)
    (hg : ∀ (s : Shared) (H : Hp) (C : Addr) (cl : List (Str × Addr)) (fp : List Addr), DG (X.blk s H scope (compEnvC scope cl C X.env) fp) tg g uu G) (ht : ∀ (s : Shared) (H : Hp) (C : Addr) (cl : List (Str × Addr)) (fp : List Addr), PTs (X.blk s H scope (compEnvC scope cl C X.env) fp) ifs t)
    (hts : SimT X.K W00 t Mt) (he : ∀ (s : Shared) (H : Hp) (C : Addr) (cl : List (Str × Addr)) (fp : List Addr), DE (X.blk s H scope (compEnvC scope cl C X.env) fp) W00 elt te Me) (hu : ∀ u ∈ uu, u ∈ own.map (·.2))
    (hyl : X.env.scope.names.lookup y = some .local) (hsw : swapsWith (.ListComp elt [⟨tg, iter, ifs, 0⟩] scope pos) (some (.Name y py)) spos.line X.env = pure true) (hs : ∀ x, foldedSetIterable iter X.env x = pure x := by intro _; rfl) (hy : X.N[i]? = some y := by rfl) :
    DS X W (.Assign [.Name y py] (.ListComp elt [⟨tg, iter, ifs, 0⟩] scope pos) spos) (tAsg (tLc wi g t te vs) (gName i)) (mAsg (mLcM I G Mt Me vs) (mgName i)) :=
  by subst ev; exact ⟨ps_setLc hc hN hy hyl hsw hi.p ok (fun s H C cl fp => (hg s H C cl fp).p) ht (fun s H C cl fp => (he s H C cl fp).p) hs, sim_asg (sim_lcM hi.s (hg X.s_0 X.H_0 0 [] []).s hu hts (he X.s_0 X.H_0 0 [] []).s) (simg_name i)⟩
end
/-- a def: its body by these rules -/
theorem fn_ok {P : Program} {w : World} {K : Frag} {mg : Str → Option Value} {base : Heap} {x qual : Str} {params : Arguments} {body : List Stmt} {scope : Scope} {dvs : List V} {kws : List (Str × V)} {f : Addr} {fd : FuncData} {Ns ps : List Str} {k n : Nat} {fr : Bool} {Mb : MS}
    (F : FunD K x qual params body scope dvs kws f fd) (S : FnScope Ns ps scope) (hn : ps.length = n) (N : Nat) (hN : Ns.length = N)
    (h : ∀ (cdv : Value) (A : Around) (outer : List Env) (s : Shared) (H : Hp) (E : XK), Room k (A.deeper (envOfC qual scope s.heap.objs.size f cdv)) → ∃ t, DSs (cxOf (L2.CX P w) P w K mg base Ns qual scope f cdv A outer s H E) (fun c d _ H => E c d H) body t Mb) :
    FnOk P w K mg base (L2.CX P w) (k + 1) f fd ps (spM K n fr (mDef N fr Mb)) := by
  refine F.ok S (fun vs H Q E z => by rw [spM_len vs H Q E z, hn]) fun cdv A outer s H vs Q E hr hs => ?_
  obtain ⟨t, d⟩ := h cdv A outer s H E hr
  exact ⟨t, d.p, sim_def hN d.s hs⟩
end Mp

set_option Elab.async false
set_option linter.all false
set_option maxRecDepth 100000
set_option maxHeartbeats 4000000
/-! Mp10: more rules. -/
namespace Mp
open PySem PySem.Spec PyProof.Rows L2

/-! ### lists that will be changed -/
theorem new_mu {K : Frag} {α1 : Mp_} {hp1 : List O} {H1 : Hp} {p : Addr} {ds : List D} {vs : List V} (w1 : WOk K α1 hp1 H1) (hn : H1 p = none) (r : RepL K (Al α1 hp1) H1 ds vs) :
    ∃ α2, WOk K α2 (hp1 ++ [.lst ds]) (upd H1 p (.lst vs)) ∧ Ext α1 hp1 H1 α2 (hp1 ++ [.lst ds]) (upd H1 p (.lst vs)) ∧ SRep K α2 (hp1 ++ [.lst ds]) (upd H1 p (.lst vs)) (.mu hp1.length) (.ref p) := by
  obtain ⟨w2, e2⟩ := w1.pushLst hn r
  exact ⟨_, w2, e2, (p, []), by show (α1.own ++ [(p, [])])[hp1.length]? = _; rw [← w1.len, List.getElem?_append_right (Nat.le_refl _)]; simp, rfl⟩
def mListM (Ma : MA) : ME := fun s R Xp => Ma s (fun xs hp1 => on (vals hp1 xs) fun ds => one ds fun d => on (items d) fun ys => R (.mu hp1.length) (hp1 ++ [.lst ys])) Xp
theorem sim_listM {K : Frag} {W : WX} {ta : TA} {Ma : MA} (ha : SimA K W ta Ma) : SimE K W (tCB (rListA K) ta) (mListM Ma) := by
  intro α s H σ w e R Xp m Q q qx
  refine ha α s H σ w e _ _ m _ (fun x hp1 α1 H1 v1 m1 e1 w1 r1 => ?_) qx
  obtain ⟨ds, g1, m1⟩ := on.ex m1
  obtain ⟨d, v, rfl, r, m1⟩ := m1.ex (r1.vals w1 g1)
  obtain ⟨ys, g2, m1⟩ := on.ex m1
  obtain ⟨a, vs, rfl, h, r2⟩ := r.items g2
  refine ⟨a, vs, rfl, h, fun l hl => ?_⟩
  obtain ⟨α2, w2, e2, r3⟩ := new_mu w1 hl r2
  exact q _ _ α2 _ _ m1 (e1.trans e2) w2 r3
def slOf : D → Option (List D)
  | .lst ds => some ds
  | .fl ds => some ds
  | _ => none
def mSlM (Ma : ME) (Ml Mh : MO) : ME := fun s R Xp => Ma s (fun x hp1 => Ml { s with hp := hp1 } (fun lo hp2 => Mh { s with hp := hp2 } (fun hi hp3 => on (val hp3 x) fun d => on (slOf d) fun ds => R (.mu hp3.length) (hp3 ++ [.lst (cutD ds lo hi)])) Xp) Xp) Xp
theorem sim_slM {K : Frag} {W : WX} {t : TE} {tl th : TO} {Ma : ME} {Ml Mh : MO} (ha : SimE K W t Ma) (hl : SimO K W tl Ml) (hh : SimO K W th Mh) : SimE K W (tSl (rSlX K) t tl th) (mSlM Ma Ml Mh) := by
  intro α s H σ w e R Xp m Q q qx
  refine ha α s H σ w e _ _ m _ (fun x hp1 α1 H1 v1 m1 e1 w1 r1 => ?_) qx
  refine hl α1 { s with hp := hp1 } H1 σ w1 (e.mono e1) _ _ m1 _ (fun lo hp2 α2 H2 m2 e2 w2 => ?_) (qx.at e1)
  refine hh α2 { s with hp := hp2 } H2 σ w2 ((e.mono e1).mono e2) _ _ m2 _ (fun hi hp3 α3 H3 m3 e3 w3 => ?_) ((qx.at e1).at e2)
  obtain ⟨d, g1, m3⟩ := on.ex m3
  obtain ⟨ds, g2, m3⟩ := on.ex m3
  have rt := ((r1.mono e2).mono e3).val w3 g1
  cases d with
  | lst ds' =>
    cases g2
    obtain ⟨a, vs, rfl, h, k⟩ := rt
    refine .inl ⟨a, vs, rfl, .inl (.inl h), fun l hl => ?_⟩
    obtain ⟨α2, w4, e4, r4⟩ := new_mu w3 hl (k.cut lo hi)
    exact q _ _ _ _ _ m3 (((e1.trans e2).trans e3).trans e4) w4 r4
  | fl ds' =>
    cases g2
    obtain ⟨a, vs, e0, h, k⟩ := fl_sq (rt : Rep K (Al α3 hp3) H3 (.fl _) v1)
    refine .inl ⟨a, vs, e0, h, fun l hl => ?_⟩
    obtain ⟨α2, w4, e4, r4⟩ := new_mu w3 hl (k.cut lo hi)
    exact q _ _ _ _ _ m3 (((e1.trans e2).trans e3).trans e4) w4 r4
  | _ => cases g2
/-! ### -i -/
def fU (g : Int → D) : F1 := fun a P => match a with
  | .int i => P (g i)
  | _ => False
@[simp] theorem fU_int {g : Int → D} {i : Int} {P : D → Prop} : fU g (.int i) P = P (g i) := rfl
theorem sim_U {K : Frag} {g : Int → D} {g' : Int → V} (hg : ∀ A H i, Rep K A H (g i) (g' i)) : Sim1 K (rU g') (fU g) := by
  intro A H d1 v1 _ r1 P p Q q
  cases d1 with
  | int i => cases r1; exact ⟨_, rfl, q _ _ _ p (hg _ _ _) (.inl rfl)⟩
  | _ => exact p.elim
section
variable {X : Cx} {W : WX} {a b c e : Expr} {es : List Expr} {pos : Pos} {ta tb tc te : TE} {Ma Mb Mc Me : ME} {t u : TT} {Mt Mu : MT} {tA : TA} {MA' : MA}
theorem de_gint {x : Str} {i : Int} (hg : Gl X x) (hm : ∃ t, X.mg x = some (.int i t)) (hd : (x == ("__debug__" : Str)) = false := by decide) : DE X W (.Name x pos) (tC (.int i)) (mC (.int i)) := by
  obtain ⟨t, h⟩ := hm
  exact ⟨pe_glob hg h ⟨t, rfl⟩ hd, sim_c fun _ _ => rfl⟩
theorem de_gstr {x : Str} {i : Str} (hg : Gl X x) (hm : ∃ t, X.mg x = some (.str i t)) (hd : (x == ("__debug__" : Str)) = false := by decide) : DE X W (.Name x pos) (tC (.str i)) (mC (.str i)) := by
  obtain ⟨t, h⟩ := hm
  exact ⟨pe_glob hg h ⟨t, rfl⟩ hd, sim_c fun _ _ => rfl⟩
theorem de_neg (ha : DE X W a ta Ma) : DE X W (.UnaryOp .USub a pos) (tUn (rU fun i => .int (-i)) ta) (m1 (fU fun i => .int (-i)) Ma) := de_un un_neg (sim_U fun _ _ _ => rfl) ha
theorem de_listM (K : Frag) {p : Pos} (hg : Gl X "list") (hm : X.mg "list" = none) (hv : bootBuiltins "list" = some (.type "list")) (ha : DA X W (e :: es) tA MA')
    (he : starEach (e :: es) X.env = (false, eval e X.env) :: starEach es X.env := by rfl) (hpl : (backTo pos (starEach es X.env)).any (·.1) = false := by rfl) (hK : X.K = K := by rfl) : DE X W (.Call (.Name "list" p) (e :: es) [] pos) (tCB (rListA K) tA) (mListM MA') := by subst hK; exact ⟨pe_callTy call_list_of hg hm hv ha.p (by decide) (by decide) he hpl, sim_listM ha.s⟩
theorem de_slM (K : Frag) {lo hi : Option Expr} {tl th : TO} {Ml Mh : MO} {p2 : Pos} (ha : DE X W a ta Ma) (hl : DO X W lo tl Ml) (hh : DO X W hi th Mh) (hK : X.K = K := by rfl) : DE X W (.Subscript a (.Slice lo hi none p2) pos) (tSl (rSlX K) ta tl th) (mSlM Ma Ml Mh) := by subst hK; exact ⟨pe_slice sl_x ha.p hl.p hh.p, sim_slM ha.s hl.s hh.s⟩
theorem di_r3 {tg : Expr} {p : Pos} (hg : Gl X "range") (hm : X.mg "range" = none) (ha : DA X W [a, b, c] tA MA') (hs : starEach [a, b, c] X.env = (false, eval a X.env) :: starEach [b, c] X.env := by rfl) (hpl : (backTo pos (starEach [b, c] X.env)).any (·.1) = false := by rfl) :
    DI X W tg (.Call (.Name "range" p) [a, b, c] [] pos) (iRng3 tA) (miRng f3R MA') := ⟨pi_range3 hg hm ha.p hs hpl, simi_r3 ha.s⟩
/-! targets -/
theorem dgs_cons {g : TG} {gs : TGs} {us ws : List Nat} {G : MG} {Gs : List D → PS → (PS → Prop) → Prop} (h1 : DG X e g us G) (h2 : DGs X es gs ws Gs) (hs : (assignEach (e :: es) X.env).map (·.2) = assign e X.env :: (assignEach es X.env).map (·.2) := by rfl) : DGs X (e :: es) (gCons g gs) (us ++ ws) (mgsCons G Gs) := ⟨pgs_cons h1.p h2.p hs, simgs_cons h1.s h2.s⟩
theorem dg_tup (K : Frag) {k n : Nat} {gs : TGs} {us : List Nat} {Gs : List D → PS → (PS → Prop) → Prop} (hc : X.calm = true) (h : DGs X es gs us Gs) (hn : (assignEach es X.env).length = n := by rfl) (hst : (assignEach es X.env).findIdx? (·.1) = none := by rfl) (hK : X.K = K := by rfl) : DG X (.Tuple es k pos) (gTup K n gs) us (mgTup n Gs) := by subst hK; exact ⟨pg_tup hc h.p hn hst, simg_tup h.s⟩
theorem dg_sb {o : Expr} {to : TE} {Mo : ME} (ho : DE X W o to Mo) (hi : DE X W a ta Ma) (hs : ∀ v, assign (.Subscript o a pos) X.env v = (do
      let ov ← holding [v] (eval o X.env)
      let iv ← holding [v, ov] (eval a X.env)
      standAt pos
      holding [v, ov, iv] (setItem ov iv v)
      release [v, ov, iv] []) := by intro _; rfl) : DG X (.Subscript o a pos) (gSub to ta rSetL) [] (mgSub Mo Ma) := ⟨pg_sub ho.p hi.p set_list hs, simg_sub ho.s hi.s⟩
/-! comprehensions of two clauses, or with one `if` -/
section
variable {elt tg iter tg1 iter1 cnd : Expr} {scope : Scope} {wi wi1 : TI} {g g1 : TG} {uu uu1 : List Nat} {I I1 : MI} {G G1 : MG}
theorem de_lc2 {vs : List Nat} (own : List (Str × Nat)) (ev : own.map (·.2) = vs) (vs1 : List Nat) (hc : X.calm = true) (hN : X.N.Nodup) (hi : DI X W tg iter wi I) (ok : BlkOk X.N X.env.scope scope own) (hv : ∀ i ∈ vs1, i ∈ own.map (·.2))
    (hg : ∀ (s : Shared) (H : Hp) (C : Addr) (cl : List (Str × Addr)) (fp : List Addr), DG (X.blk s H scope (compEnvC scope cl C X.env) fp) tg g uu G) (hi1 : ∀ (s : Shared) (H : Hp) (C : Addr) (cl : List (Str × Addr)) (fp : List Addr), DI (X.blk s H scope (compEnvC scope cl C X.env) fp) W00 tg1 iter1 wi1 I1) (hg1 : ∀ (s : Shared) (H : Hp) (C : Addr) (cl : List (Str × Addr)) (fp : List Addr), DG (X.blk s H scope (compEnvC scope cl C X.env) fp) tg1 g1 uu1 G1) (he : ∀ (s : Shared) (H : Hp) (C : Addr) (cl : List (Str × Addr)) (fp : List Addr), DE (X.blk s H scope (compEnvC scope cl C X.env) fp) W00 elt te Me) (hu : ∀ u ∈ uu, u ∈ own.map (·.2)) (hu1 : ∀ u ∈ uu1, u ∈ vs1)
    (hs : ∀ x, foldedSetIterable iter X.env x = pure x := by intro _; rfl) (hs1 : ∀ env x, foldedSetIterable iter1 env x = pure x := by intro _ _; rfl) :
    DE X W (.ListComp elt [⟨tg, iter, [], 0⟩, ⟨tg1, iter1, [], 0⟩] scope pos) (tLc2 wi g tYes wi1 g1 tYes te vs vs1) (mLc2 I G I1 G1 Me vs vs1) :=
  by subst ev; exact ⟨pe_lc2 hc hN hi.p ok hv (fun s H C cl fp => (hg s H C cl fp).p) (fun _ _ _ _ _ => pts_nil) (fun s H C cl fp => (hi1 s H C cl fp).p) (fun s H C cl fp => (hg1 s H C cl fp).p) (fun _ _ _ _ _ => pts_nil) (fun s H C cl fp => (he s H C cl fp).p) hs hs1,
    sim_lc2 hi.s (hg X.s_0 X.H_0 0 [] []).s hu (hi1 X.s_0 X.H_0 0 [] []).s (hg1 X.s_0 X.H_0 0 [] []).s hu1 (he X.s_0 X.H_0 0 [] []).s⟩
theorem de_lc2M {vs : List Nat} (own : List (Str × Nat)) (ev : own.map (·.2) = vs) (vs1 : List Nat) (hc : X.calm = true) (hN : X.N.Nodup) (hi : DI X W tg iter wi I) (ok : BlkOk X.N X.env.scope scope own) (hv : ∀ i ∈ vs1, i ∈ own.map (·.2))
    (hg : ∀ (s : Shared) (H : Hp) (C : Addr) (cl : List (Str × Addr)) (fp : List Addr), DG (X.blk s H scope (compEnvC scope cl C X.env) fp) tg g uu G) (hi1 : ∀ (s : Shared) (H : Hp) (C : Addr) (cl : List (Str × Addr)) (fp : List Addr), DI (X.blk s H scope (compEnvC scope cl C X.env) fp) W00 tg1 iter1 wi1 I1) (hg1 : ∀ (s : Shared) (H : Hp) (C : Addr) (cl : List (Str × Addr)) (fp : List Addr), DG (X.blk s H scope (compEnvC scope cl C X.env) fp) tg1 g1 uu1 G1) (he : ∀ (s : Shared) (H : Hp) (C : Addr) (cl : List (Str × Addr)) (fp : List Addr), DE (X.blk s H scope (compEnvC scope cl C X.env) fp) W00 elt te Me) (hu : ∀ u ∈ uu, u ∈ own.map (·.2)) (hu1 : ∀ u ∈ uu1, u ∈ vs1)
    (hs : ∀ x, foldedSetIterable iter X.env x = pure x := by intro _; rfl) (hs1 : ∀ env x, foldedSetIterable iter1 env x = pure x := by intro _ _; rfl) :
    DE X W (.ListComp elt [⟨tg, iter, [], 0⟩, ⟨tg1, iter1, [], 0⟩] scope pos) (tLc2 wi g tYes wi1 g1 tYes te vs vs1) (mLc2M I G I1 G1 Me vs vs1) :=
  by subst ev; exact ⟨pe_lc2 hc hN hi.p ok hv (fun s H C cl fp => (hg s H C cl fp).p) (fun _ _ _ _ _ => pts_nil) (fun s H C cl fp => (hi1 s H C cl fp).p) (fun s H C cl fp => (hg1 s H C cl fp).p) (fun _ _ _ _ _ => pts_nil) (fun s H C cl fp => (he s H C cl fp).p) hs hs1,
    sim_lc2M hi.s (hg X.s_0 X.H_0 0 [] []).s hu (hi1 X.s_0 X.H_0 0 [] []).s (hg1 X.s_0 X.H_0 0 [] []).s hu1 (he X.s_0 X.H_0 0 [] []).s⟩
theorem ds_setLc2 (i : Nat) {y : Str} {py spos : Pos} {vs : List Nat} (own : List (Str × Nat)) (ev : own.map (·.2) = vs) (vs1 : List Nat) (hc : X.calm = true) (hN : X.N.Nodup) (hi : DI X W tg iter wi I) (ok : BlkOk X.N X.env.scope scope own) (hv : ∀ i ∈ vs1, i ∈ own.map (·.2))
    (hg : ∀ (s : Shared) (H : Hp) (C : Addr) (cl : List (Str × Addr)) (fp : List Addr), DG (X.blk s H scope (compEnvC scope cl C X.env) fp) tg g uu G) (hi1 : ∀ (s : Shared) (H : Hp) (C : Addr) (cl : List (Str × Addr)) (fp : List Addr), DI (X.blk s H scope (compEnvC scope cl C X.env) fp) W00 tg1 iter1 wi1 I1) (hg1 : ∀ (s : Shared) (H : Hp) (C : Addr) (cl : List (Str × Addr)) (fp : List Addr), DG (X.blk s H scope (compEnvC scope cl C X.env) fp) tg1 g1 uu1 G1) (he : ∀ (s : Shared) (H : Hp) (C : Addr) (cl : List (Str × Addr)) (fp : List Addr), DE (X.blk s H scope (compEnvC scope cl C X.env) fp) W00 elt te Me) (hu : ∀ u ∈ uu, u ∈ own.map (·.2)) (hu1 : ∀ u ∈ uu1, u ∈ vs1)
    (hyl : X.env.scope.names.lookup y = some .local) (hsw : swapsWith (.ListComp elt [⟨tg, iter, [], 0⟩, ⟨tg1, iter1, [], 0⟩] scope pos) (some (.Name y py)) spos.line X.env = pure true)
    (hs : ∀ x, foldedSetIterable iter X.env x = pure x := by intro _; rfl) (hs1 : ∀ env x, foldedSetIterable iter1 env x = pure x := by intro _ _; rfl) (hy : X.N[i]? = some y := by rfl) :
    DS X W (.Assign [.Name y py] (.ListComp elt [⟨tg, iter, [], 0⟩, ⟨tg1, iter1, [], 0⟩] scope pos) spos) (tAsg (tLc2 wi g tYes wi1 g1 tYes te vs vs1) (gName i)) (mAsg (mLc2 I G I1 G1 Me vs vs1) (mgName i)) :=
  by subst ev; exact ⟨ps_setLc2 hc hN hy hyl hsw hi.p ok hv (fun s H C cl fp => (hg s H C cl fp).p) (fun _ _ _ _ _ => pts_nil) (fun s H C cl fp => (hi1 s H C cl fp).p) (fun s H C cl fp => (hg1 s H C cl fp).p) (fun _ _ _ _ _ => pts_nil) (fun s H C cl fp => (he s H C cl fp).p) hs hs1,
    sim_asg (sim_lc2 hi.s (hg X.s_0 X.H_0 0 [] []).s hu (hi1 X.s_0 X.H_0 0 [] []).s (hg1 X.s_0 X.H_0 0 [] []).s hu1 (he X.s_0 X.H_0 0 [] []).s) (simg_name i)⟩
theorem ds_setLc2M (i : Nat) {y : Str} {py spos : Pos} {vs : List Nat} (own : List (Str × Nat)) (ev : own.map (·.2) = vs) (vs1 : List Nat) (hc : X.calm = true) (hN : X.N.Nodup) (hi : DI X W tg iter wi I) (ok : BlkOk X.N X.env.scope scope own) (hv : ∀ i ∈ vs1, i ∈ own.map (·.2))
    (hg : ∀ (s : Shared) (H : Hp) (C : Addr) (cl : List (Str × Addr)) (fp : List Addr), DG (X.blk s H scope (compEnvC scope cl C X.env) fp) tg g uu G) (hi1 : ∀ (s : Shared) (H : Hp) (C : Addr) (cl : List (Str × Addr)) (fp : List Addr), DI (X.blk s H scope (compEnvC scope cl C X.env) fp) W00 tg1 iter1 wi1 I1) (hg1 : ∀ (s : Shared) (H : Hp) (C : Addr) (cl : List (Str × Addr)) (fp : List Addr), DG (X.blk s H scope (compEnvC scope cl C X.env) fp) tg1 g1 uu1 G1) (he : ∀ (s : Shared) (H : Hp) (C : Addr) (cl : List (Str × Addr)) (fp : List Addr), DE (X.blk s H scope (compEnvC scope cl C X.env) fp) W00 elt te Me) (hu : ∀ u ∈ uu, u ∈ own.map (·.2)) (hu1 : ∀ u ∈ uu1, u ∈ vs1)
    (hyl : X.env.scope.names.lookup y = some .local) (hsw : swapsWith (.ListComp elt [⟨tg, iter, [], 0⟩, ⟨tg1, iter1, [], 0⟩] scope pos) (some (.Name y py)) spos.line X.env = pure true)
    (hs : ∀ x, foldedSetIterable iter X.env x = pure x := by intro _; rfl) (hs1 : ∀ env x, foldedSetIterable iter1 env x = pure x := by intro _ _; rfl) (hy : X.N[i]? = some y := by rfl) :
    DS X W (.Assign [.Name y py] (.ListComp elt [⟨tg, iter, [], 0⟩, ⟨tg1, iter1, [], 0⟩] scope pos) spos) (tAsg (tLc2 wi g tYes wi1 g1 tYes te vs vs1) (gName i)) (mAsg (mLc2M I G I1 G1 Me vs vs1) (mgName i)) :=
  by subst ev; exact ⟨ps_setLc2 hc hN hy hyl hsw hi.p ok hv (fun s H C cl fp => (hg s H C cl fp).p) (fun _ _ _ _ _ => pts_nil) (fun s H C cl fp => (hi1 s H C cl fp).p) (fun s H C cl fp => (hg1 s H C cl fp).p) (fun _ _ _ _ _ => pts_nil) (fun s H C cl fp => (he s H C cl fp).p) hs hs1,
    sim_asg (sim_lc2M hi.s (hg X.s_0 X.H_0 0 [] []).s hu (hi1 X.s_0 X.H_0 0 [] []).s (hg1 X.s_0 X.H_0 0 [] []).s hu1 (he X.s_0 X.H_0 0 [] []).s) (simg_name i)⟩
theorem de_lci {vs : List Nat} (own : List (Str × Nat)) (ev : own.map (·.2) = vs) (hc : X.calm = true) (hN : X.N.Nodup) (hi : DI X W tg iter wi I) (ok : BlkOk X.N X.env.scope scope own)
    (hg : ∀ (s : Shared) (H : Hp) (C : Addr) (cl : List (Str × Addr)) (fp : List Addr), DG (X.blk s H scope (compEnvC scope cl C X.env) fp) tg g uu G) (ht : ∀ (s : Shared) (H : Hp) (C : Addr) (cl : List (Str × Addr)) (fp : List Addr), DT (X.blk s H scope (compEnvC scope cl C X.env) fp) W00 cnd t Mt) (he : ∀ (s : Shared) (H : Hp) (C : Addr) (cl : List (Str × Addr)) (fp : List Addr), DE (X.blk s H scope (compEnvC scope cl C X.env) fp) W00 elt te Me) (hu : ∀ u ∈ uu, u ∈ own.map (·.2)) (hs : ∀ x, foldedSetIterable iter X.env x = pure x := by intro _; rfl) :
    DE X W (.ListComp elt [⟨tg, iter, [cnd], 0⟩] scope pos) (tLc wi g t te vs) (mLc I G Mt Me vs) :=
  by subst ev; exact de_lc own rfl hc hN hi ok hg (fun s H C cl fp => pts_one (ht s H C cl fp).p) (ht X.s_0 X.H_0 0 [] []).s he hu hs
theorem de_lciM {vs : List Nat} (own : List (Str × Nat)) (ev : own.map (·.2) = vs) (hc : X.calm = true) (hN : X.N.Nodup) (hi : DI X W tg iter wi I) (ok : BlkOk X.N X.env.scope scope own)
    (hg : ∀ (s : Shared) (H : Hp) (C : Addr) (cl : List (Str × Addr)) (fp : List Addr), DG (X.blk s H scope (compEnvC scope cl C X.env) fp) tg g uu G) (ht : ∀ (s : Shared) (H : Hp) (C : Addr) (cl : List (Str × Addr)) (fp : List Addr), DT (X.blk s H scope (compEnvC scope cl C X.env) fp) W00 cnd t Mt) (he : ∀ (s : Shared) (H : Hp) (C : Addr) (cl : List (Str × Addr)) (fp : List Addr), DE (X.blk s H scope (compEnvC scope cl C X.env) fp) W00 elt te Me) (hu : ∀ u ∈ uu, u ∈ own.map (·.2)) (hs : ∀ x, foldedSetIterable iter X.env x = pure x := by intro _; rfl) :
    DE X W (.ListComp elt [⟨tg, iter, [cnd], 0⟩] scope pos) (tLc wi g t te vs) (mLcM I G Mt Me vs) :=
  by subst ev; exact de_lcM own rfl hc hN hi ok hg (fun s H C cl fp => pts_one (ht s H C cl fp).p) (ht X.s_0 X.H_0 0 [] []).s he hu hs
theorem ds_setLci (i : Nat) {y : Str} {py spos : Pos} {vs : List Nat} (own : List (Str × Nat)) (ev : own.map (·.2) = vs) (hc : X.calm = true) (hN : X.N.Nodup) (hi : DI X W tg iter wi I) (ok : BlkOk X.N X.env.scope scope own)
    (hg : ∀ (s : Shared) (H : Hp) (C : Addr) (cl : List (Str × Addr)) (fp : List Addr), DG (X.blk s H scope (compEnvC scope cl C X.env) fp) tg g uu G) (ht : ∀ (s : Shared) (H : Hp) (C : Addr) (cl : List (Str × Addr)) (fp : List Addr), DT (X.blk s H scope (compEnvC scope cl C X.env) fp) W00 cnd t Mt) (he : ∀ (s : Shared) (H : Hp) (C : Addr) (cl : List (Str × Addr)) (fp : List Addr), DE (X.blk s H scope (compEnvC scope cl C X.env) fp) W00 elt te Me) (hu : ∀ u ∈ uu, u ∈ own.map (·.2))
    (hyl : X.env.scope.names.lookup y = some .local) (hsw : swapsWith (.ListComp elt [⟨tg, iter, [cnd], 0⟩] scope pos) (some (.Name y py)) spos.line X.env = pure true) (hs : ∀ x, foldedSetIterable iter X.env x = pure x := by intro _; rfl) (hy : X.N[i]? = some y := by rfl) :
    DS X W (.Assign [.Name y py] (.ListComp elt [⟨tg, iter, [cnd], 0⟩] scope pos) spos) (tAsg (tLc wi g t te vs) (gName i)) (mAsg (mLc I G Mt Me vs) (mgName i)) :=
  by subst ev; exact ds_setLc i own rfl hc hN hi ok hg (fun s H C cl fp => pts_one (ht s H C cl fp).p) (ht X.s_0 X.H_0 0 [] []).s he hu hyl hsw hs hy
theorem ds_setLciM (i : Nat) {y : Str} {py spos : Pos} {vs : List Nat} (own : List (Str × Nat)) (ev : own.map (·.2) = vs) (hc : X.calm = true) (hN : X.N.Nodup) (hi : DI X W tg iter wi I) (ok : BlkOk X.N X.env.scope scope own)
    (hg : ∀ (s : Shared) (H : Hp) (C : Addr) (cl : List (Str × Addr)) (fp : List Addr), DG (X.blk s H scope (compEnvC scope cl C X.env) fp) tg g uu G) (ht : ∀ (s : Shared) (H : Hp) (C : Addr) (cl : List (Str × Addr)) (fp : List Addr), DT (X.blk s H scope (compEnvC scope cl C X.env) fp) W00 cnd t Mt) (he : ∀ (s : Shared) (H : Hp) (C : Addr) (cl : List (Str × Addr)) (fp : List Addr), DE (X.blk s H scope (compEnvC scope cl C X.env) fp) W00 elt te Me) (hu : ∀ u ∈ uu, u ∈ own.map (·.2))
    (hyl : X.env.scope.names.lookup y = some .local) (hsw : swapsWith (.ListComp elt [⟨tg, iter, [cnd], 0⟩] scope pos) (some (.Name y py)) spos.line X.env = pure true) (hs : ∀ x, foldedSetIterable iter X.env x = pure x := by intro _; rfl) (hy : X.N[i]? = some y := by rfl) :
    DS X W (.Assign [.Name y py] (.ListComp elt [⟨tg, iter, [cnd], 0⟩] scope pos) spos) (tAsg (tLc wi g t te vs) (gName i)) (mAsg (mLcM I G Mt Me vs) (mgName i)) :=
  by subst ev; exact ds_setLcM i own rfl hc hN hi ok hg (fun s H C cl fp => pts_one (ht s H C cl fp).p) (ht X.s_0 X.H_0 0 [] []).s he hu hyl hsw hs hy
end
end
end Mp
namespace Mp
open PySem PySem.Spec PyProof.Rows L2
theorem u1 {k : Nat} {A : Around} (r : Room k A) : A.units + 1 < cLine := by have := r.units; omega
end Mp
namespace Mp
open PySem PySem.Spec PyProof.Rows L2
section
variable (K : Frag) {X : Cx}
theorem op_addK (hK : X.K = K := by rfl) : OpR X (binaryOp .Add) (rAddA K) := by subst hK; exact op_addA
theorem op_eqK {k : Nat} (hr : Room k X.A) (hK : X.K = K := by rfl) : OpR X (compareOp .Eq) (rEqD K) := by subst hK; exact op_eqD hr.units
theorem op_neK {k : Nat} (hr : Room k X.A) (hK : X.K = K := by rfl) : OpR X (compareOp .NotEq) (rNeD K) := by subst hK; exact op_neD hr.units
theorem op_inK (hK : X.K = K := by rfl) : OpR X (compareOp .In) (rInA K false) := by subst hK; exact op_inA
theorem op_notInK (hK : X.K = K := by rfl) : OpR X (compareOp .NotIn) (rInA K true) := by subst hK; exact op_notInA
theorem call_lenK (hK : X.K = K := by rfl) : CallR X (.builtin "len") (fun xs H Q => ∃ x n, xs = [x] ∧ LenV K x H n ∧ Q (.int n) H) := by subst hK; exact call_len
theorem call_isiK' (hK : X.K = K := by rfl) : CallR X (.builtin "isinstance") (rIsiA K) := by subst hK; exact call_isiA
theorem call_listK (hK : X.K = K := by rfl) : CallR X (.type "list") (rListA K) := by subst hK; exact call_list_of
theorem call_tupleK (hK : X.K = K := by rfl) : CallR X (.type "tuple") (rTupleA K) := by subst hK; exact call_tuple_of
end
end Mp

set_option Elab.async false
set_option linter.all false
set_option maxRecDepth 100000
set_option maxHeartbeats 4000000
/-! Mp11: the end. -/
namespace Mp
open PySem PySem.Spec PyProof.Rows L2
abbrev EndAtS := LamX.LawAtS
theorem RepL_ints {K : Frag} {A : Av} {H : Hp} : ∀ ns : List Int, RepL K A H (ns.map D.int) (ns.map V.int)
  | [] => rfl
  | n :: ns => ⟨V.int n, ns.map V.int, rfl, rfl, RepL_ints ns⟩
theorem cx_end {P : Program} {w : World} {H : Hp} {s : Shared} {e : Value} {s' : Shared} (z : L2.CX P w [] H s (fun _ _ _ => False) e s') : False := by
  obtain ⟨a, B, H', cls, d, _, _, _, _, _, _, _, z⟩ := z
  exact z
theorem script_start {K : Frag} {H : Hp} {a : Addr} {ns : List Int} {M : MF} (hS : SqL K H a (ns.map V.int)) (m : M [] [.d (.fl (ns.map D.int))] (fun s _ => s = .d (.bl true)) (fun _ _ => False)) :
    spM K 1 false M [.ref a] H (fun v _ => v = .bl true) (fun _ _ _ => False) := by
  refine ⟨rfl, ⟨[], fun _ => False⟩, [], _, _, _, ?_, ?_, m, fun s hp' α' H' v r e w sr _ => ?_, fun x hp' α' H' c dd z _ _ _ => z⟩
  · exact ⟨rfl, fun _ _ _ h => by simp at h, fun _ _ _ h => by simp at h, fun _ _ _ _ _ _ h => by simp at h, fun _ h => h.elim⟩
  · refine .cons ⟨a, ns.map V.int, rfl, ?_, RepL_ints ns⟩ .nil
    rcases hS with h | h
    · exact .inl ⟨h, fun z => z.elim (fun ⟨_, _, _, h, _⟩ => by simp at h) id⟩
    · exact .inr (.inr h)
  · subst r
    exact sr
end Mp

set_option Elab.async false
set_option linter.all false
set_option maxRecDepth 100000
set_option maxHeartbeats 4000000
/-! Mp12: to run a mirror. -/
namespace Mp
open PySem PySem.Spec PyProof.Rows L2
/-- not by unfolding -/
theorem nr {α : Sort _} {a b : α} (h : a = b) : a = b := h
/-- keeps simp out of what depends on it -/
structure Tg {α : Type} (a : α) : Type where
/-- .. -/
def onH {τ : Type} (o : Option τ) (k : τ → Prop) (_ : Tg k) : Prop := on o k
def brH (b : Bool) (A B : Prop) (_ : Tg (A, B)) : Prop := if b = true then A else B
def mfH (M : MF) (hp : List O) (ss : List S) (R : S → List O → Prop) (Xp : MX) (_ : Tg (M, R, Xp)) : Prop := M hp ss R Xp
def forH (v : Option Wk) (ds : List D) (G : MG) (Mb : MS) (hp : List O) (env : List (Option S)) (n : Nat) (k : MK) (_ : Tg (G, Mb, k)) : Prop := forL v ds G Mb ds ⟨hp, env, n⟩ k
def whileH (Mc : MT) (Mb : MS) (hp : List O) (env : List (Option S)) (n : Nat) (k : MK) (_ : Tg (Mc, Mb, k)) : Prop := mWhile Mc Mb ⟨hp, env, n⟩ k
def compH (v : Option Wk) (ds : List D) (G : MG) (Mt : MT) (Me : ME) (env : List (Option S)) (hp : List O) (R : List D → List O → Prop) (_ : Tg (G, Mt, Me, R)) : Prop := compL v ds G Mt Me env ds [] hp R
def compH2 (v : Option Wk) (ds : List D) (G : MG) (I1 : MI) (G1 : MG) (Me : ME) (vs1 : List Nat) (env : List (Option S)) (hp : List O) (R : List D → List O → Prop) (_ : Tg (G, I1, G1, Me, R)) : Prop := compL2 v ds G I1 G1 Me vs1 env ds [] hp R
def holdH (P : Prop) (_ : Tg P) : Prop := P
@[simp ↓] theorem onH_some {τ : Type} {x : τ} {k : τ → Prop} {t : Tg k} : onH (some x) k t = k x := nr rfl
@[simp ↓] theorem onH_none {τ : Type} {k : τ → Prop} {t : Tg k} : onH none k t = False := nr rfl
@[simp ↓] theorem brH_true {A B : Prop} {t : Tg (A, B)} : brH true A B t = A := nr rfl
@[simp ↓] theorem brH_false {A B : Prop} {t : Tg (A, B)} : brH false A B t = B := nr rfl
theorem on_H {τ : Type} {o : Option τ} {k : τ → Prop} : on o k = onH o k .mk := rfl
theorem br_H {b : Bool} {A B : Prop} : (if b = true then A else B) = brH b A B .mk := rfl
theorem mfH_of {M : MF} {hp : List O} {ss : List S} {R : S → List O → Prop} {Xp : MX} {t : Tg (M, R, Xp)} (h : M hp ss R Xp) : mfH M hp ss R Xp t := h
theorem brH_of {b : Bool} {A B : Prop} {t : Tg (A, B)} (h1 : b = true → A) (h2 : b = false → B) : brH b A B t := by
  cases b
  · exact h2 rfl
  · exact h1 rfl
theorem onH_of {τ : Type} {o : Option τ} {k : τ → Prop} {t : Tg k} {x : τ} (e : o = some x) (h : k x) : onH o k t := by subst e; exact h
section
variable {hp : List O} {env : List (Option S)} {n : Nat} {R : S → List O → Prop} {Rb : Bool → List O → Prop} {Rl : List S → List O → Prop} {Xp : MX} {Ma Mb Mc : ME} {Ta Tb : MT} {La : MA} {Sa Sb : MS}
  {nx bk ct : PS → Prop} {rt : S → List O → Prop} {ex : MX}
@[simp ↓] theorem x_var {i : Nat} : mVar i ⟨hp, env, n⟩ R Xp = onH (env[i]?.join) (fun v => R v hp) .mk := by
  show (match env[i]? with | some (some v) => R v hp | _ => False) = on (env[i]?.join) fun v => R v hp
  cases env[i]? with
  | none => rfl
  | some o => cases o <;> rfl
@[simp ↓] theorem x_c {d : D} : mC d ⟨hp, env, n⟩ R Xp = R (.d d) hp := nr rfl
@[simp ↓] theorem x_2 {f : F2} : m2 f Ma Mb ⟨hp, env, n⟩ R Xp = Ma ⟨hp, env, n⟩ (fun x hp1 => Mb ⟨hp1, env, n⟩ (fun y hp2 => onH (val hp2 x) (fun d1 => onH (val hp2 y) (fun d2 => f d1 d2 fun d => R (.d d) hp2) .mk) .mk) Xp) Xp := nr rfl
@[simp ↓] theorem x_1 {f : F1} : m1 f Ma ⟨hp, env, n⟩ R Xp = Ma ⟨hp, env, n⟩ (fun x hp1 => onH (val hp1 x) (fun d1 => f d1 fun d => R (.d d) hp1) .mk) Xp := nr rfl
@[simp ↓] theorem x_nil : mNil ⟨hp, env, n⟩ Rl Xp = Rl [] hp := nr rfl
@[simp ↓] theorem x_cons : mCons Ma La ⟨hp, env, n⟩ Rl Xp = Ma ⟨hp, env, n⟩ (fun x hp1 => La ⟨hp1, env, n⟩ (fun xs hp2 => Rl (x :: xs) hp2) Xp) Xp := nr rfl
@[simp ↓] theorem x_N {f : FN} : mN f La ⟨hp, env, n⟩ R Xp = La ⟨hp, env, n⟩ (fun xs hp1 => onH (vals hp1 xs) (fun ds => f ds fun d => R (.d d) hp1) .mk) Xp := nr rfl
@[simp ↓] theorem x_tup : mTup La ⟨hp, env, n⟩ R Xp = La ⟨hp, env, n⟩ (fun xs hp1 => onH (allD xs) (fun ds => ds.length ≤ sizeLine ∧ R (.d (.tup ds)) hp1) .mk) Xp := nr rfl
@[simp ↓] theorem x_lst : mLst La ⟨hp, env, n⟩ R Xp = La ⟨hp, env, n⟩ (fun xs hp1 => onH (allD xs) (fun ds => ds.length ≤ sizeLine ∧ R (.d (.lst ds)) hp1) .mk) Xp := nr rfl
@[simp ↓] theorem x_lstM : mLstM La ⟨hp, env, n⟩ R Xp = La ⟨hp, env, n⟩ (fun xs hp1 => onH (allD xs) (fun ds => ds.length ≤ sizeLine ∧ R (.mu hp1.length) (hp1 ++ [.lst ds])) .mk) Xp := nr rfl
@[simp ↓] theorem x_listM : mListM La ⟨hp, env, n⟩ R Xp = La ⟨hp, env, n⟩ (fun xs hp1 => onH (vals hp1 xs) (fun ds => one ds fun d => onH (items d) (fun ys => R (.mu hp1.length) (hp1 ++ [.lst ys])) .mk) .mk) Xp := nr rfl
@[simp ↓] theorem x_test : mTest Ma ⟨hp, env, n⟩ Rb Xp = Ma ⟨hp, env, n⟩ (fun x hp1 => onH (asB x) (fun b => Rb b hp1) .mk) Xp := nr rfl
@[simp ↓] theorem x_and : mAnd Ta Tb ⟨hp, env, n⟩ Rb Xp = Ta ⟨hp, env, n⟩ (fun b hp1 => brH b (Tb ⟨hp1, env, n⟩ Rb Xp) (Rb false hp1) .mk) Xp := nr rfl
@[simp ↓] theorem x_or : mOr Ta Tb ⟨hp, env, n⟩ Rb Xp = Ta ⟨hp, env, n⟩ (fun b hp1 => brH b (Rb true hp1) (Tb ⟨hp1, env, n⟩ Rb Xp) .mk) Xp := nr rfl
@[simp ↓] theorem x_not : mNot Ta ⟨hp, env, n⟩ Rb Xp = Ta ⟨hp, env, n⟩ (fun b hp1 => Rb (!b) hp1) Xp := nr rfl
@[simp ↓] theorem x_andV : mAndV Ma Mb ⟨hp, env, n⟩ R Xp = Ma ⟨hp, env, n⟩ (fun x hp1 => onH (asB x) (fun b => brH b (Mb ⟨hp1, env, n⟩ R Xp) (R (.d (.bl false)) hp1) .mk) .mk) Xp := nr rfl
@[simp ↓] theorem x_orV : mOrV Ma Mb ⟨hp, env, n⟩ R Xp = Ma ⟨hp, env, n⟩ (fun x hp1 => onH (asB x) (fun b => brH b (R (.d (.bl true)) hp1) (Mb ⟨hp1, env, n⟩ R Xp) .mk) .mk) Xp := nr rfl
@[simp ↓] theorem x_notV : mNotV Ma ⟨hp, env, n⟩ R Xp = Ma ⟨hp, env, n⟩ (fun x hp1 => onH (asB x) (fun b => R (.d (.bl (!b))) hp1) .mk) Xp := nr rfl
@[simp ↓] theorem x_if : mIf Ta Ma Mb ⟨hp, env, n⟩ R Xp = Ta ⟨hp, env, n⟩ (fun b hp1 => brH b (Ma ⟨hp1, env, n⟩ R Xp) (Mb ⟨hp1, env, n⟩ R Xp) .mk) Xp := nr rfl
@[simp ↓] theorem x_chain {f g : F2} : mChain f g Ma Mb Mc ⟨hp, env, n⟩ R Xp = Ma ⟨hp, env, n⟩ (fun x hp1 => Mb ⟨hp1, env, n⟩ (fun y hp2 => onH (val hp2 x) (fun d1 => onH (val hp2 y) (fun d2 => f d1 d2 fun d =>
  onH (asB (.d d)) (fun b => brH b (Mc ⟨hp2, env, n⟩ (fun z hp3 => onH (val hp3 y) (fun d2 => onH (val hp3 z) (fun d3 => g d2 d3 fun d => R (.d d) hp3) .mk) .mk) Xp) (R (.d (.bl false)) hp2) .mk) .mk) .mk) .mk) Xp) Xp := nr rfl
@[simp ↓] theorem x_asg {G : MG} : mAsg Ma G ⟨hp, env, n⟩ ⟨nx, bk, ct, rt, ex⟩ = Ma ⟨hp, env, n⟩ (fun v hp' => G v ⟨hp', env, n⟩ nx) ex := nr rfl
@[simp ↓] theorem x_gName {i : Nat} {v : S} : mgName i v ⟨hp, env, n⟩ nx = nx ⟨hp, env.set i (some v), n⟩ := nr rfl
@[simp ↓] theorem x_drop : mDrop Ma ⟨hp, env, n⟩ ⟨nx, bk, ct, rt, ex⟩ = Ma ⟨hp, env, n⟩ (fun _ hp' => nx ⟨hp', env, n⟩) ex := nr rfl
@[simp ↓] theorem x_ret : mRet Ma ⟨hp, env, n⟩ ⟨nx, bk, ct, rt, ex⟩ = Ma ⟨hp, env, n⟩ rt ex := nr rfl
@[simp ↓] theorem x_retN : mRetN ⟨hp, env, n⟩ ⟨nx, bk, ct, rt, ex⟩ = rt (.d .non) hp := nr rfl
@[simp ↓] theorem x_next : mNext ⟨hp, env, n⟩ ⟨nx, bk, ct, rt, ex⟩ = nx ⟨hp, env, n⟩ := nr rfl
@[simp ↓] theorem x_break : mBreak ⟨hp, env, n⟩ ⟨nx, bk, ct, rt, ex⟩ = bk ⟨hp, env, n⟩ := nr rfl
@[simp ↓] theorem x_cont : mCont ⟨hp, env, n⟩ ⟨nx, bk, ct, rt, ex⟩ = ct ⟨hp, env, n⟩ := nr rfl
@[simp ↓] theorem x_seq : mSeq Sa Sb ⟨hp, env, n⟩ ⟨nx, bk, ct, rt, ex⟩ = Sa ⟨hp, env, n⟩ ⟨fun s' => Sb s' ⟨nx, bk, ct, rt, ex⟩, bk, ct, rt, ex⟩ := nr rfl
@[simp ↓] theorem x_ifS : mIfS Ta Sa Sb ⟨hp, env, n⟩ ⟨nx, bk, ct, rt, ex⟩ = Ta ⟨hp, env, n⟩ (fun b hp' => brH b (Sa ⟨hp', env, n⟩ ⟨nx, bk, ct, rt, ex⟩) (Sb ⟨hp', env, n⟩ ⟨nx, bk, ct, rt, ex⟩) .mk) ex := nr rfl
def intO : Option (Option S) → Option Int
  | some (some (.d (.int a))) => some a
  | _ => none
@[simp] theorem intO_some {a : Int} : intO (some (some (.d (.int a)))) = some a := rfl
@[simp ↓] theorem x_aug {i : Nat} {f : Int → Int → Int} : mAug i f Ma ⟨hp, env, n⟩ ⟨nx, bk, ct, rt, ex⟩ = onH (intO env[i]?) (fun a => Ma ⟨hp, env, n⟩ (fun v hp' => onH (val hp' v) (fun d => onH (asI d) (fun b => nx ⟨hp', env.set i (some (.d (.int (f a b)))), n⟩) .mk) .mk) ex) .mk := nr rfl
@[simp ↓] theorem x_while {Mt : MT} {Mb : MS} {k : MK} : mWhile Mt Mb ⟨hp, env, n⟩ k = whileH Mt Mb hp env n k .mk := nr rfl
@[simp ↓] theorem x_for {I : MI} {G : MG} {Mb : MS} {k : MK} : mFor I G Mb ⟨hp, env, n⟩ k = I ⟨hp, env, n⟩ (fun v ds hp' => forH v ds G Mb hp' env n k .mk) k.ex := nr rfl
/-- what is walked -/
def walkO (hp : List O) : S → Option (Option Wk × List D)
  | .d d => (items d).map fun ds => (none, ds)
  | .mu m => match hp[m]? with
    | some (.lst ds) => some (some (.mu m), ds)
    | _ => none
  | .ob n k => (nodeDs hp n k).map fun ds => (some (.ob n k), ds)
  | .exn _ _ _ _ => none
theorem walked_O {v : S} {Rw : Option Wk → List D → List O → Prop} : walked hp v Rw = on (walkO hp v) fun p => Rw p.1 p.2 hp := by
  cases v with
  | d d =>
    show on (items d) _ = on ((items d).map _) _
    cases items d <;> rfl
  | mu m =>
    show (match hp[m]? with | some (.lst ds) => Rw (some (.mu m)) ds hp | _ => False) = on (match hp[m]? with | some (.lst ds) => some (some (Wk.mu m), ds) | _ => none) _
    cases hp[m]? with
    | none => rfl
    | some o => cases o <;> rfl
  | ob n k =>
    show on (nodeDs hp n k) _ = on ((nodeDs hp n k).map _) _
    cases nodeDs hp n k <;> rfl
  | exn _ _ _ _ => rfl
variable {Rw : Option Wk → List D → List O → Prop}
@[simp ↓] theorem x_iSq : miSq Ma ⟨hp, env, n⟩ Rw Xp = Ma ⟨hp, env, n⟩ (fun v hp' => onH (walkO hp' v) (fun p => Rw p.1 p.2 hp') .mk) Xp := by
  show Ma ⟨hp, env, n⟩ (fun v hp' => walked hp' v Rw) Xp = _
  congr 1
  funext v hp'
  exact walked_O
@[simp ↓] theorem x_iRng {f : List Int → (Int → Int → Nat → Prop) → Prop} : miRng f La ⟨hp, env, n⟩ Rw Xp = La ⟨hp, env, n⟩ (fun vs hp' => onH (vals hp' vs) (fun ds => onH (intsD ds) (fun l => f l fun lo c n => Rw none (rng lo c n) hp') .mk) .mk) Xp := nr rfl
@[simp] theorem walkO_d {d : D} : walkO hp (.d d) = (items d).map fun ds => (none, ds) := rfl
def lstO : Option O → Option (List D)
  | some (.lst ds) => some ds
  | _ => none
def dctO : Option O → Option (List (Key × D))
  | some (.dct ds) => some ds
  | _ => none
@[simp] theorem lstO_some {ds : List D} : lstO (some (.lst ds)) = some ds := rfl
@[simp] theorem dctO_some {ds : List (Key × D)} : dctO (some (.dct ds)) = some ds := rfl
@[simp] theorem lstAt_O {m : Nat} : lstAt hp m = lstO hp[m]? := rfl
@[simp] theorem dctAt_O {m : Nat} : dctAt hp m = dctO hp[m]? := rfl
@[simp] theorem walkO_ob {n k : Nat} : walkO hp (.ob n k) = (nodeDs hp n k).map fun ds => (some (.ob n k), ds) := rfl
theorem val_ob {n k : Nat} : val hp (.ob n k) = (nodeDs hp n k).map D.lst := by
  show (match nodeAt hp n k with | some (.lst xs) => (dsOf xs).map D.lst | _ => none) = _
  unfold nodeDs
  cases nodeAt hp n k with
  | none => rfl
  | some g => cases g <;> rfl
@[simp] theorem walkO_mu {m : Nat} : walkO hp (.mu m) = (lstO hp[m]?).map fun ds => (some (.mu m), ds) := by
  show (match hp[m]? with | some (.lst ds) => some (some (Wk.mu m), ds) | _ => none) = _
  cases hp[m]? with
  | none => rfl
  | some o => cases o <;> rfl
@[simp] theorem val_O {m : Nat} : val hp (.mu m) = (lstO hp[m]?).map D.lst := by
  show (match hp[m]? with | some (.lst ds) => some (D.lst ds) | _ => none) = _
  cases hp[m]? with
  | none => rfl
  | some o => cases o <;> rfl
@[simp] theorem vals_nil : vals hp [] = some [] := rfl
def c2 {τ : Type} : Option τ → Option (List τ) → Option (List τ)
  | some a, some b => some (a :: b)
  | _, _ => none
@[simp] theorem c2_some {τ : Type} {a : τ} {b : List τ} : c2 (some a) (some b) = some (a :: b) := rfl
@[simp] theorem vals_cons {x : S} {xs : List S} : vals hp (x :: xs) = c2 (val hp x) (vals hp xs) := by
  show (match val hp x, vals hp xs with | some d, some ds => some (d :: ds) | _, _ => none) = _
  cases val hp x <;> cases vals hp xs <;> rfl
@[simp] theorem allD_nil : allD [] = some [] := rfl
@[simp] theorem allD_d {x : D} {xs : List S} : allD (.d x :: xs) = c2 (some x) (allD xs) := by
  show (match allD xs with | some ds => some (x :: ds) | _ => none) = _
  cases allD xs <;> rfl
@[simp] theorem asB_bl {b : Bool} : asB (.d (.bl b)) = some b := rfl
@[simp] theorem intsD_nil : intsD [] = some [] := rfl
@[simp] theorem intsD_int {i : Int} {r : List D} : intsD (.int i :: r) = c2 (some i) (intsD r) := by
  show ((intsD r).bind fun l => some (i :: l)) = _
  cases intsD r <;> rfl
@[simp] theorem args_t {vs : List S} : args true hp vs = vals hp vs := rfl
@[simp] theorem args_f {vs : List S} : args false hp vs = allD vs := rfl
@[simp ↓] theorem x_meth {x : Bool} {f : FM} : mMeth x f Ma La ⟨hp, env, n⟩ R Xp = Ma ⟨hp, env, n⟩ (fun o hp1 => onH (asMu o) (fun m => onH (lstO hp1[m]?) (fun _ => La ⟨hp1, env, n⟩ (fun vs hp2 => onH (lstO hp2[m]?) (fun ds => onH (args x hp2 vs) (fun es => f ds es fun d ds' => R (.d d) (hp2.set m (.lst ds'))) .mk) .mk) Xp) .mk) .mk) Xp := nr rfl
@[simp ↓] theorem x_gSub {v : S} : mgSub Ma Mb v ⟨hp, env, n⟩ nx = Ma ⟨hp, env, n⟩ (fun o hp1 => Mb ⟨hp1, env, n⟩ (fun i hp2 => onH (asMu o) (fun m => onH (lstO hp2[m]?) (fun ds => onH (isD i) (fun di => onH (asI di) (fun k => onH (ixN ds.length k) (fun j => onH (isD v) (fun d => nx ⟨hp2.set m (.lst (ds.set j d)), env, n⟩) .mk) .mk) .mk) .mk) .mk) .mk) noX) noX := nr rfl
@[simp ↓] theorem x_dget : mDGet Ma Mb ⟨hp, env, n⟩ R Xp = Ma ⟨hp, env, n⟩ (fun o hp1 => Mb ⟨hp1, env, n⟩ (fun y hp2 => onH (asMu o) (fun m => onH (dctO hp2[m]?) (fun l => onH (isD y) (fun dy => onH (keyD dy) (fun k => onH (getK l k) (fun d => R (.d d) hp2) .mk) .mk) .mk) .mk) .mk) Xp) Xp := nr rfl
@[simp ↓] theorem x_dput : mDPut Ma Mb Mc ⟨hp, env, n⟩ ⟨nx, bk, ct, rt, ex⟩ = Mc ⟨hp, env, n⟩ (fun v hp1 => Ma ⟨hp1, env, n⟩ (fun o hp2 => Mb ⟨hp2, env, n⟩ (fun y hp3 => onH (asMu o) (fun m => onH (dctO hp3[m]?) (fun l => onH (isD y) (fun dy => onH (keyD dy) (fun key => onH (isD v) (fun d => l.length < sizeLine ∧
  nx ⟨hp3.set m (.dct (setK l key d)), env, n⟩) .mk) .mk) .mk) .mk) .mk) ex) ex) ex := nr rfl
variable {Ml Mh : MO} {Ro : Option Int → List O → Prop}
@[simp ↓] theorem x_oNone : moNone ⟨hp, env, n⟩ Ro Xp = Ro none hp := nr rfl
@[simp ↓] theorem x_oSome : moSome Ma ⟨hp, env, n⟩ Ro Xp = Ma ⟨hp, env, n⟩ (fun v hp1 => onH (isD v) (fun d => onH (asI d) (fun i => Ro (some i) hp1) .mk) .mk) Xp := nr rfl
@[simp ↓] theorem x_sl : mSl Ma Ml Mh ⟨hp, env, n⟩ R Xp = Ma ⟨hp, env, n⟩ (fun x hp1 => Ml ⟨hp1, env, n⟩ (fun lo hp2 => Mh ⟨hp2, env, n⟩ (fun hi hp3 => onH (val hp3 x) (fun d => fSl d lo hi fun d' => R (.d d') hp3) .mk) Xp) Xp) Xp := nr rfl
@[simp ↓] theorem x_slM : mSlM Ma Ml Mh ⟨hp, env, n⟩ R Xp = Ma ⟨hp, env, n⟩ (fun x hp1 => Ml ⟨hp1, env, n⟩ (fun lo hp2 => Mh ⟨hp2, env, n⟩ (fun hi hp3 => onH (val hp3 x) (fun d => onH (slOf d) (fun ds => R (.mu hp3.length) (hp3 ++ [.lst (cutD ds lo hi)])) .mk) .mk) Xp) Xp) Xp := nr rfl
@[simp] theorem slOf_lst {ds : List D} : slOf (.lst ds) = some ds := rfl
@[simp ↓] theorem x_call {N : Nat} {M : MF} {dd : List D} : mCall N M dd La ⟨hp, env, n⟩ R Xp = La ⟨hp, env, n⟩ (fun ss hp1 => ss.length + dd.length = N ∧ mfH M hp1 (ss ++ dd.map S.d) R Xp .mk) Xp := nr rfl
def lstR (R : S → List O → Prop) (v : S) (hp2 : List O) : Prop := match v with
  | .d (.lst ds) => R (.mu hp2.length) (hp2 ++ [.lst ds])
  | _ => False
@[simp ↓] theorem lstR_lst {ds : List D} : lstR R (.d (.lst ds)) hp = R (.mu hp.length) (hp ++ [.lst ds]) := nr rfl
@[simp ↓] theorem x_callM {N : Nat} {M : MF} {dd : List D} : mCallM N M dd La ⟨hp, env, n⟩ R Xp = La ⟨hp, env, n⟩ (fun ss hp1 => ss.length + dd.length = N ∧ mfH M hp1 (ss ++ dd.map S.d) (lstR R) Xp .mk) Xp := nr rfl
@[simp ↓] theorem x_lc {I : MI} {G : MG} {Mt : MT} {vs : List Nat} : mLc I G Mt Ma vs ⟨hp, env, n⟩ R Xp = I ⟨hp, env, n⟩ (fun v ds hp' => compH v ds G Mt Ma (wipeE env vs) hp' (fun acc hp2 => R (.d (.lst acc)) hp2) .mk) Xp := nr rfl
@[simp ↓] theorem x_lcM {I : MI} {G : MG} {Mt : MT} {vs : List Nat} : mLcM I G Mt Ma vs ⟨hp, env, n⟩ R Xp = I ⟨hp, env, n⟩ (fun v ds hp' => compH v ds G Mt Ma (wipeE env vs) hp' (fun acc hp2 => R (.mu hp2.length) (hp2 ++ [.lst acc])) .mk) Xp := nr rfl
@[simp ↓] theorem x_lc2 {I I1 : MI} {G G1 : MG} {vs vs1 : List Nat} : mLc2 I G I1 G1 Ma vs vs1 ⟨hp, env, n⟩ R Xp = I ⟨hp, env, n⟩ (fun v ds hp' => compH2 v ds G I1 G1 Ma vs1 (wipeE env vs) hp' (fun acc hp2 => R (.d (.lst acc)) hp2) .mk) Xp := nr rfl
@[simp ↓] theorem x_lc2M {I I1 : MI} {G G1 : MG} {vs vs1 : List Nat} : mLc2M I G I1 G1 Ma vs vs1 ⟨hp, env, n⟩ R Xp = I ⟨hp, env, n⟩ (fun v ds hp' => compH2 v ds G I1 G1 Ma vs1 (wipeE env vs) hp' (fun acc hp2 => R (.mu hp2.length) (hp2 ++ [.lst acc])) .mk) Xp := nr rfl
@[simp ↓] theorem x_yes : mYes ⟨hp, env, n⟩ Rb Xp = Rb true hp := nr rfl
variable {Rp : List (S × S) → List O → Prop}
@[simp ↓] theorem x_pnil : mPairs [] ⟨hp, env, n⟩ Rp Xp = Rp [] hp := nr rfl
@[simp ↓] theorem x_pcons {mr : List (ME × ME)} : mPairs ((Ma, Mb) :: mr) ⟨hp, env, n⟩ Rp Xp = Ma ⟨hp, env, n⟩ (fun k hp1 => Mb ⟨hp1, env, n⟩ (fun v hp2 => mPairs mr ⟨hp2, env, n⟩ (fun ps hp3 => Rp ((k, v) :: ps) hp3) Xp) Xp) Xp := nr rfl
@[simp ↓] theorem x_disp {mr : List (ME × ME)} : mDisp mr ⟨hp, env, n⟩ R Xp = mPairs mr ⟨hp, env, n⟩ (fun ps hp1 => onH (keysD ps) (fun l => l.length ≤ 15 ∧ R (.mu hp1.length) (hp1 ++ [.dct (mergeD [] l)])) .mk) Xp := nr rfl
/-- a def's run -/
@[simp ↓] theorem x_def {N : Nat} {fr : Bool} {Mb : MS} {ss : List S} : mDef N fr Mb hp ss R Xp = Mb ⟨hp, ss.map some ++ List.replicate (N - ss.length) none, hp.length⟩ ⟨fun s' => retP hp.length fr R (.d .non) s'.hp, fun _ => False, fun _ => False, retP hp.length fr R, fun x hp' => Xp x (hp'.take hp.length)⟩ := nr rfl
@[simp ↓] theorem x_retD {m : Nat} {d : D} : retP m false R (.d d) hp = R (.d d) (hp.take m) := by
  show ((false = true → isLst d = false) ∧ R (.d d) (hp.take m)) = _
  simp
@[simp ↓] theorem x_retDT {m : Nat} {d : D} : retP m true R (.d d) hp = (isLst d = false ∧ R (.d d) (hp.take m)) := by
  show ((true = true → isLst d = false) ∧ R (.d d) (hp.take m)) = _
  simp
/-- an object given back -/
def retO (n0 : Nat) (R : S → List O → Prop) (hp : List O) (o : Option O) (_ : Tg R) : Prop := match o with
  | some (.lst ds) => R (.d (.lst ds)) (hp.take n0)
  | some (.dct l) => R (.mu n0) (hp.take n0 ++ [.dct l])
  | some (.reg gs) => R (.ob n0 0) (hp.take n0 ++ [.reg gs])
  | _ => False
@[simp ↓] theorem x_retM {m k : Nat} {fr : Bool} : retP m fr R (.mu k) hp = brH (decide (k < m)) (R (.mu k) (hp.take m)) (retO m R hp hp[k]? .mk) .mk := by
  show (if k < m then _ else _) = (if decide (k < m) = true then _ else _)
  by_cases h : k < m
  · rw [if_pos h, if_pos (by simpa using h)]
  · rw [if_neg h, if_neg (by simpa using h)]
    rfl
@[simp ↓] theorem retO_lst {m : Nat} {ds : List D} {t : Tg R} : retO m R hp (some (.lst ds)) t = R (.d (.lst ds)) (hp.take m) := nr rfl
@[simp ↓] theorem retO_dct {m : Nat} {ds : List (Key × D)} {t : Tg R} : retO m R hp (some (.dct ds)) t = R (.mu m) (hp.take m ++ [.dct ds]) := nr rfl
@[simp ↓] theorem retO_reg {m : Nat} {gs : List Gn} {t : Tg R} : retO m R hp (some (.reg gs)) t = R (.ob m 0) (hp.take m ++ [.reg gs]) := nr rfl
/-- a region given back -/
def retG (n0 k : Nat) (R : S → List O → Prop) (hp : List O) (o : Option O) (_ : Tg R) : Prop := match o with
  | some (.reg gs) => R (.ob n0 k) (hp.take n0 ++ [.reg gs])
  | _ => False
@[simp ↓] theorem x_retOb {m j k : Nat} {fr : Bool} : retP m fr R (.ob j k) hp = brH (decide (j < m)) (R (.ob j k) (hp.take m)) (retG m k R hp hp[j]? .mk) .mk := by
  show (if j < m then _ else _) = (if decide (j < m) = true then _ else _)
  by_cases h : j < m
  · rw [if_pos h, if_pos (by simpa using h)]
  · rw [if_neg h, if_neg (by simpa using h)]
    rfl
@[simp ↓] theorem retG_reg {m k : Nat} {gs : List Gn} {t : Tg R} : retG m k R hp (some (.reg gs)) t = R (.ob m k) (hp.take m ++ [.reg gs]) := nr rfl
@[simp ↓] theorem x_hold {P : Prop} {t : Tg P} : holdH P t = P := nr rfl
variable {τ : Type}
@[simp ↓] theorem x_one {d : D} {P : D → Prop} : one [d] P = P d := nr rfl
@[simp ↓] theorem x_two {d e : D} {P : D → D → Prop} : two [d, e] P = P d e := nr rfl
/-! the operators -/
section
variable {P : D → Prop} {i j : Int} {x y : List D}
@[simp ↓] theorem xfI {C : Int → Int → Prop} {g : Int → Int → D} : fI C g (.int i) (.int j) P = (C i j ∧ P (g i j)) := nr rfl
@[simp ↓] theorem xfI0 {g : Int → Int → D} : fI0 g (.int i) (.int j) P = P (g i j) := nr rfl
@[simp ↓] theorem xfU {g : Int → D} : fU g (.int i) P = P (g i) := nr rfl
@[simp ↓] theorem xfMul : fMul (.int i) (.int j) P = ((CMul i j ∨ CMulW i j) ∧ P (.int (i * j))) := nr rfl
@[simp ↓] theorem xfMulL : fMul (.lst x) (.int j) P = (-(2 ^ 63) ≤ j ∧ j < 2 ^ 63 ∧ x.length * j.toNat ≤ sizeLine ∧ P (.lst (List.flatten (List.replicate j.toNat x)))) := nr rfl
@[simp ↓] theorem xfAdd : fAdd (.int i) (.int j) P = P (.int (i + j)) := nr rfl
@[simp ↓] theorem xfAddL : fAdd (.lst x) (.lst y) P = (x.length + y.length ≤ sizeLine ∧ P (.lst (x ++ y))) := nr rfl
@[simp ↓] theorem xfAddT : fAdd (.tup x) (.tup y) P = (x.length + y.length ≤ sizeLine ∧ P (.tup (x ++ y))) := nr rfl
@[simp ↓] theorem xfAddS {i j : Str} : fAdd (.str i) (.str j) P = (i.length + j.length ≤ sizeLine ∧ P (.str (i ++ j))) := nr rfl
@[simp ↓] theorem xfEq {a b : D} : fEq a b P = (shD a = true ∧ shD b = true ∧ P (.bl (eqD a b))) := nr rfl
@[simp ↓] theorem xfNe {a b : D} : fNe a b P = (shD a = true ∧ shD b = true ∧ P (.bl (!eqD a b))) := nr rfl
@[simp ↓] theorem xfIsN {a : D} : fIsN a .non P = P (.bl (isNon a)) := nr rfl
@[simp ↓] theorem xfNotN {a : D} : fNotN a .non P = P (.bl (!isNon a)) := nr rfl
@[simp ↓] theorem xfIxL : fIx (.lst x) (.int i) P = onH (atI x i) P .mk := nr rfl
@[simp ↓] theorem xfIxT : fIx (.tup x) (.int i) P = onH (atI x i) P .mk := nr rfl
@[simp ↓] theorem xfIxF : fIx (.fl x) (.int i) P = onH (atI x i) P .mk := nr rfl
@[simp ↓] theorem xfLenL : fLen [.lst x] P = P (.int x.length) := by simp [fLen, asS, one, on]
@[simp ↓] theorem xfLenT : fLen [.tup x] P = P (.int x.length) := by simp [fLen, asS, one, on]
@[simp ↓] theorem xfLenF : fLen [.fl x] P = P (.int x.length) := by simp [fLen, asS, one, on]
@[simp ↓] theorem xfLenS {x : Str} : fLen [.str x] P = (x.length ≤ sizeLine ∧ P (.int x.length)) := by simp [fLen, asS, one, on, items]
@[simp ↓] theorem xfInt : fInt [.int i] P = P (.int i) := by simp [fInt, one, on, asB']
@[simp ↓] theorem xfIntB {b : Bool} : fInt [.bl b] P = P (.int (if b then 1 else 0)) := by simp [fInt, one, on, asI]
@[simp ↓] theorem xfAbs : fAbs [.int i] P = P (.int (if i < 0 then -i else i)) := nr rfl
@[simp ↓] theorem xfMM {g : Int → Int → Int} : fMM g [.int i, .int j] P = P (.int (g i j)) := nr rfl
@[simp ↓] theorem xfListL : fList [.lst x] P = P (.lst x) := nr rfl
@[simp ↓] theorem xfListT : fList [.tup x] P = P (.lst x) := nr rfl
@[simp ↓] theorem xfListF : fList [.fl x] P = P (.lst x) := nr rfl
@[simp ↓] theorem xfTupleL : fTuple [.lst x] P = P (.tup x) := nr rfl
@[simp ↓] theorem xfTupleT : fTuple [.tup x] P = P (.tup x) := nr rfl
@[simp ↓] theorem xfTupleF : fTuple [.fl x] P = P (.tup x) := nr rfl
@[simp ↓] theorem xfSlL {lo hi : Option Int} : fSl (.lst x) lo hi P = P (.lst (cutD x lo hi)) := nr rfl
@[simp ↓] theorem xfSlF {lo hi : Option Int} : fSl (.fl x) lo hi P = P (.lst (cutD x lo hi)) := nr rfl
@[simp ↓] theorem xfSlT {lo hi : Option Int} : fSl (.tup x) lo hi P = P (.tup (cutD x lo hi)) := nr rfl
variable {Q : D → List D → Prop} {e : D}
@[simp ↓] theorem xfAppend : fAppend x [e] Q = (x.length < sizeLine ∧ Q .non (x ++ [e])) := nr rfl
@[simp ↓] theorem xfExtend : fExtend x [.lst y] Q = (x.length + y.length ≤ sizeLine ∧ Q .non (x ++ y)) := nr rfl
@[simp ↓] theorem xfReverse : fReverse x [] Q = Q .non x.reverse := nr rfl
@[simp ↓] theorem xfClear : fClear x [] Q = Q .non [] := nr rfl
@[simp ↓] theorem xfPop : fPop x [] Q = onH (x[x.length - 1]?) (fun y => Q y x.dropLast) .mk := nr rfl
variable {k : Int → Int → Nat → Prop}
@[simp ↓] theorem xf1R : f1R [j] k = (-(2 ^ 62) ≤ j ∧ j < 2 ^ 62 ∧ k 0 1 j.toNat) := nr rfl
@[simp ↓] theorem xf2R : f2R [i, j] k = ((-(2 ^ 62) ≤ i ∧ i < 2 ^ 62 ∧ -(2 ^ 62) ≤ j ∧ j < 2 ^ 62) ∧ k i 1 (j - i).toNat) := nr rfl
@[simp ↓] theorem xf3R {c : Int} : f3R [i, j, c] k = ∃ n, RgC i j c n ∧ k i c n := nr rfl
end
end
/-! ### data -/
theorem cmul_r {i j : Int} (h1 : -(2 ^ 64) < j) (h2 : j < 2 ^ 64) : CMul i j ∨ CMulW i j := .inl (.inr ⟨h1, h2⟩)
theorem cmul_l {i j : Int} (h1 : -(2 ^ 64) < i) (h2 : i < 2 ^ 64) : CMul i j ∨ CMulW i j := .inl (.inl ⟨h1, h2⟩)
end Mp

set_option Elab.async false
set_option linter.all false
set_option maxRecDepth 100000
set_option maxHeartbeats 4000000
/-! Mp13: laws of data, of loops. -/
namespace Mp
open PySem PySem.Spec PyProof.Rows L2
@[simp] theorem cm_r {i j : Int} (h1 : -18446744073709551616 < j) (h2 : j < 18446744073709551616) : (CMul i j ∨ CMulW i j) = True := eq_true (.inl (.inr ⟨h1, h2⟩))
@[simp] theorem cm_l {i j : Int} (h1 : -18446744073709551616 < i) (h2 : i < 18446744073709551616) : (CMul i j ∨ CMulW i j) = True := eq_true (.inl (.inl ⟨h1, h2⟩))
theorem log2_lt {n k : Nat} (h : n < 2 ^ k) (hk : 0 < k) : n.log2 < k := by
  by_cases h0 : n = 0
  · subst h0; simpa using hk
  · exact (Nat.log2_lt h0).mpr h
@[simp] theorem cdiv_ok {i j : Int} (h1 : 0 < j) (h2 : j < 18446744073709551616) : CDivW i j = True := eq_true ⟨h1, Nat.lt_trans (log2_lt (k := 64) (by omega) (by decide)) (by decide)⟩
@[simp] theorem emod_lt_lit {a m : Int} (h : 0 < m) : (a % m < m) = True := eq_true (Int.emod_lt_of_pos a h)
/-! ### == -/
/-- whole numbers as data -/
def iL (xs : List Int) : List D := xs.map D.int
theorem py_ints : ∀ ns : List Int, D.pyL (ns.map D.int) = ns.map PyData.int
  | [] => by simp [D.pyL]
  | n :: ns => by simp [D.pyL, D.py, py_ints ns]
theorem eqv_ints : ∀ xs ys : List Int, PyData.eqvAll (xs.map PyData.int) (ys.map PyData.int) = decide (xs = ys)
  | [], [] => by simp [PyData.eqvAll]
  | [], _ :: _ => by simp [PyData.eqvAll]
  | _ :: _, [] => by simp [PyData.eqvAll]
  | x :: xs, y :: ys => by
    simp only [List.map_cons, PyData.eqvAll, PyData.eqv, eqv_ints xs ys, List.cons.injEq]
    by_cases h1 : x = y <;> by_cases h2 : xs = ys <;> simp [h1, h2]
theorem lay_ints : ∀ ns : List Int, PyData.canLayAll0 (ns.map PyData.int) = true
  | [] => by simp [PyData.canLayAll0]
  | n :: ns => by simp [PyData.canLayAll0, PyData.canLay0, lay_ints ns]
theorem depth_ints : ∀ ns : List Int, PyData.depthAll (ns.map PyData.int) ≤ 1
  | [] => by simp [PyData.depthAll]
  | n :: ns => by
    have := depth_ints ns
    simp [PyData.depthAll, PyData.depth] <;> omega
@[simp] theorem eqD_int {i j : Int} : eqD (.int i) (.int j) = decide (i = j) := by
  simp only [eqD, D.py, PyData.eqv]
  by_cases h : i = j <;> simp [h]
@[simp] theorem eqD_bl {i j : Bool} : eqD (.bl i) (.bl j) = (i == j) := by simp only [eqD, D.py, PyData.eqv]
@[simp] theorem eqD_str {i j : Str} : eqD (.str i) (.str j) = (i == j) := by simp only [eqD, D.py, PyData.eqv]
@[simp] theorem eqD_ints {xs ys : List Int} : eqD (.lst (iL xs)) (.lst (iL ys)) = decide (xs = ys) := by simp only [eqD, D.py, PyData.eqv, iL, py_ints, eqv_ints]
@[simp] theorem eqD_intsT {xs ys : List Int} : eqD (.tup (iL xs)) (.tup (iL ys)) = decide (xs = ys) := by simp only [eqD, D.py, PyData.eqv, iL, py_ints, eqv_ints]
@[simp] theorem shD_int {i : Int} : shD (.int i) = true := by simp [shD, SeqAt.shaped, D.py, PyData.canLay0, PyData.depth]
@[simp] theorem shD_bl {i : Bool} : shD (.bl i) = true := by simp [shD, SeqAt.shaped, D.py, PyData.canLay0, PyData.depth]
@[simp] theorem shD_non : shD .non = true := by simp [shD, SeqAt.shaped, D.py, PyData.canLay0, PyData.depth]
@[simp] theorem shD_ints {xs : List Int} : shD (.lst (iL xs)) = true := by
  have := depth_ints xs
  simp only [shD, SeqAt.shaped, D.py, PyData.canLay0, iL, py_ints, lay_ints, PyData.depth, Bool.true_and, decide_eq_true_eq]
  omega
@[simp] theorem shD_intsT {xs : List Int} : shD (.tup (iL xs)) = true := by
  have := depth_ints xs
  simp only [shD, SeqAt.shaped, D.py, PyData.canLay0, iL, py_ints, lay_ints, PyData.depth, Bool.true_and, decide_eq_true_eq]
  omega
/-! ### lists of whole numbers -/
theorem cutD_map {xs : List Int} {lo hi : Option Int} : cutD (iL xs) lo hi = iL (((xs.drop (HT.sIx xs.length 0 lo)).take (HT.sIx xs.length xs.length hi - HT.sIx xs.length 0 lo))) := by
  simp [cutD, iL, List.map_drop, List.map_take]
theorem atI_map {τ ρ : Type} {f : τ → ρ} {xs : List τ} {i : Int} : atI (xs.map f) i = (atI xs i).map f := by
  unfold atI
  simp only [List.length_map, List.getElem?_map]
  cases ixN xs.length i <;> rfl
@[simp] theorem atI_ints {xs : List Int} {i : Int} : atI (iL xs) i = (atI xs i).map D.int := atI_map
@[simp] theorem iL_len {xs : List Int} : (iL xs).length = xs.length := List.length_map ..
@[simp] theorem iL_app {xs ys : List Int} : iL xs ++ iL ys = iL (xs ++ ys) := (List.map_append ..).symm
@[simp] theorem iL_app1 {xs : List Int} {i : Int} : iL xs ++ [D.int i] = iL (xs ++ [i]) := iL_app (ys := [i])
@[simp] theorem iL_set {xs : List Int} {i : Int} {j : Nat} : (iL xs).set j (D.int i) = iL (xs.set j i) := (List.map_set ..).symm
@[simp] theorem iL_get {xs : List Int} {j : Nat} : (iL xs)[j]? = xs[j]?.map D.int := List.getElem?_map ..
@[simp] theorem iL_rev {xs : List Int} : (iL xs).reverse = iL xs.reverse := (List.map_reverse ..).symm
theorem iL_nil : ([] : List D) = iL [] := rfl
theorem iL_cons {x : Int} {xs : List Int} : D.int x :: iL xs = iL (x :: xs) := rfl
@[simp] theorem iL_rep {k : Nat} {x : Int} : (List.replicate k [D.int x]).flatten = iL (List.replicate k x) := by
  induction k with
  | zero => rfl
  | succ k ih => rw [List.replicate_succ, List.flatten_cons, ih]; rfl
theorem atI_nat {τ : Type} {xs : List τ} {i : Int} (h0 : 0 ≤ i) (h1 : i < xs.length) : atI xs i = some (xs[i.toNat]'(by omega)) := by
  unfold atI ixN
  rw [if_pos h0, if_pos h1]
  show xs[i.toNat]? = _
  exact List.getElem?_eq_getElem _
/-! ### loops -/
theorem seq_cut {Sa Sb : MS} {hp : List O} {env : List (Option S)} {n : Nat} {nx bk ct : PS → Prop} {rt : S → List O → Prop} {ex : MX} (Mid : List O → List (Option S) → Prop)
    (h1 : ∀ N : PS → Prop, (∀ hp' env', Mid hp' env' → N ⟨hp', env', n⟩) → Sa ⟨hp, env, n⟩ ⟨N, bk, ct, rt, ex⟩) (h2 : ∀ hp' env', Mid hp' env' → Sb ⟨hp', env', n⟩ ⟨nx, bk, ct, rt, ex⟩) : mSeq Sa Sb ⟨hp, env, n⟩ ⟨nx, bk, ct, rt, ex⟩ := h1 _ h2
theorem set_same {τ : Type} {hp : List τ} {n : Nat} {o : τ} (h : hp[n]? = some o) : hp.set n o = hp := by
  apply List.ext_getElem?
  intro i
  by_cases e : n = i
  · subst e
    rw [List.getElem?_set_self (List.getElem?_eq_some_iff.mp h).1, h]
  · rw [List.getElem?_set_ne e]
@[simp] theorem cpow_lit {i j : Int} (h0 : 0 ≤ j) (h1 : j ≤ 1000000) (h2 : -1000 ≤ i) (h3 : i ≤ 1000) : CPow i j = True := eq_true ⟨h0, h1, by omega⟩
@[simp] theorem take_set {τ : Type} {hp : List τ} {n : Nat} {o : τ} : (hp.set n o).take hp.length = hp.set n o := List.take_of_length_le (by simp)
theorem set_at {τ : Type} {hp : List τ} {n : Nat} {o : τ} (h : hp[n]? = some o) (o' : τ) : (hp.set n o')[n]? = some o' := List.getElem?_set_self (List.getElem?_eq_some_iff.mp h).1
theorem cut_nx {Sa : MS} {hp : List O} {env : List (Option S)} {n : Nat} {nx bk ct : PS → Prop} {rt : S → List O → Prop} {ex : MX} (Mid : List O → List (Option S) → Prop)
    (h1 : ∀ N : PS → Prop, (∀ hp' env', Mid hp' env' → N ⟨hp', env', n⟩) → Sa ⟨hp, env, n⟩ ⟨N, bk, ct, rt, ex⟩) (h2 : ∀ hp' env', Mid hp' env' → nx ⟨hp', env', n⟩) : Sa ⟨hp, env, n⟩ ⟨nx, bk, ct, rt, ex⟩ := h1 _ h2
/-- for: Iv tells of what is left, the heap and the names -/
theorem forH_of {v : Option Wk} {ds : List D} {G : MG} {Mb : MS} {hp : List O} {env : List (Option S)} {n : Nat} {nx bk ct : PS → Prop} {rt : S → List O → Prop} {ex : MX} {t : Tg (G, Mb, (⟨nx, bk, ct, rt, ex⟩ : MK))} (Iv : List D → List O → List (Option S) → Prop)
    (h0 : Iv ds hp env) (hs : ∀ d r hp env N, Iv (d :: r) hp env → (∀ hp' env', still v ds hp' → Iv r hp' env' → N ⟨hp', env', n⟩) → G (.d d) ⟨hp, env, n⟩ fun s1 => Mb s1 ⟨N, nx, N, rt, ex⟩) (hn : ∀ hp env, Iv [] hp env → nx ⟨hp, env, n⟩) : forH v ds G Mb hp env n ⟨nx, bk, ct, rt, ex⟩ t := by
  show forL v ds G Mb ds ⟨hp, env, n⟩ ⟨nx, bk, ct, rt, ex⟩
  have gen : ∀ (r : List D) hp env, Iv r hp env → forL v ds G Mb r ⟨hp, env, n⟩ ⟨nx, bk, ct, rt, ex⟩ := by
    intro r
    induction r with
    | nil => exact fun hp env h => hn hp env h
    | cons d r ih =>
      intro hp env h
      exact hs d r hp env (fun s2 => still v ds s2.hp ∧ forL v ds G Mb r s2 ⟨nx, bk, ct, rt, ex⟩) h fun hp' env' st h' => ⟨st, ih hp' env' h'⟩
  exact gen ds hp env h0
/-- while: Ms falls -/
theorem whileH_of {Mt : MT} {Mb : MS} {hp : List O} {env : List (Option S)} {n : Nat} {nx bk ct : PS → Prop} {rt : S → List O → Prop} {ex : MX} {t : Tg (Mt, Mb, (⟨nx, bk, ct, rt, ex⟩ : MK))} (Iv : Nat → List O → List (Option S) → Prop) (m : Nat)
    (h0 : Iv m hp env) (hs : ∀ m hp env (N : PS → Prop), Iv m hp env → (∀ m' hp' env', m' < m → Iv m' hp' env' → N ⟨hp', env', n⟩) → Mt ⟨hp, env, n⟩ (fun b hp1 => brH b (Mb ⟨hp1, env, n⟩ ⟨N, nx, N, rt, ex⟩) (nx ⟨hp1, env, n⟩) .mk) ex) : whileH Mt Mb hp env n ⟨nx, bk, ct, rt, ex⟩ t := by
  show ∃ n', whileN Mt Mb n' ⟨hp, env, n⟩ ⟨nx, bk, ct, rt, ex⟩
  have gen : ∀ (f m : Nat) hp env, m < f → Iv m hp env → whileN Mt Mb f ⟨hp, env, n⟩ ⟨nx, bk, ct, rt, ex⟩ := by
    intro f
    induction f with
    | zero => exact fun m hp env h => absurd h (Nat.not_lt_zero _)
    | succ f ih => exact fun m hp env hm h => hs m hp env (fun s' => whileN Mt Mb f s' ⟨nx, bk, ct, rt, ex⟩) h fun m' hp' env' h1 h2 => ih m' hp' env' (by omega) h2
  exact ⟨m + 1, gen (m + 1) m hp env (Nat.lt_succ_self m) h0⟩
/-- [e for ..], no `if` -/
theorem compH_of {v : Option Wk} {ds : List D} {G : MG} {Me : ME} {env : List (Option S)} {hp : List O} {R : List D → List O → Prop} {t : Tg (G, mYes, Me, R)} (Iv : List D → List D → List O → Prop) (hb : ds.length ≤ sizeLine) (h0 : Iv [] ds hp)
    (hs : ∀ acc d r hp (N : D → List O → Prop), Iv acc (d :: r) hp → (∀ y hp', still v ds hp' → Iv (acc ++ [y]) r hp' → N y hp') → G (.d d) ⟨hp, env, hp.length⟩ fun s1 => Me s1 (fun y hp3 => onH (isD y) (fun dy => N dy hp3) .mk) noX)
    (hn : ∀ acc hp, Iv acc [] hp → R acc hp) : compH v ds G mYes Me env hp R t := by
  show compL v ds G mYes Me env ds [] hp R
  have gen : ∀ (r acc : List D) hp, acc.length + r.length ≤ sizeLine → Iv acc r hp → compL v ds G mYes Me env r acc hp R := by
    intro r
    induction r with
    | nil => exact fun acc hp _ h => hn acc hp h
    | cons d r ih =>
      intro acc hp hl h
      show G (.d d) ⟨hp, env, hp.length⟩ fun s1 => mYes s1 (fun b hp2 => if b = true then Me { s1 with hp := hp2 } (fun y hp3 => on (isD y) fun dy => acc.length < sizeLine ∧ still v ds hp3 ∧ compL v ds G mYes Me env r (acc ++ [dy]) hp3 R) noX else still v ds hp2 ∧ compL v ds G mYes Me env r acc hp2 R) noX
      have q := hs acc d r hp (fun dy hp3 => acc.length < sizeLine ∧ still v ds hp3 ∧ compL v ds G mYes Me env r (acc ++ [dy]) hp3 R) h fun y hp' st h' => by
        simp only [List.length_cons] at hl
        exact ⟨by omega, st, ih (acc ++ [y]) hp' (by simp; omega) h'⟩
      exact q
  exact gen ds [] hp (by simpa using hb) h0
@[simp] theorem lt_size {n : Nat} : (n < sizeLine) = (n < 16777216) := rfl
@[simp] theorem le_size {n : Nat} : (n ≤ sizeLine) = (n ≤ 16777216) := rfl
/-! isinstance -/
theorem isi1 {d : D} {m n : String} {b : Bool} {P : D → Prop} (h1 : tyN d = some n) (h2 : kitB n m = some b) : fIsi [d, .ty m] P = P (.bl b) := by simp [fIsi, two, h1, h2, asTy, asTup, on]
theorem isi2 {d : D} {l : List D} {ms : List String} {n : String} {b : Bool} {P : D → Prop} (h1 : tyN d = some n) (h0 : tyNames l = some ms) (h2 : isAny n ms = some b) : fIsi [d, .tup l] P = P (.bl b) := by simp [fIsi, two, h1, h0, h2, asTy, asTup, on]
section
variable {P : D → Prop} {b : Bool} {i : Int} {z : Str} {x : List D}
@[simp ↓] theorem isi_non_bool : fIsi [.non, .ty "bool"] P = P (.bl false) := isi1 rfl rfl
@[simp ↓] theorem isi_non_int : fIsi [.non, .ty "int"] P = P (.bl false) := isi1 rfl rfl
@[simp ↓] theorem isi_non_str : fIsi [.non, .ty "str"] P = P (.bl false) := isi1 rfl rfl
@[simp ↓] theorem isi_non_tuple : fIsi [.non, .ty "tuple"] P = P (.bl false) := isi1 rfl rfl
@[simp ↓] theorem isi_non_list : fIsi [.non, .ty "list"] P = P (.bl false) := isi1 rfl rfl
@[simp ↓] theorem isi_non_dict : fIsi [.non, .ty "dict"] P = P (.bl false) := isi1 rfl rfl
@[simp ↓] theorem isi_non_list_tuple : fIsi [.non, .tup [.ty "list", .ty "tuple"]] P = P (.bl false) := isi2 rfl rfl rfl
@[simp ↓] theorem isi_non_int_str : fIsi [.non, .tup [.ty "int", .ty "str"]] P = P (.bl false) := isi2 rfl rfl rfl
@[simp ↓] theorem isi_non_str_int : fIsi [.non, .tup [.ty "str", .ty "int"]] P = P (.bl false) := isi2 rfl rfl rfl
@[simp ↓] theorem isi_bl_bool : fIsi [(.bl b), .ty "bool"] P = P (.bl true) := isi1 rfl rfl
@[simp ↓] theorem isi_bl_int : fIsi [(.bl b), .ty "int"] P = P (.bl true) := isi1 rfl rfl
@[simp ↓] theorem isi_bl_str : fIsi [(.bl b), .ty "str"] P = P (.bl false) := isi1 rfl rfl
@[simp ↓] theorem isi_bl_tuple : fIsi [(.bl b), .ty "tuple"] P = P (.bl false) := isi1 rfl rfl
@[simp ↓] theorem isi_bl_list : fIsi [(.bl b), .ty "list"] P = P (.bl false) := isi1 rfl rfl
@[simp ↓] theorem isi_bl_dict : fIsi [(.bl b), .ty "dict"] P = P (.bl false) := isi1 rfl rfl
@[simp ↓] theorem isi_bl_list_tuple : fIsi [(.bl b), .tup [.ty "list", .ty "tuple"]] P = P (.bl false) := isi2 rfl rfl rfl
@[simp ↓] theorem isi_bl_int_str : fIsi [(.bl b), .tup [.ty "int", .ty "str"]] P = P (.bl true) := isi2 rfl rfl rfl
@[simp ↓] theorem isi_bl_str_int : fIsi [(.bl b), .tup [.ty "str", .ty "int"]] P = P (.bl true) := isi2 rfl rfl rfl
@[simp ↓] theorem isi_int_bool : fIsi [(.int i), .ty "bool"] P = P (.bl false) := isi1 rfl rfl
@[simp ↓] theorem isi_int_int : fIsi [(.int i), .ty "int"] P = P (.bl true) := isi1 rfl rfl
@[simp ↓] theorem isi_int_str : fIsi [(.int i), .ty "str"] P = P (.bl false) := isi1 rfl rfl
@[simp ↓] theorem isi_int_tuple : fIsi [(.int i), .ty "tuple"] P = P (.bl false) := isi1 rfl rfl
@[simp ↓] theorem isi_int_list : fIsi [(.int i), .ty "list"] P = P (.bl false) := isi1 rfl rfl
@[simp ↓] theorem isi_int_dict : fIsi [(.int i), .ty "dict"] P = P (.bl false) := isi1 rfl rfl
@[simp ↓] theorem isi_int_list_tuple : fIsi [(.int i), .tup [.ty "list", .ty "tuple"]] P = P (.bl false) := isi2 rfl rfl rfl
@[simp ↓] theorem isi_int_int_str : fIsi [(.int i), .tup [.ty "int", .ty "str"]] P = P (.bl true) := isi2 rfl rfl rfl
@[simp ↓] theorem isi_int_str_int : fIsi [(.int i), .tup [.ty "str", .ty "int"]] P = P (.bl true) := isi2 rfl rfl rfl
@[simp ↓] theorem isi_str_bool : fIsi [(.str z), .ty "bool"] P = P (.bl false) := isi1 rfl rfl
@[simp ↓] theorem isi_str_int : fIsi [(.str z), .ty "int"] P = P (.bl false) := isi1 rfl rfl
@[simp ↓] theorem isi_str_str : fIsi [(.str z), .ty "str"] P = P (.bl true) := isi1 rfl rfl
@[simp ↓] theorem isi_str_tuple : fIsi [(.str z), .ty "tuple"] P = P (.bl false) := isi1 rfl rfl
@[simp ↓] theorem isi_str_list : fIsi [(.str z), .ty "list"] P = P (.bl false) := isi1 rfl rfl
@[simp ↓] theorem isi_str_dict : fIsi [(.str z), .ty "dict"] P = P (.bl false) := isi1 rfl rfl
@[simp ↓] theorem isi_str_list_tuple : fIsi [(.str z), .tup [.ty "list", .ty "tuple"]] P = P (.bl false) := isi2 rfl rfl rfl
@[simp ↓] theorem isi_str_int_str : fIsi [(.str z), .tup [.ty "int", .ty "str"]] P = P (.bl true) := isi2 rfl rfl rfl
@[simp ↓] theorem isi_str_str_int : fIsi [(.str z), .tup [.ty "str", .ty "int"]] P = P (.bl true) := isi2 rfl rfl rfl
@[simp ↓] theorem isi_tup_bool : fIsi [(.tup x), .ty "bool"] P = P (.bl false) := isi1 rfl rfl
@[simp ↓] theorem isi_tup_int : fIsi [(.tup x), .ty "int"] P = P (.bl false) := isi1 rfl rfl
@[simp ↓] theorem isi_tup_str : fIsi [(.tup x), .ty "str"] P = P (.bl false) := isi1 rfl rfl
@[simp ↓] theorem isi_tup_tuple : fIsi [(.tup x), .ty "tuple"] P = P (.bl true) := isi1 rfl rfl
@[simp ↓] theorem isi_tup_list : fIsi [(.tup x), .ty "list"] P = P (.bl false) := isi1 rfl rfl
@[simp ↓] theorem isi_tup_dict : fIsi [(.tup x), .ty "dict"] P = P (.bl false) := isi1 rfl rfl
@[simp ↓] theorem isi_tup_list_tuple : fIsi [(.tup x), .tup [.ty "list", .ty "tuple"]] P = P (.bl true) := isi2 rfl rfl rfl
@[simp ↓] theorem isi_tup_int_str : fIsi [(.tup x), .tup [.ty "int", .ty "str"]] P = P (.bl false) := isi2 rfl rfl rfl
@[simp ↓] theorem isi_tup_str_int : fIsi [(.tup x), .tup [.ty "str", .ty "int"]] P = P (.bl false) := isi2 rfl rfl rfl
@[simp ↓] theorem isi_lst_bool : fIsi [(.lst x), .ty "bool"] P = P (.bl false) := isi1 rfl rfl
@[simp ↓] theorem isi_lst_int : fIsi [(.lst x), .ty "int"] P = P (.bl false) := isi1 rfl rfl
@[simp ↓] theorem isi_lst_str : fIsi [(.lst x), .ty "str"] P = P (.bl false) := isi1 rfl rfl
@[simp ↓] theorem isi_lst_tuple : fIsi [(.lst x), .ty "tuple"] P = P (.bl false) := isi1 rfl rfl
@[simp ↓] theorem isi_lst_list : fIsi [(.lst x), .ty "list"] P = P (.bl true) := isi1 rfl rfl
@[simp ↓] theorem isi_lst_dict : fIsi [(.lst x), .ty "dict"] P = P (.bl false) := isi1 rfl rfl
@[simp ↓] theorem isi_lst_list_tuple : fIsi [(.lst x), .tup [.ty "list", .ty "tuple"]] P = P (.bl true) := isi2 rfl rfl rfl
@[simp ↓] theorem isi_lst_int_str : fIsi [(.lst x), .tup [.ty "int", .ty "str"]] P = P (.bl false) := isi2 rfl rfl rfl
@[simp ↓] theorem isi_lst_str_int : fIsi [(.lst x), .tup [.ty "str", .ty "int"]] P = P (.bl false) := isi2 rfl rfl rfl
@[simp ↓] theorem isi_fl_bool : fIsi [(.fl x), .ty "bool"] P = P (.bl false) := isi1 rfl rfl
@[simp ↓] theorem isi_fl_int : fIsi [(.fl x), .ty "int"] P = P (.bl false) := isi1 rfl rfl
@[simp ↓] theorem isi_fl_str : fIsi [(.fl x), .ty "str"] P = P (.bl false) := isi1 rfl rfl
@[simp ↓] theorem isi_fl_tuple : fIsi [(.fl x), .ty "tuple"] P = P (.bl false) := isi1 rfl rfl
@[simp ↓] theorem isi_fl_list : fIsi [(.fl x), .ty "list"] P = P (.bl true) := isi1 rfl rfl
@[simp ↓] theorem isi_fl_dict : fIsi [(.fl x), .ty "dict"] P = P (.bl false) := isi1 rfl rfl
@[simp ↓] theorem isi_fl_list_tuple : fIsi [(.fl x), .tup [.ty "list", .ty "tuple"]] P = P (.bl true) := isi2 rfl rfl rfl
@[simp ↓] theorem isi_fl_int_str : fIsi [(.fl x), .tup [.ty "int", .ty "str"]] P = P (.bl false) := isi2 rfl rfl rfl
@[simp ↓] theorem isi_fl_str_int : fIsi [(.fl x), .tup [.ty "str", .ty "int"]] P = P (.bl false) := isi2 rfl rfl rfl
end
theorem walkO_of {hp : List O} {s : S} {ds : List D} (h : val hp s = some (.lst ds)) : ∃ v, walkO hp s = some (v, ds) ∧ still v ds hp ∧ ∀ m, v = some m → m.ix < hp.length := by
  cases s with
  | d d => cases h; exact ⟨none, rfl, trivial, fun _ z => by cases z⟩
  | mu m =>
    rw [val_O] at h
    cases g : hp[m]? with
    | none => rw [g] at h; cases h
    | some o =>
      rw [g] at h
      cases o with
      | lst es =>
        cases h
        refine ⟨some (.mu m), ?_, g, fun _ z => by cases z; exact (List.getElem?_eq_some_iff.mp g).1⟩
        simp [g]
      | _ => cases h
  | ob n k =>
    rw [val_ob] at h
    cases g : nodeDs hp n k with
    | none => rw [g] at h; cases h
    | some es =>
      rw [g] at h
      cases h
      refine ⟨some (.ob n k), by simp [g], g, fun _ z => ?_⟩
      cases z
      unfold nodeDs at g
      split at g
      · rename_i xs e
        obtain ⟨gs, e1, _⟩ := nodeAt_some e
        exact (List.getElem?_eq_some_iff.mp e1).1
      · cases g
  | exn _ _ _ _ => cases h
end Mp

set_option Elab.async false
set_option linter.all false
set_option maxRecDepth 100000
set_option maxHeartbeats 400000
/-! Mp14: more laws of data, of loops. -/
namespace Mp
open PySem PySem.Spec PyProof.Rows L2
theorem rs_pos {len c : Int} (hc : 1 ≤ c) (hl : 0 ≤ len) : Builtin.Range.rangeSize 0 len c = (len + c - 1) / c := by
  unfold Builtin.Range.rangeSize
  rw [if_pos (by omega)]
  split
  · have e : len + c - 1 = (len - 0 - 1) + 1 * c := by omega
    rw [e, Int.add_mul_ediv_right _ _ (by omega)]
  · rw [show len = 0 by omega, Int.ediv_eq_zero_of_lt (by omega) (by omega)]
theorem rgc_up {len c : Int} (h0 : 0 ≤ len) (h1 : len < 4611686018427387904) (hc : 0 < c) (hc1 : c < 1000000) : RgC 0 len c ((len + c - 1) / c).toNat := by
  have hs : Builtin.Range.rangeSize 0 len c = (len + c - 1) / c := rs_pos (by omega) h0
  have hq : 0 ≤ (len + c - 1) / c := Int.ediv_nonneg (by omega) (by omega)
  have hm : (len + c - 1) / c * c ≤ len + c - 1 := Int.ediv_mul_le _ (by omega)
  have hq2 : (len + c - 1) / c ≤ len + c - 1 := Int.ediv_le_self _ (by omega)
  refine ⟨by omega, by omega, ?_, by rw [hs]; omega⟩
  unfold Builtin.Range.small
  rw [hs]
  simp only [Builtin.Range.rangeFitsLong, Bool.and_eq_true, Bool.or_eq_true, decide_eq_true_eq, beq_iff_eq, show (c > 0) from hc, if_true]
  omega
section
variable {v : Option Wk} {all ds acc : List D} {d : D} {G : MG} {Mt : MT} {Me : ME} {env : List (Option S)} {hp : List O} {n : Nat} {R : List D → List O → Prop}
/-- one turn -/
@[simp ↓] theorem x_compC : compL v all G Mt Me env (d :: ds) acc hp R = G (.d d) ⟨hp, env, hp.length⟩ fun s1 => Mt s1 (fun b hp2 => brH b (Me ⟨hp2, s1.env, s1.n0⟩ (fun y hp3 => onH (isD y) (fun dy => acc.length < sizeLine ∧ still v all hp3 ∧ compL v all G Mt Me env ds (acc ++ [dy]) hp3 R) .mk) noX)
      (still v all hp2 ∧ compL v all G Mt Me env ds acc hp2 R) .mk) noX := nr rfl
@[simp ↓] theorem x_compN : compL v all G Mt Me env [] acc hp R = R acc hp := nr rfl
/-- two clauses, nothing changed -/
theorem compH2_of {I1 : MI} {G1 : MG} {vs1 : List Nat} {t : Tg (G, I1, G1, Me, R)} (F : D → List D) (hst : still v ds hp) (hl : (ds.flatMap F).length ≤ sizeLine)
    (hs : ∀ d ∈ ds, ∀ acc (N : List D → List O → Prop), acc.length + (F d).length ≤ sizeLine → N (acc ++ F d) hp → G (.d d) ⟨hp, env, hp.length⟩ fun s1 => I1 s1 (fun v1 ds1 hp2 => compL v1 ds1 G1 mYes Me (wipeE s1.env vs1) ds1 acc hp2 N) noX)
    (hn : R (ds.flatMap F) hp) : compH2 v ds G I1 G1 Me vs1 env hp R t := by
  show compL2 v ds G I1 G1 Me vs1 env ds [] hp R
  have gen : ∀ (r acc : List D), (∀ d ∈ r, d ∈ ds) → acc.length + (r.flatMap F).length ≤ sizeLine → R (acc ++ r.flatMap F) hp → compL2 v ds G I1 G1 Me vs1 env r acc hp R := by
    intro r
    induction r with
    | nil => intro acc _ _ h; show R acc hp; simpa using h
    | cons d r ih =>
      intro acc hm hl h
      rw [List.flatMap_cons, List.length_append] at hl
      exact hs d (hm d List.mem_cons_self) acc _ (by omega) ⟨hst, ih (acc ++ F d) (fun x hx => hm x (List.mem_cons_of_mem _ hx)) (by rw [List.length_append]; omega) (by rw [List.append_assoc]; simpa [List.flatMap_cons] using h)⟩
  exact gen ds [] (fun _ h => h) (by simpa using hl) (by simpa using hn)
end
section
variable {v : Option Wk} {all ds : List D} {d : D} {G : MG} {Mb : MS} {hp : List O} {env : List (Option S)} {n : Nat} {k : MK}
/-- a loop over a written walk, turn by turn -/
theorem forH_L {t : Tg (G, Mb, k)} (h : forL v ds G Mb ds ⟨hp, env, n⟩ k) : forH v ds G Mb hp env n k t := h
variable {nx bk ct : PS → Prop} {rt : S → List O → Prop} {ex : MX}
@[simp ↓] theorem x_forC : forL v all G Mb (d :: ds) ⟨hp, env, n⟩ ⟨nx, bk, ct, rt, ex⟩ = G (.d d) ⟨hp, env, n⟩ fun s1 => Mb s1 ⟨fun s2 => still v all s2.hp ∧ forL v all G Mb ds s2 ⟨nx, bk, ct, rt, ex⟩, nx, fun s2 => still v all s2.hp ∧ forL v all G Mb ds s2 ⟨nx, bk, ct, rt, ex⟩, rt, ex⟩ := nr rfl
@[simp ↓] theorem x_forN : forL v all G Mb [] ⟨hp, env, n⟩ ⟨nx, bk, ct, rt, ex⟩ = nx ⟨hp, env, n⟩ := nr rfl
end
/-- for over range: by place -/
theorem forH_rng {lo c : Int} {m : Nat} {G : MG} {Mb : MS} {hp : List O} {env : List (Option S)} {n : Nat} {nx bk ct : PS → Prop} {rt : S → List O → Prop} {ex : MX} {t : Tg (G, Mb, (⟨nx, bk, ct, rt, ex⟩ : MK))} (Iv : Nat → List O → List (Option S) → Prop)
    (h0 : Iv 0 hp env) (hs : ∀ (i : Nat) hp env (N : PS → Prop), i < m → Iv i hp env → (∀ hp' env', Iv (i + 1) hp' env' → N ⟨hp', env', n⟩) → G (.d (.int (lo + (i : Int) * c))) ⟨hp, env, n⟩ fun s1 => Mb s1 ⟨N, nx, N, rt, ex⟩) (hn : ∀ hp env, Iv m hp env → nx ⟨hp, env, n⟩) :
    forH none (rng lo c m) G Mb hp env n ⟨nx, bk, ct, rt, ex⟩ t := by
  refine forH_of (fun ds hp env => ∃ i, i ≤ m ∧ ds = (rng lo c m).drop i ∧ Iv i hp env) ⟨0, Nat.zero_le _, by simp, h0⟩ ?_ ?_
  · rintro d r hp env N ⟨i, hi, e, h⟩ hN
    have hlt : i < m := by
      by_cases z : i < m
      · exact z
      · rw [List.drop_eq_nil_of_le (by rw [rng_len]; omega)] at e
        cases e
    have e2 : (rng lo c m)[i]'(by rw [rng_len]; exact hlt) = D.int (lo + (i : Int) * c) := by simp [rng]
    rw [List.drop_eq_getElem_cons (by rw [rng_len]; exact hlt), e2] at e
    cases e
    exact hs i hp env N hlt h fun hp' env' h' => hN hp' env' trivial ⟨i + 1, by omega, rfl, h'⟩
  · rintro hp env ⟨i, hi, e, h⟩
    have hl := congrArg List.length e
    rw [List.length_drop, rng_len] at hl
    have hie : i = m := by simp at hl; omega
    subst hie
    exact hn hp env h
/-- for over a list of whole numbers -/
theorem forH_ints {v : Option Wk} {xs : List Int} {G : MG} {Mb : MS} {hp : List O} {env : List (Option S)} {n : Nat} {nx bk ct : PS → Prop} {rt : S → List O → Prop} {ex : MX} {t : Tg (G, Mb, (⟨nx, bk, ct, rt, ex⟩ : MK))} (Iv : List Int → List Int → List O → List (Option S) → Prop)
    (h0 : Iv [] xs hp env) (hs : ∀ (l : List Int) (x : Int) (r : List Int) hp env (N : PS → Prop), xs = l ++ x :: r → Iv l (x :: r) hp env → (∀ hp' env', still v (iL xs) hp' → Iv (l ++ [x]) r hp' env' → N ⟨hp', env', n⟩) → G (.d (.int x)) ⟨hp, env, n⟩ fun s1 => Mb s1 ⟨N, nx, N, rt, ex⟩)
    (hn : ∀ hp env, Iv xs [] hp env → nx ⟨hp, env, n⟩) : forH v (iL xs) G Mb hp env n ⟨nx, bk, ct, rt, ex⟩ t := by
  refine forH_of (fun ds hp env => ∃ l r, xs = l ++ r ∧ ds = iL r ∧ Iv l r hp env) ⟨[], xs, rfl, rfl, h0⟩ ?_ ?_
  · rintro d ds hp env N ⟨l, r, e1, e2, h⟩ hN
    cases r with
    | nil => cases e2
    | cons x r =>
      cases e2
      exact hs l x r hp env N e1 h fun hp' env' st h' => hN hp' env' st ⟨l ++ [x], r, by rw [e1]; simp, rfl, h'⟩
  · rintro hp env ⟨l, r, e1, e2, h⟩
    cases r with
    | nil => rw [List.append_nil] at e1; subst e1; exact hn hp env h
    | cons x r => cases e2
@[simp] theorem wipeE_nil {env : List (Option S)} : wipeE env [] = env := rfl
@[simp] theorem wipeE_cons {env : List (Option S)} {v : Nat} {vs : List Nat} : wipeE env (v :: vs) = (wipeE env vs).set v none := rfl
theorem val_app {hp l : List O} {s : S} {d : D} (h : val hp s = some d) : val (hp ++ l) s = some d := by
  cases s with
  | d x => exact h
  | mu m =>
    rw [val_O] at h ⊢
    cases g : hp[m]? with
    | none => rw [g] at h; cases h
    | some o =>
      rw [List.getElem?_append_left (List.getElem?_eq_some_iff.mp g).1, g]
      rw [g] at h
      exact h
  | ob n k =>
    rw [val_ob] at h ⊢
    have : ∀ ds, nodeDs hp n k = some ds → nodeDs (hp ++ l) n k = some ds := fun ds g => by
      unfold nodeDs nodeAt at g ⊢
      cases q : hp[n]? with
      | none => simp only [q] at g; cases g
      | some o =>
        rw [List.getElem?_append_left (List.getElem?_eq_some_iff.mp q).1, q]
        rw [q] at g
        exact g
    cases g : nodeDs hp n k with
    | none => rw [g] at h; cases h
    | some ds => rw [this ds g]; rw [g] at h; exact h
  | exn _ _ _ _ => cases h
theorem b2_of {b : Int} (h : 0 ≤ b ∧ b ≤ 1) : b = 0 ∨ b = 1 := by omega
/-- whole numbers of bits, the first is the highest -/
def num (g : List Int) : Int := g.foldl (fun a b => a * 2 + b) 0
theorem num_app {g : List Int} {b : Int} : num (g ++ [b]) = num g * 2 + b := by simp [num]
@[simp] theorem sIx_none {n d : Nat} : HT.sIx n d none = d := rfl
theorem sIx_at {n d : Nat} {i : Int} (h : 0 ≤ i) : HT.sIx n d (some i) = min i.toNat n := by
  show (if i < 0 then _ else _) = _
  rw [if_neg (by omega)]
@[simp ↓] theorem app_at1 {τ : Type} {hp : List τ} {x : τ} : (hp ++ [x])[hp.length]? = some x := by simp
@[simp ↓] theorem app_at2 {τ : Type} {hp : List τ} {n : Nat} {o x : τ} : (hp.set n o ++ [x])[hp.length]? = some x := by rw [List.getElem?_append_right (by simp)]; simp
@[simp ↓] theorem app_set1 {τ : Type} {hp : List τ} {x y : τ} : (hp ++ [x]).set hp.length y = hp ++ [y] := by rw [List.set_append_right _ _ (by simp)]; simp
@[simp ↓] theorem app_set2 {τ : Type} {hp : List τ} {n : Nat} {o x y : τ} : (hp.set n o ++ [x]).set hp.length y = hp.set n o ++ [y] := by rw [List.set_append_right _ _ (by simp)]; simp
theorem app_set3 {τ : Type} {hp l : List τ} {n : Nat} {o : τ} (h : n < hp.length) : (hp ++ l).set n o = hp.set n o ++ l := by rw [List.set_append_left _ _ h]
theorem app_set4 {τ : Type} {hp l : List τ} {n : Nat} {o u : τ} (h : n < hp.length) : (hp.set n u ++ l).set n o = hp.set n o ++ l := by rw [List.set_append_left _ _ (by simpa using h), List.set_set]
theorem app_at3 {τ : Type} {hp l : List τ} {n : Nat} {o : τ} (h : n < hp.length) : (hp.set n o ++ l)[n]? = some o := by rw [List.getElem?_append_left (by simpa using h), List.getElem?_set_self h]
/-- a list of whole numbers within bounds -/
def Bd (lo hi : Int) (xs : List Int) : Prop := ∀ x ∈ xs, lo ≤ x ∧ x ≤ hi
theorem Bd.nil {lo hi : Int} : Bd lo hi [] := fun _ h => by simp at h
theorem Bd.app {lo hi x : Int} {xs : List Int} (h : Bd lo hi xs) (h1 : lo ≤ x) (h2 : x ≤ hi) : Bd lo hi (xs ++ [x]) := fun y hy => by
  rcases List.mem_append.mp hy with hy | hy
  · exact h y hy
  · simp at hy; subst hy; exact ⟨h1, h2⟩
theorem Bd.set {lo hi x : Int} {xs : List Int} {j : Nat} (h : Bd lo hi xs) (h1 : lo ≤ x) (h2 : x ≤ hi) : Bd lo hi (xs.set j x) := fun y hy => by
  rcases List.mem_or_eq_of_mem_set hy with hy | hy
  · exact h y hy
  · subst hy; exact ⟨h1, h2⟩
theorem Bd.ix {lo hi i : Int} {xs : List Int} (h : Bd lo hi xs) (h0 : 0 ≤ i) (h1 : i < xs.length) : ∃ y, atI xs i = some y ∧ lo ≤ y ∧ y ≤ hi := ⟨_, atI_nat h0 h1, h _ (List.getElem_mem _)⟩
theorem ixN_nat {n : Nat} {i : Int} (h0 : 0 ≤ i) (h1 : i < n) : ixN n i = some i.toNat := by
  unfold ixN
  rw [if_pos h0, if_pos h1]
theorem ixN_last {n : Nat} (h : 0 < n) : ixN n (-1) = some (n - 1) := by
  unfold ixN
  rw [if_neg (by omega), if_pos (by omega)]
  congr 1
  omega
@[simp ↓] theorem app_at0 {τ : Type} {hp l : List τ} : (hp ++ l)[hp.length]? = l[0]? := by rw [List.getElem?_append_right (by simp)]; simp
@[simp ↓] theorem app_atk {τ : Type} {hp l : List τ} {k : Nat} : (hp ++ l)[hp.length + k]? = l[k]? := by rw [List.getElem?_append_right (by simp)]; simp
@[simp ↓] theorem app_set0 {τ : Type} {hp l : List τ} {y : τ} : (hp ++ l).set hp.length y = hp ++ l.set 0 y := by rw [List.set_append_right _ _ (by simp)]; simp
@[simp ↓] theorem app_setk {τ : Type} {hp l : List τ} {k : Nat} {y : τ} : (hp ++ l).set (hp.length + k) y = hp ++ l.set k y := by rw [List.set_append_right _ _ (by simp)]; simp
@[simp] theorem take_app {τ : Type} {hp l : List τ} : (hp ++ l).take hp.length = hp := List.take_left' rfl
@[simp] theorem take_app2 {τ : Type} {hp l : List τ} {n : Nat} {o : τ} : (hp.set n o ++ l).take hp.length = hp.set n o := List.take_left' (by simp)
theorem at_app {τ : Type} {hp : List τ} {a : Nat} {o : τ} (h : hp[a]? = some o) (l : List τ) : (hp ++ l)[a]? = some o := by rw [List.getElem?_append_left (List.getElem?_eq_some_iff.mp h).1, h]
theorem set_app {τ : Type} {hp : List τ} {a : Nat} {o : τ} (h : hp[a]? = some o) (l : List τ) (y : τ) : (hp ++ l).set a y = hp.set a y ++ l := app_set3 (List.getElem?_eq_some_iff.mp h).1
theorem at_set_app {τ : Type} {hp : List τ} {a : Nat} {o : τ} (h : hp[a]? = some o) (l : List τ) (y : τ) : (hp.set a y ++ l)[a]? = some y := app_at3 (List.getElem?_eq_some_iff.mp h).1
@[simp] theorem iL_rep2 {k : Nat} {x : Int} : List.replicate k (D.int x) = iL (List.replicate k x) := (List.map_replicate ..).symm
/-- [F d for d in ds], nothing changed -/
theorem compH_map {v : Option Wk} {ds : List D} {G : MG} {Me : ME} {env : List (Option S)} {hp : List O} {R : List D → List O → Prop} {t : Tg (G, mYes, Me, R)} (F : D → D) (hst : still v ds hp) (hb : ds.length ≤ sizeLine)
    (hs : ∀ d ∈ ds, ∀ N : D → List O → Prop, N (F d) hp → G (.d d) ⟨hp, env, hp.length⟩ fun s1 => Me s1 (fun y hp3 => onH (isD y) (fun dy => N dy hp3) .mk) noX) (hn : R (ds.map F) hp) : compH v ds G mYes Me env hp R t := by
  refine compH_of (fun acc rest hp' => hp' = hp ∧ (∀ d ∈ rest, d ∈ ds) ∧ acc ++ rest.map F = ds.map F) hb ⟨rfl, fun _ h => h, rfl⟩ ?_ ?_
  · rintro acc d r _ N ⟨rfl, hm, e⟩ hN
    exact hs d (hm d List.mem_cons_self) N (hN _ _ hst ⟨rfl, fun x hx => hm x (List.mem_cons_of_mem _ hx), by rw [List.append_assoc]; exact e⟩)
  · rintro acc _ ⟨rfl, _, e⟩
    rw [List.map_nil, List.append_nil] at e
    rw [e]
    exact hn
theorem rng_mem {lo c : Int} {n : Nat} {d : D} (h : d ∈ rng lo c n) : ∃ i : Nat, i < n ∧ d = .int (lo + (i : Int) * c) := by
  obtain ⟨i, hi, e⟩ := List.mem_map.mp h
  exact ⟨i, List.mem_range.mp hi, e.symm⟩
end Mp

set_option Elab.async false
set_option linter.all false
set_option maxRecDepth 100000
set_option maxHeartbeats 4000000
/-! Mp15: more operators, calls. -/
namespace Mp
open PySem PySem.Spec PyProof.Rows L2
/-! ### name op= e, any op of data -/
def atS (env : List (Option S)) (i : Nat) : Option S := env[i]?.join
theorem atS_some {env : List (Option S)} {i : Nat} {x : S} (h : atS env i = some x) : env[i]? = some (some x) := by
  unfold atS at h
  cases g : env[i]? with
  | none => rw [g] at h; cases h
  | some o => rw [g] at h; cases o with
    | none => cases h
    | some y => cases h; rfl
def mAug2 (i : Nat) (f : F2) (Ma : ME) : MS := fun s k => on (atS s.env i) fun x => on (isD x) fun d1 => Ma s (fun y hp' => on (val hp' y) fun d2 => f d1 d2 fun d => k.nx { s with hp := hp', env := s.env.set i (some (.d d)) }) k.ex
theorem sim_aug2 {K : Frag} {W : WX} {r : R2} {t : TE} {f : F2} {Ma : ME} (i : Nat) (hr : Sim2 K r f) (ha : SimE K W t Ma) : SimS K W (tAug i t r) (mAug2 i f Ma) := by
  intro ρ α s H σ h k m D p
  obtain ⟨x, g, m⟩ := on.ex m
  obtain ⟨d1, g1, m⟩ := on.ex m
  obtain ⟨v1, h1, r1⟩ := h.env.2 i _ (atS_some g)
  refine ⟨v1, h1, ha α s H σ h.ok h.env _ _ m _ (fun v hp1 α1 H1 u m1 e1 w1 ru => ?_) (p.postX h.pre)⟩
  obtain ⟨d2, g2, m1⟩ := on.ex m1
  have hi := h.ext e1 w1
  have rr := (r1.mono e1).isD g1
  refine hr (Al α1 hp1) H1 d1 d2 v1 u w1.non rr.t (ru.val w1 g2) _ m1 _ fun d v' H' pd rp st => ?_
  obtain ⟨e4, w4⟩ := w1.grown st
  have hi4 := hi.ext e4 w4
  exact p.nx _ α1 H' _ pd ⟨hi4.pre, hi4.n0, hi4.ok, hi4.env.set (v := .d d) rp⟩ (e1.trans e4).step (e1.trans e4).pre.ban
theorem ip_mul {X : Cx} : PIp X .Mult (rI (fun i j => CMul i j ∨ CMulW i j) fun i j => .int (i * j)) := by
  intro pins s σ H x y v u Q I r1 r2 h
  obtain ⟨i, j, e1, e2, c, q⟩ := h
  subst e1; subst e2
  obtain ⟨t, rfl⟩ := r1
  obtain ⟨t', rfl⟩ := r2
  exact imul_int ⟨.int _, H, I.tok _, ⟨_, rfl⟩, q⟩ (c.elim CMul.ok CMulW.ok)
/-! ### all(..), any(..) of truth values -/
def blsD : List D → Option (List Bool)
  | [] => some []
  | .bl b :: r => (blsD r).bind fun l => some (b :: l)
  | _ => none
theorem bls_ok {K : Frag} {A : Av} {H : Hp} : ∀ {ds : List D} {vs : List V} {l : List Bool}, RepL K A H ds vs → blsD ds = some l → vs = l.map V.bl
  | [], _, l, h, e => by cases h; cases e; rfl
  | d :: ds, _, l, ⟨v, t, e0, h, ht⟩, e => by
    subst e0
    cases d with
    | bl b =>
      have e1 : ((blsD ds).bind fun l => some (b :: l)) = some l := e
      cases g : blsD ds with
      | none => rw [g] at e1; cases e1
      | some l' =>
        rw [g] at e1
        cases e1
        cases (show v = .bl b from h)
        rw [bls_ok ht g]
        rfl
    | _ => cases e
def lstD : D → Option (List D)
  | .lst ds => some ds
  | _ => none
theorem lstD_rep {K : Frag} {A : Av} {H : Hp} {d : D} {v : V} {ds : List D} (h : RepT K A H d v) (e : lstD d = some ds) : ∃ a vs, v = .ref a ∧ SqL K H a vs ∧ RepL K A H ds vs := by
  cases d with
  | lst ds => cases e; obtain ⟨a, vs, e1, h1, r⟩ := h; exact ⟨a, vs, e1, .inl (.inl h1), r⟩
  | _ => cases e
def fQ (q : List Bool → Bool) : FN := fun ds P => one ds fun d => on (lstD d) fun xs => on (blsD xs) fun l => P (.bl (q l))
def rQ (K : Frag) (q : List Bool → Bool) : List V → Hp → VK → Prop := fun vs H Q => ∃ (a : Addr) (bs : List Bool), vs = [V.ref a] ∧ SqL K H a (bs.map V.bl) ∧ Q (.bl (q bs)) H
theorem sim_q {K : Frag} {q : List Bool → Bool} : SimN K (rQ K q) (fQ q) := by
  intro A H ds vs hA r P p Q hq
  obtain ⟨d, v, rfl, r, p⟩ := p.ex r
  obtain ⟨xs, e, p⟩ := on.ex p
  obtain ⟨l, e2, p⟩ := on.ex p
  obtain ⟨a, vs, rfl, h, r2⟩ := lstD_rep r e
  cases bls_ok r2 e2
  exact ⟨a, l, rfl, h, hq _ _ _ p rfl (.inl rfl)⟩
section
variable {X : Cx} {W : WX} {a b c e : Expr} {es : List Expr} {pos : Pos} {ta tb tc te : TE} {Ma Mb Mc Me : ME} {tA : TA} {MA' : MA}
theorem call_all (K : Frag) (hc : X.calm = true) (hK : X.K = K := by rfl) : CallR X (.builtin "all") (rQ K fun l => l.all id) := by subst hK; exact cr_all hc
theorem call_any (K : Frag) (hc : X.calm = true) (hK : X.K = K := by rfl) : CallR X (.builtin "any") (rQ K fun l => l.any id) := by subst hK; exact cr_any hc
theorem ds_aug2 (i : Nat) {x : Str} {p' : Pos} {op : Operator} {r : R2} {f : F2} (hN : X.N.Nodup) (h : DE X W e te Me) (ho : PIp X op r) (hr : Sim2 X.K r f) (hi : X.N[i]? = some x := by rfl) (hx : Loc X.env.scope x := by first | exact Or.inl rfl | exact Or.inr rfl)
    (hf : X.fn x = true ∨ X.env.scope.names.lookup x = some .local := by first | exact .inl rfl | exact .inr rfl) : DS X W (.AugAssign (.Name x p') op e pos) (tAug i te r) (mAug2 i f Me) := ⟨ps_aug hN hi hx h.p ho hf, sim_aug2 i hr h.s⟩
/-! f() -/
theorem pe_callSD0 {CX : CXT} {k : Nat} {f : Addr} {fd : FuncData} {ps : List Str} {sp : Sp} {dvs : List V} {ds : List Value} {E : L2.St → XK} {x : Str} {p : Pos} (F : FnOk X.prog X.w X.K X.mg X.base CX k f fd ps sp) (hr : Room k X.A) (hg : Gl X x) (hm : X.mg x = some (.ref f)) (hk : PySem.W.keepIn X.K (.ref f) = true) (hb : Binds X.K fd ps ds) (hd : Vals dvs ds) (hx : ∀ σ, PassesAt CX X σ (E σ))
    (hdb : (x == ("__debug__" : Str)) = false := by decide) : PE X (.Call (.Name x p) [] [] pos) (tCallSD sp dvs E tNil) := by
  refine ⟨fun pins s σ H Q I h => ?_⟩
  refine wpAny_Call_Name_kw (ld_glob I hg hm ?_ hdb)
  exact PySem.W.callWith_K0 I.kIn hk (run_fnSD (us := []) F hr hb hd (hx σ) I .nil h)
theorem de_call0 (K : Frag) {x : Str} {k n : Nat} {f : Addr} {fd : FuncData} {ps : List Str} {fr : Bool} {M : MF} {ds : List Value} {dvs : List V} {dd : List D} {p : Pos} (F : FnOk X.prog X.w K X.mg X.base (L2.CX X.prog X.w) k f fd ps (spM K n fr M)) (tk : Takes X W) (hr : Room k X.A) (hg : Gl X x) (hm : X.mg x = some (.ref f))
    (hk : PySem.W.keepIn K (.ref f) = true) (hb : Binds K fd ps ds) (hd : Vals dvs ds) (hdd : ∀ A H, RepL K A H dd dvs) (hdb : (x == ("__debug__" : Str)) = false := by decide) (hK : X.K = K := by rfl) :
    DE X W (.Call (.Name x p) [] [] pos) (tCallSD (spM K n fr M) dvs (WE W) tNil) (mCall n M dd mNil) := by subst hK; exact ⟨pe_callSD0 F hr hg hm hk hb hd (fun σ => passAt tk σ) hdb, sim_call hdd sim_nil⟩
theorem de_callM0 (K : Frag) {x : Str} {k n : Nat} {f : Addr} {fd : FuncData} {ps : List Str} {M : MF} {ds : List Value} {dvs : List V} {dd : List D} {p : Pos} (F : FnOk X.prog X.w K X.mg X.base (L2.CX X.prog X.w) k f fd ps (spM K n true M)) (tk : Takes X W) (hr : Room k X.A) (hg : Gl X x) (hm : X.mg x = some (.ref f))
    (hk : PySem.W.keepIn K (.ref f) = true) (hb : Binds K fd ps ds) (hd : Vals dvs ds) (hdd : ∀ A H, RepL K A H dd dvs) (hdb : (x == ("__debug__" : Str)) = false := by decide) (hK : X.K = K := by rfl) :
    DE X W (.Call (.Name x p) [] [] pos) (tCallSD (spM K n true M) dvs (WE W) tNil) (mCallM n M dd mNil) := by subst hK; exact ⟨pe_callSD0 F hr hg hm hk hb hd (fun σ => passAt tk σ) hdb, sim_callM hdd sim_nil⟩
end
/-! running -/
section
variable {hp : List O} {env : List (Option S)} {n : Nat} {Ma : ME} {nx bk ct : PS → Prop} {rt : S → List O → Prop} {ex : MX}
@[simp ↓] theorem x_aug2 {i : Nat} {f : F2} : mAug2 i f Ma ⟨hp, env, n⟩ ⟨nx, bk, ct, rt, ex⟩ = onH (atS env i) (fun x => onH (isD x) (fun d1 => Ma ⟨hp, env, n⟩ (fun y hp' => onH (val hp' y) (fun d2 => f d1 d2 fun d => nx ⟨hp', env.set i (some (.d d)), n⟩) .mk) ex) .mk) .mk := nr rfl
@[simp] theorem atS_eq {i : Nat} : atS env i = env[i]?.join := rfl
def bL (xs : List Bool) : List D := xs.map D.bl
@[simp] theorem blsD_bL : ∀ {xs : List Bool}, blsD (bL xs) = some xs
  | [] => rfl
  | b :: xs => by
    show ((blsD (bL xs)).bind fun l => some (b :: l)) = _
    rw [blsD_bL]
    rfl
@[simp ↓] theorem xfQ {q : List Bool → Bool} {x : List D} {P : D → Prop} : fQ q [.lst x] P = onH (blsD x) (fun l => P (.bl (q l))) .mk := nr rfl
end
/-! ### x is True, xs[::-1], lists made by + or * that will be changed -/
def fIsB (neg : Bool) : F2 := fun a b P => on (asB' a) fun x => on (asB' b) fun y => P (.bl (neg != decide (x = y)))
theorem sim_isB {K : Frag} : Sim2 K rIsB (fIsB false) := by
  intro A H d1 d2 v1 v2 hA r1 r2 P p Q q
  obtain ⟨x, e1, p⟩ := on.ex p
  obtain ⟨y, e2, p⟩ := on.ex p
  cases r1.asB e1
  cases r2.asB e2
  exact ⟨x, y, rfl, rfl, q _ _ _ p (by show V.bl _ = V.bl _; simp) (.inl rfl)⟩
theorem sim_notB {K : Frag} : Sim2 K rNotB (fIsB true) := by
  intro A H d1 d2 v1 v2 hA r1 r2 P p Q q
  obtain ⟨x, e1, p⟩ := on.ex p
  obtain ⟨y, e2, p⟩ := on.ex p
  cases r1.asB e1
  cases r2.asB e2
  exact ⟨x, y, rfl, rfl, q _ _ _ p (by show V.bl _ = V.bl _; simp) (.inl rfl)⟩
def mRev (Ma : ME) : ME := fun s R Xp => Ma s (fun x hp1 => on (val hp1 x) fun d => on (slOf d) fun ds => R (.d (.lst ds.reverse)) hp1) Xp
def mRevM (Ma : ME) : ME := fun s R Xp => Ma s (fun x hp1 => on (val hp1 x) fun d => on (slOf d) fun ds => R (.mu hp1.length) (hp1 ++ [.lst ds.reverse])) Xp
theorem slOf_rep {K : Frag} {A : Av} {H : Hp} {d : D} {v : V} {ds : List D} (h : RepT K A H d v) (e : slOf d = some ds) : ∃ a vs, v = .ref a ∧ SqL K H a vs ∧ RepL K A H ds vs := by
  cases d with
  | lst ds => cases e; obtain ⟨a, vs, e1, h1, r⟩ := h; exact ⟨a, vs, e1, .inl (.inl h1), r⟩
  | fl ds => cases e; exact fl_sq (h : Rep K A H (.fl _) v)
  | _ => cases e
theorem RepL.rev {K : Frag} {A : Av} {H : Hp} : ∀ {ds : List D} {vs : List V}, RepL K A H ds vs → RepL K A H ds.reverse vs.reverse
  | [], _, h => by cases h; rfl
  | d :: ds, _, ⟨v, r, e, h1, h2⟩ => by
    subst e
    rw [List.reverse_cons, List.reverse_cons]
    exact (RepL.rev h2).append ⟨v, [], rfl, h1, rfl⟩
theorem sim_rev {K : Frag} {W : WX} {t : TE} {Ma : ME} (ha : SimE K W t Ma) : SimE K W (tRevL K t) (mRev Ma) := by
  intro α s H σ w e R Xp m Q q qx
  refine ha α s H σ w e _ _ m _ (fun x hp1 α1 H1 v1 m1 e1 w1 r1 => ?_) qx
  obtain ⟨d, g1, m1⟩ := on.ex m1
  obtain ⟨ds, g2, m1⟩ := on.ex m1
  obtain ⟨a, vs, rfl, h1, r⟩ := slOf_rep (r1.val w1 g1) g2
  refine ⟨a, vs, rfl, h1, fun l hl => ?_⟩
  obtain ⟨e4, w4⟩ := w1.grown (.inr ⟨l, .lst vs.reverse, hl, rfl⟩)
  exact q _ _ α1 _ _ m1 (e1.trans e4) w4 (new_lst w1.non hl r.rev)
theorem sim_revM {K : Frag} {W : WX} {t : TE} {Ma : ME} (ha : SimE K W t Ma) : SimE K W (tRevL K t) (mRevM Ma) := by
  intro α s H σ w e R Xp m Q q qx
  refine ha α s H σ w e _ _ m _ (fun x hp1 α1 H1 v1 m1 e1 w1 r1 => ?_) qx
  obtain ⟨d, g1, m1⟩ := on.ex m1
  obtain ⟨ds, g2, m1⟩ := on.ex m1
  obtain ⟨a, vs, rfl, h1, r⟩ := slOf_rep (r1.val w1 g1) g2
  refine ⟨a, vs, rfl, h1, fun l hl => ?_⟩
  obtain ⟨α2, w2, e2, r3⟩ := new_mu w1 hl r.rev
  exact q _ _ α2 _ _ m1 (e1.trans e2) w2 r3
def mAddM (Ma Mb : ME) : ME := fun s R Xp => Ma s (fun x hp1 => Mb { s with hp := hp1 } (fun y hp2 => on (val hp2 x) fun d1 => on (val hp2 y) fun d2 => on (lstD d1) fun xs => on (lstD d2) fun ys => xs.length + ys.length ≤ sizeLine ∧ R (.mu hp2.length) (hp2 ++ [.lst (xs ++ ys)])) Xp) Xp
theorem sim_addM {K : Frag} {W : WX} {ta tb : TE} {Ma Mb : ME} (ha : SimE K W ta Ma) (hb : SimE K W tb Mb) : SimE K W (tOp (rAddA K) ta tb) (mAddM Ma Mb) := by
  intro α s H σ w e R Xp m Q q qx
  refine ha α s H σ w e _ _ m _ (fun x hp1 α1 H1 v1 m1 e1 w1 r1 => ?_) qx
  refine hb α1 { s with hp := hp1 } H1 σ w1 (e.mono e1) _ _ m1 _ (fun y hp2 α2 H2 v2 m2 e2 w2 r2 => ?_) (qx.at e1)
  obtain ⟨d1, g1, m2⟩ := on.ex m2
  obtain ⟨d2, g2, m2⟩ := on.ex m2
  obtain ⟨xs, g3, m3⟩ := on.ex m2
  obtain ⟨ys, g4, hz, m4⟩ := on.ex m3
  have t1 := (r1.mono e2).val w2 g1
  have t2 := r2.val w2 g2
  cases d1 with
  | lst xs' =>
    cases g3
    cases d2 with
    | lst ys' =>
      cases g4
      obtain ⟨a, vs, rfl, h1, k1⟩ := t1
      obtain ⟨b, us, rfl, h2, k2⟩ := t2
      refine .inr (.inr (.inl ⟨a, b, vs, us, rfl, rfl, h1, h2, by rw [← k1.length, ← k2.length]; exact hz, fun l hl => ?_⟩))
      obtain ⟨α3, w3, e3, r3⟩ := new_mu w2 hl (k1.append k2)
      exact q _ _ α3 _ _ m4 ((e1.trans e2).trans e3) w3 r3
    | _ => cases g4
  | _ => cases g3
section
variable {X : Cx} {W : WX} {a b c e : Expr} {pos : Pos} {ta tb : TE} {Ma Mb : ME}
theorem de_rev (K : Frag) {k : Nat} {p1 p2 p3 : Pos} (ha : DE X W a ta Ma) (hK : X.K = K := by rfl) : DE X W (.Subscript a (.Slice none none (some (.UnaryOp .USub (.Constant (.int 1) k p1) p2)) p3) pos) (tRevL K ta) (mRev Ma) := by subst hK; exact ⟨pe_revL ha.p, sim_rev ha.s⟩
theorem de_revM (K : Frag) {k : Nat} {p1 p2 p3 : Pos} (ha : DE X W a ta Ma) (hK : X.K = K := by rfl) : DE X W (.Subscript a (.Slice none none (some (.UnaryOp .USub (.Constant (.int 1) k p1) p2)) p3) pos) (tRevL K ta) (mRevM Ma) := by subst hK; exact ⟨pe_revL ha.p, sim_revM ha.s⟩
theorem de_addM (K : Frag) (ha : DE X W a ta Ma) (hb : DE X W b tb Mb) (hK : X.K = K := by rfl) : DE X W (.BinOp a .Add b pos) (tOp (rAddA K) ta tb) (mAddM Ma Mb) := by subst hK; exact ⟨pe_op op_addA ha.p hb.p, sim_addM ha.s hb.s⟩
end
section
variable {hp : List O} {env : List (Option S)} {n : Nat} {R : S → List O → Prop} {Xp : MX} {Ma Mb : ME} {P : D → Prop}
@[simp ↓] theorem xfIsB {neg x y : Bool} : fIsB neg (.bl x) (.bl y) P = P (.bl (neg != decide (x = y))) := nr rfl
@[simp ↓] theorem x_rev : mRev Ma ⟨hp, env, n⟩ R Xp = Ma ⟨hp, env, n⟩ (fun x hp1 => onH (val hp1 x) (fun d => onH (slOf d) (fun ds => R (.d (.lst ds.reverse)) hp1) .mk) .mk) Xp := nr rfl
@[simp ↓] theorem x_revM : mRevM Ma ⟨hp, env, n⟩ R Xp = Ma ⟨hp, env, n⟩ (fun x hp1 => onH (val hp1 x) (fun d => onH (slOf d) (fun ds => R (.mu hp1.length) (hp1 ++ [.lst ds.reverse])) .mk) .mk) Xp := nr rfl
@[simp] theorem lstD_lst {ds : List D} : lstD (.lst ds) = some ds := rfl
@[simp ↓] theorem x_addM : mAddM Ma Mb ⟨hp, env, n⟩ R Xp = Ma ⟨hp, env, n⟩ (fun x hp1 => Mb ⟨hp1, env, n⟩ (fun y hp2 => onH (val hp2 x) (fun d1 => onH (val hp2 y) (fun d2 => onH (lstD d1) (fun xs => onH (lstD d2) (fun ys => xs.length + ys.length ≤ sizeLine ∧ R (.mu hp2.length) (hp2 ++ [.lst (xs ++ ys)])) .mk) .mk) .mk) .mk) Xp) Xp := nr rfl
end
end Mp

set_option Elab.async false
set_option linter.all false
set_option maxRecDepth 100000
set_option maxHeartbeats 4000000
/-! Mx0: an exception class of the program whose __init__ says super().__init__(f'..{place}') and self.place = place. -/
namespace Mp
open PySem PySem.Spec PyProof.Rows L2

/-- what the written part says of such a class -/
structure XcOk (P : Program) (K : Frag) (C f cc cda : Addr) (qual : Str) (params : Arguments) (body : List Stmt) (scope : Scope) (fd : FuncData) : Prop where
  ox : OexC K C
  fn : ∃ oc od kV doc pm an ct osl, fd = PySem.W.ksFn "__init__" qual params body scope .none kV doc pm an (.ref cda) ct cc ∧ K.lookup f = some ⟨oc, od, .func fd, osl⟩
  cd : PySem.W.codeIn K (.ref cda) qual = true
  code : ∃ ccl cdd vs ccs file tf, K.lookup cda = some ⟨ccl, cdd, .fields vs, ccs⟩ ∧ vs[2]? = some (.str file tf) ∧ ((P.main.file : Str) == file) = true
  cell : ∃ cl cld csl, K.lookup cc = some ⟨cl, cld, .cell (some (.ref C)), csl⟩
  pl : PySem.W.findIn K (.ref C) "place" = some none
  op : PySem.W.nsIn K cStatics "thirdparty.any" = some none
  su : PySem.W.ks_superIn K C C "__init__" = some (some (.builtin "ValueError.__init__"))
  ve : PySem.W.subIn K (.ref C) (.type "ValueError") = some true
  sup : PySem.W.mroIn K C (.ref C) = some true
/-- its scope -/
structure XcSc (P : Program) (params : Arguments) (scope : Scope) : Prop where
  kind : scope.kind = .function
  co : scope.isCoroutine = false
  gen : scope.isGenerator = false
  nocell : ∀ y ∈ scope.names, y.2 ≠ .cell
  free : ∀ y ∈ scope.names, y.2 = .free → y.1 = ("__class__" : Str)
  self : scope.names.lookup ("self" : Str) = some .local
  place : scope.names.lookup ("place" : Str) = some .local
  sup : scope.names.lookup ("super" : Str) = some .globalImplicit
  cls : scope.names.lookup ("__class__" : Str) = some .free
  hd : ∃ ar, (params.posonlyargs ++ params.args).head? = some ar ∧ ar.arg = ("self" : Str)
  top : (P.main.scope.names.lookup ("super" : Str)).isSome = false
/-- its promise: the exception gets its dict with the place -/
def spXI (C : Addr) : Sp := fun vs H Q _ => ∃ (a : Addr) (n : Int), vs = [.ref a, .int n] ∧ n.natAbs.log2 < 1920 ∧ H a = some (exo a C none) ∧
  ∀ dx, H dx = none → dx ≠ a → Q .non (upd (upd H dx (exd dx [("place", .int n)])) a (exo a C (some dx)))
/-- the context of its body -/
def cxX (P : Program) (w : World) (K : Frag) (mg : Str → Option Value) (base : Heap) (env : Env) (A : Around) (outer : List Env) (s : Shared) (H : Hp) (E : XK) : Cx where
  prog := P
  w := w
  K := K
  mg := mg
  base := base
  A := A.deeper env
  N := ["self", "place"]
  s_0 := s
  H_0 := H
  env := env
  outer := outer
  stack := env :: outer
  ex := []
  calm := true
  fn := fun _ => false
  pn := []
  xe := fun e s' => wpAny (model P w) (A.deeper env) (leaving env e) (fun _ s'' => L2.CX P w outer H s E e s'') (fun e' s'' => L2.CX P w outer H s E e' s'') s'
theorem look_one {x y : Str} {c d : Addr} (h : ([(x, d)] : List (Str × Addr)).lookup y = some c) : y = x ∧ c = d := by
  have e : (if y = x then some d else none) = some c := by
    by_cases z : y = x
    · subst z
      simpa using h
    · have : (y == x) = false := by simpa using z
      simp [List.lookup, this] at h
  by_cases z : y = x
  · rw [if_pos z] at e
    exact ⟨z, (Option.some.inj e).symm⟩
  · rw [if_neg z] at e
    cases e
theorem inv_x {P : Program} {w : World} {K : Frag} {mg : Str → Option Value} {base : Heap} {qual : Str} {params : Arguments} {scope : Scope} {f cc cda : Addr} {A : Around} {outer : List Env} {s : Shared} {H : Hp} {E : XK} {h1 : Heap} {tk : Nat} {a : Addr} {n : Int} {t : Nat} {oc : Obj} {v0 : Option Value}
    (S : XcSc P params scope) (hd : A.handled = none) (e0 : Env0 P w K mg base A outer s H) (hcc : base.get? cc = some oc) (hcd : oc.data = .cell v0)
    (hns : h1.Ns s.heap.objs.size (fun x => (([("self", .ref a), ("place", .int n t)] : List (Str × Value)).reverse).lookup x)) (hk : ∀ b o, s.heap.get? b = some o → h1.get? b = some o) :
    Inv (cxX P w K mg base (PySem.W.ksEnv qual scope s.heap.objs.size f (.ref cda) cc) A outer s H E) [] [some (.ref a), some (.int n)] H { s with heap := h1, toks := tk } := by
  have noA : ∀ b : Addr, b ∉ (cxX P w K mg base (PySem.W.ksEnv qual scope s.heap.objs.size f (.ref cda) cc) A outer s H E).ex := fun b z => absurd (show b ∈ ([] : List Addr) from z) (by simp)
  have hcc' := e0.bs cc oc hcc
  refine ⟨⟨e0.mod, S.kind, rfl, rfl, Nat.le_refl _, fun y z c h1 h2 => ?_, fun y hy => ?_, fun y c hf _ => (Bool.noConfusion (show false = true from hf)), fun _ => hd, Around.frames_deeper e0.frames, .inr ⟨rfl, rfl⟩, fun b z => absurd z (noA b), e0.bs, e0.bsz, fun b _ _ => noA b, fun b z => absurd z (noA b), e0.funs, e0.frf⟩,
    rfl, e0.bare, Un.kept hk, ⟨_, hns, fun i y v h1 h2 h3 => ?_⟩, fun y c h => ?_, e0.hok.fresh (Nat.le_refl _), fun y c h => ?_, fun p hp => absurd (show p ∈ ([] : List (Addr × Obj)) from hp) (by simp), e0.hok.kept hk, rfl⟩
  · rw [(look_one h1).1, (look_one h2).1]
  · have hy : scope.names.lookup y = some .cell ∨ scope.names.lookup y = some .free := hy
    rcases hy with hy | hy
    · exact absurd rfl (S.nocell _ (PySem.mem_of_lookup hy))
    · have e : y = ("__class__" : Str) := S.free _ (PySem.mem_of_lookup hy) rfl
      subst e
      exact ⟨cc, rfl⟩
  · match i, h1, h2 with
    | 0, h1, h2 =>
      cases h1
      cases h2
      exact ⟨.ref a, rfl, .inl ⟨S.self, by rfl⟩⟩
    | 1, h1, h2 =>
      cases h1
      cases h2
      exact ⟨.int n t, ⟨t, rfl⟩, .inl ⟨S.place, by rfl⟩⟩
    | i + 2, h1, _ => simp [cxX] at h1
  · obtain ⟨_, rfl⟩ := look_one h
    exact ⟨v0, oc, hk _ _ hcc'.1, hcd⟩
  · obtain ⟨_, rfl⟩ := look_one h
    exact hcc'.2

/-- the body of such an __init__ -/
def xBody (lit : Str) (j : Nat) (p0 p1 p2 p3 p4 p5 p6 p7 p8 p9 p10 p11 p12 : Pos) : List Stmt :=
  [.Expr (.Call (.Attribute (.Call (.Name "super" p0) [] [] p1) "__init__" p2) [.JoinedStr [.Constant (.str lit) j p3, .FormattedValue (.Name "place" p4) (-1) none p5] p6] [] p7) p8,
   .Assign [.Attribute (.Name "self" p9) "place" p10] (.Name "place" p11) p12]
theorem fn_xinit {P : Program} {w : World} {K : Frag} {mg : Str → Option Value} {base : Heap} {qual : Str} {params : Arguments} {body : List Stmt} {scope : Scope} {C f cc cda : Addr} {fd : FuncData} {lit : Str} {j : Nat} {p0 p1 p2 p3 p4 p5 p6 p7 p8 p9 p10 p11 p12 : Pos} {pl : Sem Bool}
    (Z : XcOk P K C f cc cda qual params body scope fd) (S : XcSc P params scope) (hb : body = xBody lit j p0 p1 p2 p3 p4 p5 p6 p7 p8 p9 p10 p11 p12) (hlit : lit.length ≤ 1000) (hmg : mg "super" = none)
    (hsw1 : ∀ env : Env, swapsWith (.Call (.Attribute (.Call (.Name "super" p0) [] [] p1) "__init__" p2) [.JoinedStr [.Constant (.str lit) j p3, .FormattedValue (.Name "place" p4) (-1) none p5] p6] [] p7) none p8.line env = pure false)
    (hsw2 : ∀ env : Env, swapsWith (.Name "place" p11) (some (.Attribute (.Name "self" p9) "place" p10)) p12.line env = pure false)
    (hj : ∀ env : Env, eval (.Call (.Attribute (.Call (.Name "super" p0) [] [] p1) "__init__" p2) [.JoinedStr [.Constant (.str lit) j p3, .FormattedValue (.Name "place" p4) (-1) none p5] p6] [] p7) env = (do
      let ov ← attributeBase (.Call (.Name "super" p0) [] [] p1) "__init__" env (eval (.Call (.Name "super" p0) [] [] p1) env)
      standAt p2.atName
      let (f, first) ← holding [ov] (getMethod ov "__init__" pl)
      callWith p7 f first (backTo p7 (starEach [.JoinedStr [.Constant (.str lit) j p3, .FormattedValue (.Name "place" p4) (-1) none p5] p6] env)) [])) :
    FnOk P w K mg base (L2.CX P w) 1 f fd ["self", "place"] (spXI C) := by
  obtain ⟨oc, od, kV, doc, pm, an, ct, osl, rfl, lk⟩ := Z.fn
  obtain ⟨ccl, cdd, cvs, ccs, file, tf, hcode, hvs, hfile⟩ := Z.code
  obtain ⟨ecl, ecd, ecs, hcell⟩ := Z.cell
  obtain ⟨ar, har, harn⟩ := S.hd
  obtain ⟨nm, qn, N, bs, bm, sn, sub, ab, col, dd, k0, k1, k2, k3, k5, hC, hbm⟩ := Z.ox.cls
  have hcl : PySem.W.clsIn K C = some { name := nm, bases := bs, mro := .ref C :: bm, ns := N, qualname := qn, hasDict := true, slotNames := sn, subclasses := sub, abstract := ab, collection := col, hasDel := false } := by unfold PySem.W.clsIn; rw [hC] <;> rfl
  subst hb
  refine ⟨fun vs H Q E h => by obtain ⟨a, n, rfl, _⟩ := h; rfl, fun A outer s H args us vs Q E hr e0 hbd r hsp => ?_⟩
  obtain ⟨a, n, rfl, hlog, ha, hq⟩ := hsp
  cases r with
  | @cons _ u0 _ ur ra r =>
  cases r with
  | @cons _ u1 _ ur rn r =>
  cases r
  obtain rfl : u0 = Value.ref a := ra
  obtain ⟨t, rfl⟩ := rn
  have KX : K.In s.heap := e0.mod.kin.keeps fun b o e => (e0.bs b o e).1
  have lim : s.heap.NoLimit := e0.mod.nolimit.keeps fun b o e => (e0.bs b o e).1
  refine ks_codeAny_call_defAt hr.depth (KX _ _ lk) rfl lim (PySem.W.codeRec_of KX Z.cd) rfl hbd S.nocell (fun y hy => ?_) (fun h1 hns hk => ?_) S.co S.gen S.kind
  · have hy' : y ∈ ([("self", Value.ref a), ("place", Value.int n t)] : List (Str × Value)) := hy
    simp only [List.mem_cons, List.not_mem_nil, or_false] at hy'
    rcases hy' with rfl | rfl
    · exact S.self
    · exact S.place
  have kk : ∀ b o, s.heap.get? b = some o → h1.get? b = some o := hk
  have I : Inv (cxX P w K mg base (PySem.W.ksEnv qual scope s.heap.objs.size f (.ref cda) cc) A outer s H E) [] [some (.ref a), some (.int n)] H { s with heap := h1, toks := s.toks + 2 } := inv_x S hr.hd e0 (e0.mod.kin _ _ hcell) rfl hns kk
  have K1 : K.In h1 := KX.keeps kk
  show PySem.wpAt (model P w) (A.deeper (PySem.W.ksEnv qual scope s.heap.objs.size f (.ref cda) cc)) (.func _ (PySem.W.ksEnv qual scope s.heap.objs.size f (.ref cda) cc)) (execs (xBody lit j p0 p1 p2 p3 p4 p5 p6 p7 p8 p9 p10 p11 p12) (PySem.W.ksEnv qual scope s.heap.objs.size f (.ref cda) cc)) _ _ _
  have hint : interactive (PySem.W.ksEnv qual scope s.heap.objs.size f (.ref cda) cc) = false := by
    have hkd := S.kind
    unfold interactive
    simp [hkd]
  refine ks_wpAt_execs_cons (ks_wpAt_Expr_any (ks_wpAt_MethodCall (pl := pl) ?_ (hj _)) hint (hsw1 _))
  refine ks_wpAt_super_base S.sup S.cls (by decide) rfl (K1 _ _ lk) rfl har rfl (K1 _ _ hcode) rfl hvs hfile S.top ?_
  obtain ⟨mb, hb1, hb2⟩ := I.mod.blt
  refine PySem.W.ks_loadName_global S.kind S.sup (Calls.loadGlobal_builtin (I.mod.glob.keeps I.bk) hmg (hb1.keeps I.bk) ((hb2 "super" (by decide)).trans (by first | rfl | kernel_rfl)) ⟨rfl, ?_⟩)
  refine wpAny_loadName_free S.kind S.cls rfl ⟨_, K1 _ _ hcell, rfl⟩ ?_
  rw [harn]
  refine wpAny_loadName_local (v := .ref a) S.kind S.self hns (by rfl) ?_
  refine ks_wpAny_isType_cls (K1 _ _ hC) rfl ⟨rfl, ?_⟩
  obtain ⟨t1, hoa⟩ := exo_at I.hok ha
  refine ks_wpAny_call_super (K1 _ _ hC) rfl hoa rfl (fun c e => by cases e) (PySem.W.looks_mroIn K1 Z.sup) (fun h2 hso k2 => ?_)
  have I2 := I.kept (t' := s.toks + 2) k2
  have K2 : K.In h2 := K1.keeps k2
  obtain ⟨t2, hoa2⟩ := exo_at I2.hok ha
  have hne : a ≠ C := fun z => by
    have z1 := K2 _ _ hC
    rw [← z, hoa2] at z1
    cases z1
  have hsu : PySem.W.alongIn K "__init__" (((Value.ref C :: bm).dropWhile (· != .ref C)).drop 1) = some (some (.builtin "ValueError.__init__")) := by
    have z := Z.su
    unfold PySem.W.ks_superIn at z
    rw [hcl] at z
    exact z
  have hinst : PySem.W.Looks (model P w) h2 (isInstance (.ref a) (.type "ValueError")) true := PySem.W.Looks.andThen (fun A Q E s k q => wpAny_typeOf_ref (k _ _ hoa2) q) (PySem.W.looks_subIn K2 Z.ve)
  refine PySem.W.kxs_getMethod PySem.W.kxs_ValueError hso (PySem.W.looks_opaque K2 Z.op) (l₀ := Value.ref C :: bm) ?_ rfl K2 hsu hinst hne (by decide) ?_
  · exact fun A Q E s k q => wpAny_bind ((PySem.W.looks_clsIn K2 hcl) A _ E s k (wpAny_pure q))
  have hu : (h2.push (PySem.W.kxs_mw "ValueError.__init__" a)).get? h2.objs.size = some (PySem.W.kxs_mw "ValueError.__init__" a) := Heap.get?_push_at rfl rfl
  have k3 : ∀ b o, h2.get? b = some o → (h2.push (PySem.W.kxs_mw "ValueError.__init__" a)).get? b = some o := fun b o e => Heap.get?_push_of_some _ e
  have I3 := I2.kept (t' := s.toks + 2 + 1) k3
  have sz : h2.objs.size ≤ h2.objs.size := Nat.le_refl _
  have I4 : Inv (cxX P w K mg base (PySem.W.ksEnv qual scope s.heap.objs.size f (.ref cda) cc) A outer s H E) [(h2.objs.size, PySem.W.kxs_mw "ValueError.__init__" a)] [some (.ref a), some (.int n)] H _ := I3.pins_of fun p hp => by
    rw [List.mem_singleton.mp hp]
    exact ⟨hu, I2.hok.fresh sz, fun z => absurd I2.lt (by rw [← z]; exact Nat.lt_irrefl _), I2.nofs sz, fun v z => by cases z⟩
  have hfs : PA (cxX P w K mg base (PySem.W.ksEnv qual scope s.heap.objs.size f (.ref cda) cc) A outer s H E) [.JoinedStr [.Constant (.str lit) j p3, .FormattedValue (.Name "place" p4) (-1) none p5] p6] _ :=
    pa_cons (pe_joined (.cons pe_str (.cons (pe_fmt (pe_var (i := 1) (by rfl) (.inl S.place))) .nil))) pa_nil
  refine PySem.W.kxs_callWith (i := "ValueError.__init__") (x := a) (by rfl) (Calls.evalArgs_plain (thn (hfs.run p7 _ _ _ _ (fun vs H1 => H1 = H ∧ vs.length = 1) I4 ?_) fun us s1 ⟨vs, H1, I5, rv, e1, e2⟩ => ?_))
  · refine ⟨lit, rfl, ?_, .int n, rfl, .inr ⟨n, rfl, hlog, _, rfl, ?_, rfl, rfl⟩⟩
    · have := hlit
      rw [sizeLine_eq]
      simp only [Str.length_append]
      show 0 + _ ≤ _
      omega
    · have := int_text_len_1921 hlog
      rw [sizeLine_eq]
      simp only [Str.length_append]
      show 0 + _ + _ ≤ _
      omega
  rw [e1] at I5
  obtain ⟨hu5, _⟩ := I5.pin (h2.objs.size, PySem.W.kxs_mw "ValueError.__init__" a) (by show _ ∈ ([] ++ [_] : List (Addr × Obj)); simp)
  refine ⟨hu5, ?_⟩
  have hus : us.length ≤ sizeLine := by
    rw [← rv.length, e2, sizeLine_eq]
    omega
  obtain ⟨t5, hoa5⟩ := exo_at I5.hok ha
  obtain ⟨g5, gg5, d5, tk5, os5⟩ := s1
  have hC5 := I5.kIn _ _ hC
  refine wpAny_call (codeAny_of_tree ?_)
  show wpAny _ (A.deeper (PySem.W.ksEnv qual scope s.heap.objs.size f (.ref cda) cc)).in1 (callAny (.ref h2.objs.size) ⟨us, []⟩) _ _ _
  simp only [callAny]
  refine wpAny_bind (wpAny_load hu5 ?_)
  have q1 : (Value.type "method-wrapper" == Value.type "method" || Value.type "method-wrapper" == Value.type "builtin_function_or_method" || Value.type "method-wrapper" == Value.type "method-wrapper") = true := by decide
  simp only [PySem.W.kxs_mw, q1, if_true]
  refine PySem.W.KFB.if_so (by decide) ?_
  refine wpAny_bind (PySem.W.check_bound_init F.excBase_ValueError.toExcCallFacts hC5 hoa5 rfl ?_)
  refine wpAny_bind (wpAny_pure (wpAny_pure ?_))
  refine ⟨plainId_quiet F.excBase_ValueError.init.plain _, codeAny_builtin F.excBase_ValueError.initEntry ?_⟩
  refine PySem.W.exc_init_tree (cls := .ref C) (t0 := t5) (dv := none) (c2 := .none) (c3 := .none) (b4 := .bool false) hoa5 hus fun h6 k6 e6 _ => ?_
  have J := I5.write (t' := tk5) (x := a) (e := a) (o := exo a C none) (by rw [ha]; exact True.intro) (.inl rfl) k6 ⟨_, e6⟩ (exo_ok e6)
  have eu : upd H a (exo a C none) = H := by
    funext b
    by_cases hb : b = a
    · rw [hb, upd_same, ha]
    · rw [upd_ne hb]
  rw [eu] at J
  have J0 := J.pins_of (pins' := []) (fun p hp => absurd hp (by simp))
  have hrest : PSs (cxX P w K mg base (PySem.W.ksEnv qual scope s.heap.objs.size f (.ref cda) cc) A outer s H E) [.Assign [.Attribute (.Name "self" p9) "place" p10] (.Name "place" p11) p12] _ :=
    pss_one (ps_ost (pe_var (i := 0) (by rfl) (.inl S.self)) (pe_var (i := 1) (by rfl) (.inl S.place)) (hsw2 _))
  show PySem.wpAt _ _ _ (execs [.Assign [.Attribute (.Name "self" p9) "place" p10] (.Name "place" p11) p12] _) _ _ _
  refine wpAt_of_wpAny (wpAny_mono (hrest.run [] _ _ H { nx := fun _ H' => Q .non H', rt := Q, bk := fun _ _ => False, ct := fun _ _ => False } J0 ?_) (fun fl s' hs => ?_) fun e s' hs => hs)
  · exact ⟨_, rfl, _, rfl, a, C, rfl, Z.ox, Z.pl, .inl ⟨ha, hq⟩⟩
  · cases fl with
    | ret u =>
      obtain ⟨v, σ', H', J, rv, q⟩ := hs
      exact ⟨v, H', J.os, J.bare, J.base, J.hok, rv, q⟩
    | next =>
      obtain ⟨σ', H', J, q⟩ := hs
      exact ⟨.non, H', J.os, J.bare, J.base, J.hok, rfl, q⟩
    | brk => obtain ⟨_, _, _, q⟩ := hs; exact q.elim
    | cont => obtain ⟨_, _, _, q⟩ := hs; exact q.elim
end Mp

set_option Elab.async false
set_option linter.all false
set_option maxRecDepth 100000
set_option maxHeartbeats 4000000
/-! Mx1: try with several clauses, each with a name; isinstance and fields of what was caught. -/
namespace Mp
open PySem PySem.Spec PyProof.Rows L2 HandSPX

/-! ### a caught exception -/
/-- a flies, caught, in s; sI: the state without it -/
structure Air (X : Cx) (pins : List (Addr × Obj)) (σ : L2.St) (H : Hp) (a : Addr) (cls : Value) (d : Option Addr) (B : Heap) (sI s : Shared) : Prop where
  inv : Inv X pins σ H sI
  ground : ∀ b o, sI.heap.get? b = some o → b ∉ frs X.stack → B.get? b = some o
  up : sI.heap.UpToSlots s.heap
  fly : FlyingZ B (X.env :: X.outer) a (Zc cls d) s.heap
  na : H a = none
  os : s.os = sI.os
  bare : AllBare s.gens
namespace Air
variable {X : Cx} {pins : List (Addr × Obj)} {σ : L2.St} {H : Hp} {a : Addr} {cls : Value} {d : Option Addr} {B : Heap} {sI s : Shared}
theorem here (z : Air X pins σ H a cls d B sI s) : Inv X pins σ H s := z.inv.landed z.ground z.fly.1 z.up z.os z.bare
theorem apart (hf : X.env.frame = some X.env.locals) (z : Air X pins σ H a cls d B sI s) : a ∉ frs (X.env :: X.outer) := fun hm => by
  obtain ⟨oe, vs, h1, _, h3⟩ := z.fly.there
  obtain ⟨_, ob, h4, h5⟩ := z.fly.2.2.1.mem hm
  have e := h1.symm.trans h4
  cases e
  exact h5 _ h3
theorem suite (hf : X.env.frame = some X.env.locals) (z : Air X pins σ H a cls d B sI s) : ∃ oe vs, s.heap.get? a = some oe ∧ Zc cls d oe ∧ oe.data = .fields vs ∧ Inv (X.suite a ((a, oe) :: (X.pn ++ pins))) [] σ H s := by
  obtain ⟨oe, vs, h1, h2, h3⟩ := z.fly.there
  have n := z.apart hf
  refine ⟨oe, vs, h1, h2, h3, z.here.suite h1 h3 z.na (fun e => n ?_) fun hm => n ?_⟩
  · exact List.mem_filterMap.mpr ⟨X.env, by simp, hf.trans (congrArg some e.symm)⟩
  · obtain ⟨e, h4, h5⟩ := List.mem_filterMap.mp hm
    exact List.mem_filterMap.mpr ⟨e, by simp [h4], h5⟩
/-- not taken: it flies on -/
theorem on_ (hs : X.stack = X.env :: X.outer) (hf : X.env.frame = some X.env.locals) {W : WX} (tk : Takes X W) (z : Air X pins σ H a cls d B sI s) (w : W cls d σ H) {D : Ends} :
    wpAny (model X.prog X.w) X.A (handleBy (.ref a) X.env []) (SP X pins D) X.xe s := by
  have go : wpAny (model X.prog X.w) X.A (setFlight (.ref a) X.env.frame) (fun _ u => wpAny (model X.prog X.w) X.A (throw (.ref a) : Sem Flow) (SP X pins D) X.xe u) X.xe s := by
    rw [hf]
    refine setFlight_upZ z.fly fun h hh up => wpAny_throw (tk _ _ ⟨a, B, sI, pins, σ, H, cls, d, rfl, z.inv, z.ground, z.up.trans up, .inr (.inr ?_), z.na, z.os, z.bare, w⟩)
    rw [hs]
    exact hh
  refine wpAny_handleBy_nil ?_
  obtain ⟨_, _, _, oe, vs, T, _, _, h1, _, h2, h3, _⟩ := id z.fly
  unfold PySem.passOn
  refine wpAny_bind (wpAny_field h1 h2 h3 ?_)
  have ne : ¬ ((Value.ref T == Value.none) = true) := by simp
  rw [if_neg ne]
  first
    | exact wpAny_bind go
    | exact wpAny_bind (wpAny_pure (wpAny_bind go))
end Air

/-! ### the clauses -/
structure HdT where
  c : Value
  i : Nat
  ts : Addr → Value → Option Addr → TS
/-- behind the suite the name is gone -/
def endsW (i : Nat) (D : Ends) : Ends := { nx := fun σ H => D.nx (σ.set i none) H, bk := fun σ H => D.bk (σ.set i none) H, ct := fun σ H => D.ct (σ.set i none) H, rt := D.rt }
def wHs (K : Frag) (Wout : WX) (D : Ends) : List HdT → WX
  | [] => Wout
  | h :: r => fun cls d σ H => ∃ b, PySem.W.exmOne K cls h.c = some b ∧ (b = true → ∀ a, H a = none → h.ts a cls d (endsW h.i D) (σ.set h.i (some (.ref a))) H) ∧ (b = false → wHs K Wout D r cls d σ H)
inductive HsOk (X : Cx) : List ExceptHandler → List HdT → Prop
  | nil : HsOk X [] []
  | cons {x n : Str} {h : HdT} {b0 : Stmt} {suite : List Stmt} {np pos : Pos} {hds : List ExceptHandler} {l : List HdT} (hi : X.N[h.i]? = some n) (hl : X.env.kindOf n = some .local) (hc : Names X x h.c)
      (hsu : ∀ (a : Addr) (oe : Obj) (cls : Value) (d : Option Addr) (pn : List (Addr × Obj)), Zc cls d oe → (∃ vs, oe.data = .fields vs) → PSs (X.suite a ((a, oe) :: pn)) (b0 :: suite) (h.ts a cls d)) (r : HsOk X hds l) :
      HsOk X (.ExceptHandler (some (.Name x np)) (some n) (b0 :: suite) pos :: hds) (h :: l)
section
variable {X : Cx} {pins : List (Addr × Obj)} {σ : L2.St} {H : Hp} {a : Addr} {cls : Value} {d : Option Addr} {B : Heap} {sI s : Shared}
theorem Air.at (z : Air X pins σ H a cls d B sI s) {h : Heap} (fl : FlyingZ B (X.env :: X.outer) a (Zc cls d) h) (up : s.heap.UpToSlots h) : Air X pins σ H a cls d B sI { s with heap := h } := ⟨z.inv, z.ground, z.up.trans up, fl, z.na, z.os, z.bare⟩
/-- the clauses, one after the other -/
theorem hs_go (hs : X.stack = X.env :: X.outer) (hf : X.env.frame = some X.env.locals) (hN : X.N.Nodup) {Wout : WX} (tk : Takes X Wout) {D : Ends} (z : Air X pins σ H a cls d B sI s) : ∀ {hds : List ExceptHandler} {l : List HdT}, HsOk X hds l →
    wHs X.K Wout D l cls d σ H → wpAny (model X.prog X.w) X.A (handleBy (.ref a) X.env hds) (SP X pins D) X.xe s := by
  intro hds l k
  induction k with
  | nil => exact fun w => z.on_ hs hf tk w
  | @cons x n h b0 suite np pos hds l hi hl hc hsu r ih =>
    rintro ⟨b, e1, yes, no⟩
    obtain ⟨oe, vs, g1, g2, g3, J⟩ := z.suite hf
    refine wpAny_handleBy_cons (codeAny_handlers_test ?_) (fun q => by cases q)
    have LT : PySem.W.Looks (model X.prog X.w) s.heap (typeOf (.ref a)) cls := fun A Q E u k q => wpAny_typeOf_ref (k _ _ g1) (g2.1.symm ▸ q)
    have LM := PySem.W.exm_one z.here.kIn LT e1
    have name : ∀ {Q : Value → Shared → Prop} {E : Value → Shared → Prop}, Q h.c s → wpAny (model X.prog X.w) (X.A.mark (some (.ref a))) (eval (.Name x np) X.env) Q E s := fun q => by
      obtain ⟨m1, m2, m3⟩ := hc
      rcases m3 with m3 | ⟨m3, m4, m5⟩
      · exact ld_glob (X := X.suite a ((a, oe) :: (X.pn ++ pins))) J m1 m3 q m2
      · exact ld_blt (X := X.suite a ((a, oe) :: (X.pn ++ pins))) J m1 m3 m4 q m5 m2
    refine name (LM.here ?_)
    cases b with
    | false =>
      show wpAny _ X.A (handleBy (.ref a) X.env hds) _ _ _
      exact ih (no rfl)
    | true =>
      refine codeAny_handlers_suite_as (lands_againZ z.fly fun h2 fl up => ?_)
      have z2 := z.at fl up
      obtain ⟨oe2, vs2, _, g5, g6, J2⟩ := z2.suite hf
      refine store_ok (X := X.suite a ((a, oe2) :: (X.pn ++ pins))) (v := .ref a) J2 hN hi (.inl hl) rfl (fun s3 J3 => ?_) (.inr hl)
      have run := (hsu a oe2 cls d (X.pn ++ pins) g5 ⟨_, g6⟩).run [] s3 _ H (endsW h.i D) J3 (yes rfl a z.na)
      refine wpAny_mono run (fun f s4 q4 => ?_) fun _ _ y => False.elim y
      have fin : ∀ {σ' : L2.St} {H' : Hp} {Q : Shared → Prop}, Inv (X.suite a ((a, oe2) :: (X.pn ++ pins))) [] σ' H' s4 → (∀ u, Inv X pins (σ'.set h.i none) H' u → Q u) →
          wpAny (model X.prog X.w) X.A (do bindName X.env n .none; unbindBehindTheSuite X.env n pos) (fun _ u => Q u) X.xe s4 := fun J4 q => gone_ok (J4.unsuite z.inv.ok) hN hi hl q
      cases f with
      | ret u =>
        obtain ⟨v, σ4, H4, J4, r4, q5⟩ := q4
        exact fin J4 fun u5 J5 => ⟨v, _, _, J5, r4, q5⟩
      | next => obtain ⟨σ4, H4, J4, q5⟩ := q4; exact fin J4 fun u5 J5 => ⟨_, _, J5, q5⟩
      | brk => obtain ⟨σ4, H4, J4, q5⟩ := q4; exact fin J4 fun u5 J5 => ⟨_, _, J5, q5⟩
      | cont => obtain ⟨σ4, H4, J4, q5⟩ := q4; exact fin J4 fun u5 J5 => ⟨_, _, J5, q5⟩
end
/-- try .. except X1 as n1: .. except X2 as n2: .. -/
theorem ps_tryN {X : Cx} {body : List Stmt} {h0 : ExceptHandler} {hds : List ExceptHandler} {l : List HdT} {pos : Pos} {tb : WX → TS} {Wout : WX} (hs : X.stack = X.env :: X.outer) (hf : X.env.frame = some X.env.locals) (hN : X.N.Nodup) (tk : Takes X Wout)
    (hb : ∀ (W : WX) (pn : List (Addr × Obj)) (xe : Value → Shared → Prop), Takes (X.tr pn xe) W → PassesOwn (model X.prog X.w) X.A X.env xe → PSs (X.tr pn xe) body (tb W)) (hh : HsOk X (h0 :: hds) l) :
    L2.PS X (.Try body (h0 :: hds) [] [] pos) (fun D σ H => tb (wHs X.K Wout D l) D σ H) := by
  refine ⟨fun pins s σ H D I q => wpAny_Try_except ?_⟩
  have hA : X.A.frames = some (X.env :: X.outer) := hs ▸ I.ok.frames
  let xe : Value → Shared → Prop := fun e u => wpAny (model X.prog X.w) X.A (noteFrame e X.env) (fun _ u2 => wpAny (model X.prog X.w) X.A (setFlight e none) (fun _ u3 => wpAny (model X.prog X.w) X.A (handleBy e X.env (h0 :: hds)) (SP X pins D) X.xe u3) X.xe u2) X.xe u
  have tk2 : Takes (X.tr (X.pn ++ pins) xe) (wHs X.K Wout D l) := by
    rintro u s' ⟨a, B, sI, pins', σ', H', cls, d, rfl, J, ground, up, sky, na, os, bare, w⟩
    have sky2 : Sky B (X.env :: X.outer) a (Zc cls d) X.env.locals s'.heap := hs ▸ sky
    refine Sky.land Zc.steady hA hf sky2 fun h3 fl up3 => ?_
    exact hs_go hs hf hN tk (s := { s' with heap := h3 }) (B := B) (sI := sI) ⟨J.ofTry I.ok, ground, up.trans up3, fl, na, os, bare⟩ hh w
  refine wpAny_mono ((hb _ (X.pn ++ pins) xe tk2 PassesOwn.looking).run [] s σ H D (I.toTry _) q) (fun f u hq => ?_) fun _ _ y => y
  cases f with
  | ret v => obtain ⟨v', σ', H', J, r, q⟩ := hq; exact ⟨v', σ', H', J.ofTry I.ok, r, q⟩
  | next => obtain ⟨σ', H', J, q⟩ := hq; exact wpAny_execs_nil ⟨σ', H', J.ofTry I.ok, q⟩
  | brk => obtain ⟨σ', H', J, q⟩ := hq; exact ⟨σ', H', J.ofTry I.ok, q⟩
  | cont => obtain ⟨σ', H', J, q⟩ := hq; exact ⟨σ', H', J.ofTry I.ok, q⟩

/-! ### isinstance of what was caught, its dict made -/
/-- isinstance(e, c): one class, or a tuple that was just laid -/
def rIsX (K : Frag) (C a : Addr) (d : Option Addr) : List V → Hp → VK → Prop := fun xs H Q => (∃ dd fs, d = some dd ∧ H dd = some (.xd fs)) ∧ ∃ (c : V) (b : Bool), xs = [.ref a, c] ∧ Q (.bl b) H ∧
  ((∃ cv, ClsV c cv ∧ PySem.W.kitOne K (.ref C) cv = some b) ∨ ∃ tp cs us, c = .ref tp ∧ H tp = some (.tup cs) ∧ Paired ClsV cs us ∧ PySem.W.kitAny K (.ref C) us = some b)
theorem call_isX {X : Cx} {a C : Addr} {d : Option Addr} {oe : Obj} {pn : List (Addr × Obj)} (Z : ExcC X.K C) (hz : Zc (.ref C) d oe) (hf : ∃ vs, oe.data = .fields vs) : CallR (X.suite a ((a, oe) :: pn)) (.builtin "isinstance") (rIsX X.K C a d) := by
  rintro pins s σ H xs us Q I r ⟨⟨dd, fs, rfl, hdd⟩, c, b, rfl, q, alt⟩
  obtain ⟨u1, u2, rfl, r1, r2⟩ := vals2 r
  cases (show u1 = Value.ref a from r1)
  obtain ⟨g, _⟩ := I.pin (a, oe) (by simp)
  obtain ⟨vs, hv⟩ := hf
  obtain ⟨mA, ⟨od, es, ep, ho, hod⟩, _⟩ := (show ObjOk X.prog X.w H s.heap dd (.xd fs) from I.hok dd _ hdd)
  have J : PySem.W.InstAt s.heap a oe C (some od) := by
    refine ⟨g, hz.1, ?_, ?_⟩
    · unfold PySem.W.notCls
      rw [hv] <;> rfl
    · rw [hz.2]
      exact ho
  have hcl : (PySem.W.clsIn X.K C).isSome = true := by
    obtain ⟨cd, hc, _⟩ := PySem.W.any_some Z.hd
    rw [hc] <;> rfl
  have KZ := PySem.W.kitx_exc (x := a) (ox := oe) (od := some od) hcl Z.hg Z.hk Z.hs Z.ha Z.hn Z.ht Z.hm
  rcases alt with ⟨cv, k, e⟩ | ⟨tp, cs, ws, rfl, hT, k, e⟩
  · cases k.eq r2
    exact PySem.W.kia_one KZ I.kIn J e (fun z => nomatch z) fun tk => ⟨.bl b, H, I.tok tk, rfl, q⟩
  · cases (show u2 = Value.ref tp from r2)
    obtain ⟨_, its, rv, o, h1, h2, n, h3⟩ := (show ObjOk X.prog X.w H s.heap tp (.tup cs) from I.hok tp _ hT)
    cases ClsV.all k rv
    obtain ⟨oc, ob, dt, sl⟩ := o
    simp only at h2 h3
    subst h2 h3
    exact PySem.W.kia_tup KZ I.kIn J h1 e (fun z => nomatch z) fun tk => ⟨.bl b, H, I.tok tk, rfl, q⟩
end Mp

set_option Elab.async false
set_option linter.all false
set_option maxRecDepth 100000
set_option maxHeartbeats 4000000
/-! Mx2: raise, try, what was caught: mirrors. -/
namespace Mp
open PySem PySem.Spec PyProof.Rows L2 HandSPX

/-! ### raise C(place) -/
def mRaise (cls : Str) (Me : ME) : MS := fun s k => Me s (fun v hp' => on (val hp' v) fun d => on (asI d) fun n => n.natAbs.log2 < 1920 ∧ k.ex ⟨cls, [("place", .int n)]⟩ hp') k.ex
abbrev tRaise (W : WX) (C : Addr) (te : TE) : TS := fun _ σ H => tMkO C (spXI C) [] (tCons te tNil) σ H fun cls d H' => W cls d σ H'
theorem sim_raise {K : Frag} {W : WX} {cls : Str} {te : TE} {Me : ME} (ha : SimE K W te Me) : SimS K W (tRaise W (He.ga K cls) te) (mRaise cls Me) := by
  intro ρ α s H σ h k m D p
  refine ha α s H σ h.ok h.env _ _ m _ (fun v hp1 α1 H1 u m1 e1 w1 r1 => ?_) (p.postX h.pre)
  obtain ⟨d, g1, m1⟩ := on.ex m1
  obtain ⟨n, g2, hlog, m1⟩ := on.ex m1
  have hu : u = .int n := (r1.val w1 g1).asI g2
  subst hu
  refine ⟨by simp, fun a hn => ⟨a, n, rfl, hlog, upd_same, fun dx hd hne => ⟨rfl, dx, [("place", .int n)], upd_same, by rw [upd_ne hne, upd_same], by rw [upd_ne hne] at hd; exact hd, ?_⟩⟩⟩
  have hd1 : H1 dx = none := by rw [upd_ne hne] at hd; exact hd
  have eq : upd (L2.del (upd (upd (upd H1 a (exo a (He.ga K cls) none)) dx (exd dx [("place", .int n)])) a (exo a (He.ga K cls) (some dx))) a) dx (.xd [("place", .int n)]) = upd H1 dx (.xd [("place", .int n)]) := by
    funext b
    by_cases hb : b = dx
    · rw [hb, upd_same, upd_same]
    · rw [upd_ne hb, upd_ne hb]
      by_cases hb2 : b = a
      · rw [hb2, del_same, hn]
      · rw [del_ne hb2, upd_ne hb2, upd_ne hb, upd_ne hb2]
  rw [eq]
  have ef := e1.trans (Ext.fresh (o := .xd [("place", .int n)]) hd1)
  exact p.ex _ hp1 α1 _ _ _ σ m1 (h.pre.ext ef) (w1.fresh hd1) ef.step ef.pre.ban ⟨rfl, .inr ⟨dx, _, rfl, ⟨upd_same, w1.non dx hd1⟩, ⟨.int n, [], rfl, rfl, rfl⟩⟩⟩
/-- what a def knows of such a class -/
structure XcF (P : Program) (w : World) (K : Frag) (mg : Str → Option Value) (base : Heap) (x : Str) : Prop where
  ox : OexC K (He.ga K x)
  g : mg x = some (.ref (He.ga K x))
  fn : ∃ f fd, PySem.W.findIn K (.ref (He.ga K x)) "__init__" = some (some (.ref f)) ∧ PySem.W.typeIn K (.ref f) = some (.type "function") ∧ FnOk P w K mg base (L2.CX P w) 1 f fd ["self", "place"] (spXI (He.ga K x)) ∧ Binds K fd ["self", "place"] []
section
variable {X : Cx} {W : WX} {e : Expr} {te : TE} {Me : ME} {p p2 pos : Pos}
theorem ds_raise (K : Frag) {x : Str} (Z : XcF X.prog X.w K X.mg X.base x) (hc : X.calm = true) (tk : Takes X W) (hr : Room 2 X.A) (hg : Gl X x) (he : DE X W e te Me) (hdb : (x == ("__debug__" : Str)) = false := by decide) (hst : starEach [e] X.env = (false, eval e X.env) :: starEach [] X.env := by rfl)
    (hpl : (backTo p2 (starEach [] X.env)).any (·.1) = false := by rfl) (hK : X.K = K := by rfl) : DS X W (.Raise (some (.Call (.Name x p) [e] [] p2)) none pos) (tRaise W (He.ga K x) te) (mRaise x Me) := by
  subst hK
  obtain ⟨f, fd, h1, h2, h3, h4⟩ := Z.fn
  exact ⟨ps_raise hc tk (pmk_oex (dvs := []) (ds := []) Z.ox h1 h2 h3 hr h4 .nil passL hg Z.g (pa_cons he.p pa_nil hst) hdb hst hpl), sim_raise he.s⟩
end

/-! ### try -/
structure HdM where
  tbl : List (Str × Bool)
  i : Nat
  ms : Addr → Value → Option Addr → MS
def mHs (n : Nat) (k : MK) (n0 : Nat) : List HdM → Exn → List O → Prop
  | [], x, hp => k.ex x hp
  | h :: r, x, hp => on (h.tbl.lookup x.cls) fun b => if b = true then ∀ (a : Addr) (c : Value) (d : Option Addr), h.ms a c d ⟨hp, (List.replicate n none).set h.i (some (.exn a c d x)), n0⟩
      { nx := fun s => k.nx { s with env := s.env.set h.i none }, bk := fun s => k.bk { s with env := s.env.set h.i none }, ct := fun s => k.ct { s with env := s.env.set h.i none }, rt := k.rt, ex := fun _ _ => False } else mHs n k n0 r x hp
def mTry (n : Nat) (l : List HdM) (Mb : MS) : MS := fun s k => Mb s { k with ex := mHs n k s.n0 l }
abbrev WNo : WX := fun _ _ _ _ => False
inductive HsD (X : Cx) : List ExceptHandler → List HdT → List HdM → Prop
  | nil : HsD X [] [] []
  | cons {x n : Str} {c : Value} {i : Nat} {ts : Addr → Value → Option Addr → TS} {tbl : List (Str × Bool)} {ms : Addr → Value → Option Addr → MS} {b0 : Stmt} {suite : List Stmt} {np pos : Pos} {hds : List ExceptHandler} {l : List HdT} {lm : List HdM} (hi : X.N[i]? = some n) (hl : X.env.kindOf n = some .local) (hc : Names X x c)
      (tb : ∀ z b, tbl.lookup z = some b → PySem.W.exmOne X.K (.ref (He.ga X.K z)) c = some b)
      (hsu : ∀ (a : Addr) (oe : Obj) (cls : Value) (d : Option Addr) (pn : List (Addr × Obj)), Zc cls d oe → (∃ vs, oe.data = .fields vs) → DSs (X.suite a ((a, oe) :: pn)) WNo (b0 :: suite) (ts a cls d) (ms a cls d)) (r : HsD X hds l lm) :
      HsD X (.ExceptHandler (some (.Name x np)) (some n) (b0 :: suite) pos :: hds) (⟨c, i, ts⟩ :: l) (⟨tbl, i, ms⟩ :: lm)
theorem HsD.ok {X : Cx} : ∀ {hds : List ExceptHandler} {l : List HdT} {lm : List HdM}, HsD X hds l lm → HsOk X hds l
  | _, _, _, .nil => .nil
  | _, _, _, .cons hi hl hc _ hsu r => .cons hi hl hc (fun a oe cls d pn z f => (hsu a oe cls d pn z f).p) r.ok
theorem EnvR.setN {K : Frag} {α : Mp_} {hp : List O} {H : Hp} {env : List (Option S)} {σ : L2.St} {i : Nat} (e : EnvR K α hp H env σ) : EnvR K α hp H (env.set i none) (σ.set i none) := by
  refine ⟨by rw [List.length_set, List.length_set]; exact e.1, fun j s hj => ?_⟩
  by_cases hi : i = j
  · subst hi
    by_cases hl : i < env.length
    · rw [List.getElem?_set_self hl] at hj
      cases hj
    · rw [List.getElem?_eq_none (by simpa using hl)] at hj
      cases hj
  · rw [List.getElem?_set_ne hi] at hj ⊢
    exact e.2 j s hj
theorem EnvR.none {K : Frag} {α : Mp_} {hp : List O} {H : Hp} {σ : L2.St} {n : Nat} (h : σ.length = n) : EnvR K α hp H (List.replicate n none) σ :=
  ⟨by rw [List.length_replicate]; exact h.symm, fun j s hj => by
    rw [List.getElem?_replicate] at hj
    split at hj <;> cases hj⟩
section
variable {X : Cx} {pos : Pos} {W : WX}
theorem sim_hs {ρ : En} {α : Mp_} {hp : List O} {H : Hp} {n n0 : Nat} {k : MK} {D : Ends} (p : PostS X.K W ρ α hp H k D) (hn0 : True) : ∀ {hds : List ExceptHandler} {l : List HdT} {lm : List HdM}, HsD X hds l lm → ∀ (x : Exn) (hp' : List O) (α' : Mp_) (H' : Hp) (c : Value) (dd : Option Addr) (σ' : L2.St),
    mHs n k n0 lm x hp' → Pre0 ρ α' H' → WOk X.K α' hp' H' → StepW α hp H α' hp' H' → α'.ban = α.ban → XRep X.K (Al α' hp') H' x c dd → σ'.length = n → wHs X.K W D l c dd σ' H' := by
  intro hds l lm z
  induction z with
  | nil => exact fun x hp' α' H' c dd σ' m pre w st bb xr _ => p.ex x hp' α' H' c dd σ' m pre w st bb xr
  | @cons xn nm hcv hi_ hts htbl hms b0 suite np hpos hds l lm hi hl hc tb hsu r ih =>
    intro x hp' α' H' c dd σ' m pre w st bb xr hlen
    obtain ⟨b, g, m⟩ := on.ex (show on (htbl.lookup x.cls) _ from m)
    have hcls : c = .ref (He.ga X.K x.cls) := xr.1
    refine ⟨b, by rw [hcls]; exact tb _ _ g, fun hb a ha => ?_, fun hb => ?_⟩
    · rw [if_pos hb] at m
      let oe : Obj := { cls := c, dict := dd, data := .fields #[] }
      have q := (hsu a oe c dd [] ⟨rfl, rfl⟩ ⟨_, rfl⟩).s
      have hE : EnvR X.K α' hp' H' ((List.replicate n none).set hi_ (some (.exn a c dd x))) (σ'.set hi_ (some (.ref a))) := (EnvR.none hlen).set ⟨rfl, xr⟩
      have m' := m a c dd
      have p' := p.at st bb
      refine q ρ α' ⟨hp', _, n0⟩ H' _ ⟨pre, hn0, w, hE⟩ _ m' _ ⟨?_, ?_, ?_, p'.rt, fun _ _ _ _ _ _ _ z => z.elim⟩
      · exact fun s2 α2 H2 σ2 n2 i2 st2 b2 => p'.nx _ α2 H2 _ n2 ⟨i2.pre, i2.n0, i2.ok, i2.env.setN⟩ st2 b2
      · exact fun s2 α2 H2 σ2 n2 i2 st2 b2 => p'.bk _ α2 H2 _ n2 ⟨i2.pre, i2.n0, i2.ok, i2.env.setN⟩ st2 b2
      · exact fun s2 α2 H2 σ2 n2 i2 st2 b2 => p'.ct _ α2 H2 _ n2 ⟨i2.pre, i2.n0, i2.ok, i2.env.setN⟩ st2 b2
    · rw [if_neg (by rw [hb]; exact Bool.false_ne_true)] at m
      exact ih x hp' α' H' c dd σ' m pre w st bb xr hlen
/-- the wish of the body: the clauses, at states of the right length -/
abbrev wTry (X : Cx) (W : WX) (l : List HdT) (D : Ends) : WX := fun c d σ H => σ.length = X.N.length → wHs X.K W D l c d σ H
def xeAny (X : Cx) : Value → Shared → Prop := fun e u => wpAny (model X.prog X.w) X.A (noteFrame e X.env) (fun _ u2 => wpAny (model X.prog X.w) X.A (setFlight e none) (fun _ _ => True) X.xe u2) X.xe u
theorem takes_any (hs : X.stack = X.env :: X.outer) (hf : X.env.frame = some X.env.locals) {pn : List (Addr × Obj)} {W : WX} : Takes (X.tr pn (xeAny X)) W := by
  rintro u s' ⟨a, B, sI, pins', σ', H', cls, d, rfl, J, _, _, sky, _⟩
  have sky2 : Sky B (X.env :: X.outer) a (Zc cls d) X.env.locals s'.heap := hs ▸ sky
  have hA : X.A.frames = some (X.env :: X.outer) := hs ▸ J.ok.frames
  exact Sky.land Zc.steady hA hf sky2 fun _ _ _ => trivial
theorem ds_try {body : List Stmt} {h0 : ExceptHandler} {hds : List ExceptHandler} {l : List HdT} {lm : List HdM} {tb : WX → TS} {Mb : MS} (hs : X.stack = X.env :: X.outer) (hf : X.env.frame = some X.env.locals) (hN : X.N.Nodup) (tk : Takes X W)
    (hb : ∀ (W : WX) (pn : List (Addr × Obj)) (xe : Value → Shared → Prop), Takes (X.tr pn xe) W → PassesOwn (model X.prog X.w) X.A X.env xe → DSs (X.tr pn xe) W body (tb W) Mb) (hh : HsD X (h0 :: hds) l lm) :
    DS X W (.Try body (h0 :: hds) [] [] pos) (fun D σ H => tb (wTry X W l D) D σ H) (mTry X.N.length lm Mb) := by
  refine ⟨?_, ?_⟩
  · refine ps_tryN (tb := fun W => tb fun c d σ H => σ.length = X.N.length → W c d σ H) hs hf hN tk (fun W pn xe t po => (hb _ pn xe (fun u s' z => t u s' ?_) po).p) hh.ok
    obtain ⟨a, B, sI, pins, σ, H, cls, d, e, I, g1, g2, g3, g4, g5, g6, w⟩ := z
    exact ⟨a, B, sI, pins, σ, H, cls, d, e, I, g1, g2, g3, g4, g5, g6, w I.len⟩
  · intro ρ α s H σ h k m D p
    have q := (hb (wTry X W l D) [] (xeAny X) (takes_any hs hf) PassesOwn.looking).s
    exact q ρ α s H σ h _ m D ⟨p.nx, p.bk, p.ct, p.rt, fun x hp' α' H' c dd σ' kx pre w st bb xr hlen => sim_hs p h.n0 hh x hp' α' H' c dd σ' kx pre w st bb xr hlen⟩
end

/-! ### what was caught, in a suite -/
/-- isinstance(e, ..), by the classes' table -/
def mIsX (i : Nat) (a : Addr) (c : Value) (d : Option Addr) (tbl : List (Str × Bool)) : ME := fun s R _ => match s.env[i]? with
  | some (some (.exn a' c' d' x)) => a' = a ∧ c' = c ∧ d' = d ∧ x.fs ≠ [] ∧ on (tbl.lookup x.cls) fun b => R (.d (.bl b)) s.hp
  | _ => False
def mXf (i : Nat) (a : Addr) (c : Value) (d : Option Addr) (cs : List Str) (f : Str) : ME := fun s R _ => match s.env[i]? with
  | some (some (.exn a' c' d' x)) => a' = a ∧ c' = c ∧ d' = d ∧ x.cls ∈ cs ∧ on (x.fs.lookup f) fun y => R (.d y) s.hp
  | _ => False
theorem exn_at {K : Frag} {α : Mp_} {hp : List O} {H : Hp} {env : List (Option S)} {σ : L2.St} {i : Nat} {a : Addr} {c : Value} {d : Option Addr} {k : Exn → Prop} (e : EnvR K α hp H env σ)
    (m : match env[i]? with
      | some (some (.exn a' c' d' x)) => a' = a ∧ c' = c ∧ d' = d ∧ k x
      | _ => False) : ∃ x, σ[i]? = some (some (.ref a)) ∧ XRep K (Al α hp) H x c d ∧ k x := by
  split at m
  · rename_i a' c' d' x q
    obtain ⟨rfl, rfl, rfl, kx⟩ := m
    obtain ⟨v, h1, h2, h3⟩ := e.2 i _ q
    exact ⟨x, by rw [h1, h2], h3, kx⟩
  · exact m.elim
/-- the fields, where there are some -/
theorem XRep.at_ {K : Frag} {A : Av} {H : Hp} {x : Exn} {c : Value} {d : Option Addr} (h : XRep K A H x c d) (n : x.fs ≠ []) : ∃ a ws, d = some a ∧ H a = some (.xd ws) ∧ RepXF K A H x.fs ws := by
  rcases h.2 with z | ⟨a, ws, h1, h2, h3⟩
  · exact absurd z n
  · exact ⟨a, ws, h1, h2.1, h3⟩
theorem RepXF.look {K : Frag} {A : Av} {H : Hp} {f : Str} {y : D} : ∀ {l : List (Str × D)} {ws : List (Str × V)}, RepXF K A H l ws → l.lookup f = some y → ∃ v, ws.lookup f = some v ∧ Rep K A H y v
  | [], _, _, h => by cases h
  | (k, d) :: r, _, ⟨v, t, e, h1, h2⟩, h => by
    subst e
    by_cases z : f = k
    · subst z
      have : d = y := by simpa [List.lookup] using h
      subst this
      exact ⟨v, by simp [List.lookup], h1⟩
    · have q : (f == k) = false := by simpa using z
      have h' : r.lookup f = some y := by simpa [List.lookup, q] using h
      obtain ⟨u, g1, g2⟩ := RepXF.look h2 h'
      exact ⟨u, by simpa [List.lookup, q] using g1, g2⟩
/-- e.f -/
def tXv (K : Frag) (i : Nat) (a : Addr) (c : Value) (d : Option Addr) (f : Str) : TE := fun σ H Q => σ[i]? = some (some (.ref a)) ∧ ∃ C dd fs v, c = .ref C ∧ XfC K C ∧ PySem.W.findIn K (.ref C) f = some none ∧ d = some dd ∧ H dd = some (.xd fs) ∧ fs.lookup f = some v ∧ Q v H
/-- isinstance(e, one class | a tuple of classes) -/
def tIsX (K : Frag) (i : Nat) (a : Addr) (c : Value) (d : Option Addr) (us : List Value) (tup : Bool) (vs : List V) : TE := fun σ H Q => σ[i]? = some (some (.ref a)) ∧ ∃ C dd fs b, c = .ref C ∧ L2.ExcC K C ∧ d = some dd ∧ H dd = some (.xd fs) ∧ PySem.W.kitAny K (.ref C) us = some b ∧
  if tup = true then vs.length ≤ sizeLine ∧ ∀ p, H p = none → Q (.bl b) (upd H p (.tup vs)) else Q (.bl b) H
section
variable {X : Cx} {a : Addr} {oe : Obj} {c : Value} {d : Option Addr} {pn : List (Addr × Obj)} {x : Str} {i : Nat} {p p1 p2 pos : Pos} {W : WX}
theorem pe_xv {f : Str} (hN : X.N[i]? = some x) (hv : Vis X.env.scope x) (hz : Zc c d oe) (hf : ∃ vs, oe.data = .fields vs) (hd : (x == ("__debug__" : Str)) = false := by decide) (hcd : (x == ("__classdict__" : Str)) = false := by decide)
    (hb : attributeBase (.Name x p) f X.env (eval (.Name x p) X.env) = eval (.Name x p) X.env := by rfl) : PE (X.suite a ((a, oe) :: pn)) (.Attribute (.Name x p) f pos) (tXv X.K i a c d f) := by
  refine ⟨fun pins s σ H Q I h => ?_⟩
  obtain ⟨h1, C, dd, fs, v, rfl, T, hno, rfl, h2, h3, q⟩ := h
  exact (pe_xf T hno hz hf (pe_var (X := X.suite a ((a, oe) :: pn)) (i := i) hN hv hd hcd) hb).run pins s σ H Q I ⟨_, h1, rfl, rfl, dd, fs, v, rfl, h2, h3, q⟩
theorem sim_xv {K : Frag} {f : Str} {cs : List Str} (hX : ∀ z ∈ cs, XfC K (He.ga K z) ∧ PySem.W.findIn K (.ref (He.ga K z)) f = some none) : SimE K W (tXv K i a c d f) (mXf i a c d cs f) := by
  intro α s H σ w e R Xp m Q q _
  obtain ⟨z, h1, h2, hin, m2⟩ := exn_at e m
  obtain ⟨y, h3, m3⟩ := on.ex m2
  have n : z.fs ≠ [] := fun e => by rw [e] at h3; cases h3
  obtain ⟨dd, ws, hd, h4, h5⟩ := h2.at_ n
  obtain ⟨v, h6, h7⟩ := h5.look h3
  exact ⟨h1, _, dd, ws, v, h2.1, (hX _ hin).1, (hX _ hin).2, hd, h4, h6, q _ _ α H v m3 Ext.refl w h7⟩
theorem de_xv (K : Frag) {f : Str} {cs : List Str} (hX : ∀ z ∈ cs, XfC K (He.ga K z) ∧ PySem.W.findIn K (.ref (He.ga K z)) f = some none) (hz : Zc c d oe) (hf : ∃ vs, oe.data = .fields vs) (i : Nat) (hN : X.N[i]? = some x := by rfl) (hv : Vis X.env.scope x := by first | exact Or.inl rfl | exact Or.inr (Or.inl rfl) | exact Or.inr (Or.inr rfl))
    (hd : (x == ("__debug__" : Str)) = false := by decide) (hcd : (x == ("__classdict__" : Str)) = false := by decide) (hb : attributeBase (.Name x p) f X.env (eval (.Name x p) X.env) = eval (.Name x p) X.env := by rfl) (hK : X.K = K := by rfl) :
    DE (X.suite a ((a, oe) :: pn)) W (.Attribute (.Name x p) f pos) (tXv K i a c d f) (mXf i a c d cs f) := by subst hK; exact ⟨pe_xv hN hv hz hf hd hcd hb, sim_xv hX⟩
/-- isinstance(e, C) -/
theorem pe_isX1 {y : Expr} {v : V} {u : Value} (hN : X.N[i]? = some x) (hv : Vis X.env.scope x) (hz : Zc c d oe) (hf : ∃ vs, oe.data = .fields vs) (hg : Gl X "isinstance") (hm : X.mg "isinstance" = none) (hy : PE (X.suite a ((a, oe) :: pn)) y (tC v)) (k : ClsV v u)
    (hd : (x == ("__debug__" : Str)) = false := by decide) (hcd : (x == ("__classdict__" : Str)) = false := by decide) (he : starEach [.Name x p1, y] X.env = (false, eval (.Name x p1) X.env) :: starEach [y] X.env := by rfl) (he2 : starEach [y] X.env = (false, eval y X.env) :: starEach [] X.env := by rfl) (hpl : (backTo pos (starEach [y] X.env)).any (·.1) = false := by rfl) :
    PE (X.suite a ((a, oe) :: pn)) (.Call (.Name "isinstance" p) [.Name x p1, y] [] pos) (tIsX X.K i a c d [u] false []) := by
  refine ⟨fun pins s σ H Q I h => ?_⟩
  obtain ⟨h1, C, dd, fs, b, rfl, Z, rfl, h2, h3, q⟩ := h
  have hone : PySem.W.kitOne X.K (.ref C) u = some b := by
    unfold PySem.W.kitAny at h3
    split at h3
    · rename_i z; rw [z]; exact h3
    · rename_i z; rw [z]; exact h3
    · cases h3
  have hvar : PE (X.suite a ((a, oe) :: pn)) (.Name x p1) (tVar i) := pe_var (X := X.suite a ((a, oe) :: pn)) hN hv hd hcd
  have r := pe_callB (X := X.suite a ((a, oe) :: pn)) (p := p) (pos := pos) (call_isX Z hz hf) hg hm (by first | rfl | kernel_rfl) (pa_cons hvar (pa_cons hy pa_nil he2) he) (by decide) (by decide) he hpl
  exact r.run pins s σ H Q I ⟨_, h1, ⟨dd, fs, rfl, h2⟩, v, b, rfl, q, .inl ⟨u, k, hone⟩⟩
/-- isinstance(e, (C1, C2)) -/
theorem pe_isX2 {y1 y2 : Expr} {v1 v2 : V} {u1 u2 : Value} {x1 : Nat} (hN : X.N[i]? = some x) (hv : Vis X.env.scope x) (hz : Zc c d oe) (hf : ∃ vs, oe.data = .fields vs) (hg : Gl X "isinstance") (hm : X.mg "isinstance" = none) (hy1 : PE (X.suite a ((a, oe) :: pn)) y1 (tC v1)) (hy2 : PE (X.suite a ((a, oe) :: pn)) y2 (tC v2)) (k1 : ClsV v1 u1) (k2 : ClsV v2 u2)
    (hd : (x == ("__debug__" : Str)) = false := by decide) (hcd : (x == ("__classdict__" : Str)) = false := by decide) (he : starEach [.Name x p1, .Tuple [y1, y2] x1 p2] X.env = (false, eval (.Name x p1) X.env) :: starEach [.Tuple [y1, y2] x1 p2] X.env := by rfl)
    (he2 : starEach [.Tuple [y1, y2] x1 p2] X.env = (false, eval (.Tuple [y1, y2] x1 p2) X.env) :: starEach [] X.env := by rfl) (he3 : starEach [y1, y2] X.env = (false, eval y1 X.env) :: starEach [y2] X.env := by rfl) (he4 : starEach [y2] X.env = (false, eval y2 X.env) :: starEach [] X.env := by rfl)
    (hpl : (backTo pos (starEach [.Tuple [y1, y2] x1 p2] X.env)).any (·.1) = false := by rfl) :
    PE (X.suite a ((a, oe) :: pn)) (.Call (.Name "isinstance" p) [.Name x p1, .Tuple [y1, y2] x1 p2] [] pos) (tIsX X.K i a c d [u1, u2] true [v1, v2]) := by
  refine ⟨fun pins s σ H Q I h => ?_⟩
  obtain ⟨h1, C, dd, fs, b, rfl, Z, rfl, h2, h3, q⟩ := h
  rw [if_pos rfl] at q
  have hvar : PE (X.suite a ((a, oe) :: pn)) (.Name x p1) (tVar i) := pe_var (X := X.suite a ((a, oe) :: pn)) hN hv hd hcd
  have r := pe_callB (X := X.suite a ((a, oe) :: pn)) (p := p) (pos := pos) (call_isX Z hz hf) hg hm (by first | rfl | kernel_rfl) (pa_cons hvar (pa_cons (pe_tup (pa_cons hy1 (pa_cons hy2 pa_nil he4) he3)) pa_nil he2) he) (by decide) (by decide) he hpl
  refine r.run pins s σ H Q I ⟨_, h1, q.1, fun t ht => ⟨⟨dd, fs, rfl, ?_⟩, .ref t, b, rfl, q.2 t ht, .inr ⟨t, [v1, v2], [u1, u2], rfl, upd_same, .cons k1 (.cons k2 .nil), h3⟩⟩⟩
  rw [upd_ne (ne_of_none h2 ht)]
  exact h2
/-- facts of a table -/
def IsT (K : Frag) (us : List Value) (tbl : List (Str × Bool)) : Prop := ∀ z b, tbl.lookup z = some b → L2.ExcC K (He.ga K z) ∧ PySem.W.kitAny K (.ref (He.ga K z)) us = some b
theorem sim_isX {K : Frag} {us : List Value} {tbl : List (Str × Bool)} (hX : IsT K us tbl) {tup : Bool} {vs : List V} (hl : vs.length ≤ 100) : SimE K W (tIsX K i a c d us tup vs) (mIsX i a c d tbl) := by
  intro α s H σ w e R Xp m Q q _
  obtain ⟨z, h1, h2, n, m2⟩ := exn_at e m
  obtain ⟨b, h3, m3⟩ := on.ex m2
  obtain ⟨dd, ws, hd, h4, h5⟩ := h2.at_ n
  refine ⟨h1, _, dd, ws, b, h2.1, (hX _ _ h3).1, hd, h4, (hX _ _ h3).2, ?_⟩
  cases tup with
  | false => exact q _ _ α H _ m3 Ext.refl w rfl
  | true =>
    rw [if_pos rfl]
    exact ⟨by rw [sizeLine_eq]; omega, fun p hp => q _ _ α _ _ m3 (Ext.fresh hp) (w.fresh hp) rfl⟩
theorem de_isX1 (K : Frag) {y : Expr} {v : V} {u : Value} {tbl : List (Str × Bool)} (hX : IsT K [u] tbl) (hz : Zc c d oe) (hf : ∃ vs, oe.data = .fields vs) (hg : Gl X "isinstance") (hm : X.mg "isinstance" = none) (hy : PE (X.suite a ((a, oe) :: pn)) y (tC v)) (k : ClsV v u) (i : Nat) (hN : X.N[i]? = some x := by rfl)
    (hv : Vis X.env.scope x := by first | exact Or.inl rfl | exact Or.inr (Or.inl rfl) | exact Or.inr (Or.inr rfl)) (hd : (x == ("__debug__" : Str)) = false := by decide) (hcd : (x == ("__classdict__" : Str)) = false := by decide)
    (he : starEach [.Name x p1, y] X.env = (false, eval (.Name x p1) X.env) :: starEach [y] X.env := by rfl) (he2 : starEach [y] X.env = (false, eval y X.env) :: starEach [] X.env := by rfl) (hpl : (backTo pos (starEach [y] X.env)).any (·.1) = false := by rfl) (hK : X.K = K := by rfl) :
    DE (X.suite a ((a, oe) :: pn)) W (.Call (.Name "isinstance" p) [.Name x p1, y] [] pos) (tIsX K i a c d [u] false []) (mIsX i a c d tbl) := by subst hK; exact ⟨pe_isX1 hN hv hz hf hg hm hy k hd hcd he he2 hpl, sim_isX hX (by simp)⟩
theorem de_isX2 (K : Frag) {y1 y2 : Expr} {v1 v2 : V} {u1 u2 : Value} {x1 : Nat} {tbl : List (Str × Bool)} (hX : IsT K [u1, u2] tbl) (hz : Zc c d oe) (hf : ∃ vs, oe.data = .fields vs) (hg : Gl X "isinstance") (hm : X.mg "isinstance" = none) (hy1 : PE (X.suite a ((a, oe) :: pn)) y1 (tC v1)) (hy2 : PE (X.suite a ((a, oe) :: pn)) y2 (tC v2))
    (k1 : ClsV v1 u1) (k2 : ClsV v2 u2) (i : Nat) (hN : X.N[i]? = some x := by rfl) (hv : Vis X.env.scope x := by first | exact Or.inl rfl | exact Or.inr (Or.inl rfl) | exact Or.inr (Or.inr rfl)) (hd : (x == ("__debug__" : Str)) = false := by decide) (hcd : (x == ("__classdict__" : Str)) = false := by decide)
    (he : starEach [.Name x p1, .Tuple [y1, y2] x1 p2] X.env = (false, eval (.Name x p1) X.env) :: starEach [.Tuple [y1, y2] x1 p2] X.env := by rfl) (he2 : starEach [.Tuple [y1, y2] x1 p2] X.env = (false, eval (.Tuple [y1, y2] x1 p2) X.env) :: starEach [] X.env := by rfl)
    (he3 : starEach [y1, y2] X.env = (false, eval y1 X.env) :: starEach [y2] X.env := by rfl) (he4 : starEach [y2] X.env = (false, eval y2 X.env) :: starEach [] X.env := by rfl) (hpl : (backTo pos (starEach [.Tuple [y1, y2] x1 p2] X.env)).any (·.1) = false := by rfl) (hK : X.K = K := by rfl) :
    DE (X.suite a ((a, oe) :: pn)) W (.Call (.Name "isinstance" p) [.Name x p1, .Tuple [y1, y2] x1 p2] [] pos) (tIsX K i a c d [u1, u2] true [v1, v2]) (mIsX i a c d tbl) := by subst hK; exact ⟨pe_isX2 hN hv hz hf hg hm hy1 hy2 k1 k2 hd hcd he he2 he3 he4 hpl, sim_isX hX (by simp)⟩
end
end Mp

set_option Elab.async false
set_option linter.all false
set_option maxRecDepth 100000
set_option maxHeartbeats 4000000
/-! Mx3: what the head tells of the exception classes. -/
namespace Mp
open PySem PySem.Spec PyProof.Rows L2 HandSPX

abbrev XV : Type := Option (Str × Str × Arguments × FuncBody × Scope × Addr × List Str × Addr)
def xObs (K : Frag) (x : Str) : XV := match K.lookup (He.ma K (He.ga K x) "__init__") with
  | some ⟨_, _, .func fd, _⟩ => some (fd.name, fd.qualname, fd.params, fd.body, fd.scope, fd.globals, fd.closure.map (·.1), fd.builtins)
  | _ => none
/-- an exception class: its name, the def of its __init__ -/
structure XcD where
  x : Str
  qual : Str
  st : Stmt
def XcD.val (d : XcD) : XV := some ("__init__", d.qual, defArgs d.st, .stmts (defBody d.st), defScope d.st, mainGlobals, ["__class__"], builtinsNs)
def oexB (K : Frag) (C : Addr) : Bool := match K.lookup C with
  | some ⟨.type t, _, .cls cd, sl⟩ => (match cd.mro, sl.toList with
    | .ref C' :: bm, [_, _, _, _, some (.builtin n), _] => decide (t = "type") && (decide (C' = C) && (decide (n = "ValueError.__new__") && (!cd.hasDel && (cd.hasDict && refsVE bm))))
    | _, _ => false)
  | _ => false
theorem oexB_ok {K : Frag} {C : Addr} (h : oexB K C = true) : ∃ nm q N bs bm sn sub ab col dd k0 k1 k2 k3 k5, K.lookup C = some (excClassObj nm q C N bs bm true sn sub ab col dd k0 k1 k2 k3 k5 "ValueError.__new__") ∧ refsVE bm = true := by
  unfold oexB at h
  split at h
  · rename_i t dd cd sl ho
    split at h
    · rename_i C' bm k0 k1 k2 k3 n k5 hm hs
      obtain ⟨h1, h⟩ := He.ba h
      obtain ⟨h2, h⟩ := He.ba h
      obtain ⟨h3, h⟩ := He.ba h
      obtain ⟨h4, h⟩ := He.ba h
      obtain ⟨h5, h6⟩ := He.ba h
      have e1 := of_decide_eq_true h1
      have e2 := of_decide_eq_true h2
      have e3 := of_decide_eq_true h3
      subst e1 e2 e3
      obtain ⟨nm, bs, mro, ns, qn, hd, sn, sub, ab, col, del⟩ := cd
      dsimp only at hm h4 h5
      subst hm h5
      have h4' : del = false := by simpa using h4
      subst h4'
      obtain ⟨l⟩ := sl
      dsimp only at hs
      subst hs
      exact ⟨nm, qn, ns, bs, bm, sn, sub, ab, col, dd, k0, k1, k2, k3, k5, ho, h6⟩
    · cases h
  · cases h
/-- what is tested -/
def XcD.tests (P : Program) (K : Frag) (d : XcD) : List Bool :=
  let C := He.ga K d.x
  let f := He.ma K C "__init__"
  [He.eqO (PySem.W.nsIn K mainGlobals d.x) (some (some (.ref C))), oexB K C, He.eqO (PySem.W.findIn K (.ref C) "__setattr__") (some (some (.builtin "object.__setattr__"))), decide (PySem.W.subIn K (.ref C) (.type "BaseException") = some true), decide (PySem.W.typeIn K (.ref C) = some (.type "type")), PySem.W.keepIn K (.ref C),
    xfB K C, He.eqO (PySem.W.findIn K (.ref C) "__class__") (some (some (.builtin "object.__class__"))), decide (PySem.W.specialIn K (.builtin "object.__class__") "__get__" = some (some (.builtin "getset_descriptor.__get__"))), decide (PySem.W.takesIn K (.builtin "object.__class__") = some true), decide (PySem.W.mroIn K C (.type "object") = some true),
    He.eqO (PySem.W.findIn K (.ref C) "__init__") (some (some (.ref f))), decide (PySem.W.typeIn K (.ref f) = some (.type "function")), He.eqO (PySem.W.findIn K (.ref C) "place") (some none), He.eqO (PySem.W.nsIn K cStatics "thirdparty.any") (some none),
    He.eqO (PySem.W.ks_superIn K C C "__init__") (some (some (.builtin "ValueError.__init__"))), decide (PySem.W.subIn K (.ref C) (.type "ValueError") = some true), decide (PySem.W.mroIn K C (.ref C) = some true),
    match K.lookup f with
      | some ⟨_, _, .func fd, _⟩ => (PySem.W.codeIn K fd.code d.qual && (match fd.defaults with
        | .none => true
        | _ => false)) && (match fd.code, fd.closure with
        | .ref cda, [(_, cc)] => (match K.lookup cda with
          | some ⟨_, _, .fields vs, _⟩ => (match (vs[2]? : Option Value) with
            | some (Value.str file _) => (P.main.file : Str) == file
            | _ => false)
          | _ => false) && (match K.lookup cc with
            | some ⟨_, _, .cell (some (.ref D)), _⟩ => decide (D = C)
            | _ => false)
        | _, _ => false)
      | _ => false]
theorem XcD.good {P : Program} {K : Frag} {d : XcD} (e : xObs K d.x = d.val) (t : (d.tests P K).all id = true) :
    PySem.W.nsIn K mainGlobals d.x = some (some (.ref (He.ga K d.x))) ∧ XfC K (He.ga K d.x) ∧ L2.ExcC K (He.ga K d.x) ∧ PySem.W.findIn K (.ref (He.ga K d.x)) "__init__" = some (some (.ref (He.ma K (He.ga K d.x) "__init__"))) ∧ PySem.W.typeIn K (.ref (He.ma K (He.ga K d.x) "__init__")) = some (.type "function") ∧
      ∃ cc cda fd, XcOk P K (He.ga K d.x) (He.ma K (He.ga K d.x) "__init__") cc cda d.qual (defArgs d.st) (defBody d.st) (defScope d.st) fd := by
  unfold XcD.tests at t
  simp only [List.all_cons, List.all_nil, id, Bool.and_true, Bool.and_eq_true] at t
  obtain ⟨t1, t2, t3, t4, t5, t6, t7, t8, t9, t10, t11, t12, t13, t14, t15, t16, t17, t18, t19⟩ := t
  have XC := xfB_ok t7
  refine ⟨He.eqO_ok t1, XC, ⟨XC.ga, XC.gg, XC.exC, XC.hdC, He.eqO_ok t8, of_decide_eq_true t9, of_decide_eq_true t10, of_decide_eq_true t11⟩, He.eqO_ok t12, of_decide_eq_true t13, ?_⟩
  unfold xObs at e
  cases hf : K.lookup (He.ma K (He.ga K d.x) "__init__") with
  | none => rw [hf] at t19; cases t19
  | some o =>
    obtain ⟨oc, od, dt, osl⟩ := o
    rw [hf] at t19 e
    cases dt with
    | func fd =>
      obtain ⟨n1, n2, n3, n4, n5, n6, n7, n8, n9, n10, n11, n12, n13, n14, n15⟩ := fd
      have e2 : (some (n1, n2, n3, n4, n5, n6, n7.map (·.1), n15) : XV) = (some (("__init__" : Str), d.qual, defArgs d.st, FuncBody.stmts (defBody d.st), defScope d.st, mainGlobals, [("__class__" : Str)], builtinsNs) : XV) := e
      simp only [Option.some.injEq, Prod.mk.injEq] at e2
      obtain ⟨g1, g2, g3, g4, g5, g6, g7, g8⟩ := e2
      obtain ⟨d1, c2⟩ := He.ba t19
      obtain ⟨c1', c0⟩ := He.ba d1
      have c1 := c1'
      dsimp only at c0 c1 c2
      cases n8 with
      | none =>
       cases n13 with
       | ref cda =>
         match n7, g7, c2 with
         | [(nm, cc)], g7, c2 =>
           have g7' : nm = ("__class__" : Str) := by simpa using g7
           obtain ⟨c3, c4⟩ := He.ba c2
           refine ⟨cc, cda, _, ⟨⟨oexB_ok t2, He.eqO_ok t3, of_decide_eq_true t4, of_decide_eq_true t5, t6⟩, ⟨oc, od, n9, n10, n11, n12, n14, osl, ?_, hf⟩, c1, ?_, ?_, He.eqO_ok t14, He.eqO_ok t15, He.eqO_ok t16, of_decide_eq_true t17, of_decide_eq_true t18⟩⟩
           · subst g1 g2 g3 g4 g5 g6 g8 g7'
             rfl
           · cases hc : K.lookup cda with
             | none => rw [hc] at c3; cases c3
             | some o2 =>
               obtain ⟨ccl, cdd, dt2, ccs⟩ := o2
               rw [hc] at c3
               cases dt2 with
               | fields vs =>
                 dsimp only at c3
                 cases hv : vs[2]? with
                 | none => rw [hv] at c3; cases c3
                 | some v =>
                   rw [hv] at c3
                   cases v with
                   | str file tf => exact ⟨ccl, cdd, vs, ccs, file, tf, rfl, hv, c3⟩
                   | _ => cases c3
               | _ => cases c3
           · cases hc : K.lookup cc with
             | none => rw [hc] at c4; cases c4
             | some o2 =>
               obtain ⟨ecl, ecd, dt2, ecs⟩ := o2
               rw [hc] at c4
               cases dt2 with
               | cell v =>
                 cases v with
                 | none => cases c4
                 | some v =>
                   cases v with
                   | ref D =>
                     have ed : D = He.ga K d.x := of_decide_eq_true c4
                     subst ed
                     exact ⟨ecl, ecd, ecs, rfl⟩
                   | _ => cases c4
               | _ => cases c4
       | _ => cases c2
      | _ => cases c0
    | _ => cases t19

/-- what a def knows of an exception class -/
theorem xc_f {P : Program} {w : World} {K : Frag} {mg : Str → Option Value} {base h : Heap} {d : XcD} {lit : Str} {j : Nat} {p0 p1 p2 p3 p4 p5 p6 p7 p8 p9 p10 p11 p12 : Pos} {pl : Sem Bool} (X : K.In h) (G : h.Ns mainGlobals mg) (e : xObs K d.x = d.val) (t : (d.tests P K).all id = true)
    (S : XcSc P (defArgs d.st) (defScope d.st)) (hb : defBody d.st = xBody lit j p0 p1 p2 p3 p4 p5 p6 p7 p8 p9 p10 p11 p12) (hlit : lit.length ≤ 1000) (hmg : mg "super" = none)
    (hsw1 : ∀ env : Env, swapsWith (.Call (.Attribute (.Call (.Name "super" p0) [] [] p1) "__init__" p2) [.JoinedStr [.Constant (.str lit) j p3, .FormattedValue (.Name "place" p4) (-1) none p5] p6] [] p7) none p8.line env = pure false)
    (hsw2 : ∀ env : Env, swapsWith (.Name "place" p11) (some (.Attribute (.Name "self" p9) "place" p10)) p12.line env = pure false)
    (hj : ∀ env : Env, eval (.Call (.Attribute (.Call (.Name "super" p0) [] [] p1) "__init__" p2) [.JoinedStr [.Constant (.str lit) j p3, .FormattedValue (.Name "place" p4) (-1) none p5] p6] [] p7) env = (do
      let ov ← attributeBase (.Call (.Name "super" p0) [] [] p1) "__init__" env (eval (.Call (.Name "super" p0) [] [] p1) env)
      standAt p2.atName
      let (f, first) ← holding [ov] (getMethod ov "__init__" pl)
      callWith p7 f first (backTo p7 (starEach [.JoinedStr [.Constant (.str lit) j p3, .FormattedValue (.Name "place" p4) (-1) none p5] p6] env)) []))
    (hbind : ∀ (kV doc pm : Value) (an : Option Addr) (cdv ct : Value) (cc : Addr) (us : List Value), us.length = 2 → bindArgs (PySem.W.ksFn "__init__" d.qual (defArgs d.st) (defBody d.st) (defScope d.st) .none kV doc pm an cdv ct cc) ⟨us, []⟩ = pure ((["self", "place"] : List Str).zip us)) :
    XcF P w K mg base d.x := by
  obtain ⟨g1, g2, g3, g4, g5, cc, cda, fd, Z⟩ := XcD.good e t
  refine ⟨Z.ox, PySem.W.mg_of X G g1, _, fd, g4, g5, fn_xinit Z S hb hlit hmg hsw1 hsw2 hj, ?_⟩
  obtain ⟨_, _, kV, doc, pm, an, ct, _, ef, _⟩ := Z.fn
  subst ef
  exact .all fun us hl => hbind _ _ _ _ _ _ _ us hl

theorem xc_p {P : Program} {K : Frag} {d : XcD} (e : xObs K d.x = d.val) (t : (d.tests P K).all id = true) : (XfC K (He.ga K d.x) ∧ PySem.W.findIn K (.ref (He.ga K d.x)) "place" = some none) ∧ L2.ExcC K (He.ga K d.x) := by
  obtain ⟨_, g2, g3, _, _, cc, cda, fd, Z⟩ := XcD.good e t
  exact ⟨⟨g2, Z.pl⟩, g3⟩
/-! ### the Hook: facts, defs, exception classes, tests -/
abbrev AlX : Type := Bool × (List He.FnW × List XV)
def obsX (P : Program) (fa : List He.Fa) (fn : List He.DefD) (xs : List XcD) (bs : List (Frag → Bool)) (K : Frag) : AlX :=
  ((fa.all fun f => f.ok K) && ((fn.all fun d => d.ok K) && ((xs.all fun d => (d.tests P K).all id) && bs.all fun b => b K)), (fn.map fun d => He.fnW K d.at_, xs.map fun d => xObs K d.x))
def valX (fn : List He.DefD) (xs : List XcD) : AlX := (true, (fn.map He.DefD.val, xs.map XcD.val))
def SaysX (P : Program) (fa : List He.Fa) (fn : List He.DefD) (xs : List XcD) (bs : List (Frag → Bool)) (K : Frag) : Prop := obsX P fa fn xs bs K = valX fn xs
def obsXG (P : Program) (n : Nat) (fa : List He.Fa) (fn : List He.DefD) (xs : List XcD) (bs : List (Frag → Bool)) (g : Addr → Option Obj) : AlX := obsX P fa fn xs bs (He.frG g (cStatics :: He.asD g n))
def hookX (P : Program) (n : Nat) (fa : List He.Fa) (fn : List He.DefD) (xs : List XcD) (bs : List (Frag → Bool)) : PySem.W.Hook where
  α := AlX
  obs s := obsXG P n fa fn xs bs s.heap.get?
  val _ := valX fn xs
  says _ h := ∃ K : Frag, K.In h ∧ SaysX P fa fn xs bs K
  of _ _ e := ⟨_, He.frG_in, e⟩
  keeps _ _ _ z k := z.elim fun K y => ⟨K, PySem.W.Frag.In.keeps y.1 k, y.2⟩
theorem obsXG_eq {P : Program} {n : Nat} {fa : List He.Fa} {fn : List He.DefD} {xs : List XcD} {bs : List (Frag → Bool)} {g : Addr → Option Obj} {s : Shared} (h : ∀ a, g a = s.heap.get? a) : obsXG P n fa fn xs bs g = (hookX P n fa fn xs bs).obs s := by
  cases (funext h : g = s.heap.get?)
  rfl
section
variable {P : Program} {fa : List He.Fa} {fn : List He.DefD} {xs : List XcD} {bs : List (Frag → Bool)} {K : Frag}
theorem SaysX.all_ (c : SaysX P fa fn xs bs K) : ((fa.all fun f => f.ok K) && ((fn.all fun d => d.ok K) && ((xs.all fun d => (d.tests P K).all id) && bs.all fun b => b K))) = true := congrArg (fun z : AlX => z.1) c
theorem SaysX.fact (c : SaysX P fa fn xs bs K) (i : Nat) {f : He.Fa} (h : fa[i]? = some f := by rfl) : f.ok K = true := List.all_eq_true.mp (He.ba c.all_).1 f (List.mem_of_getElem? h)
theorem SaysX.test (c : SaysX P fa fn xs bs K) (i : Nat) {b : Frag → Bool} (h : bs[i]? = some b := by rfl) : b K = true := List.all_eq_true.mp (He.ba (He.ba (He.ba c.all_).2).2).2 b (List.mem_of_getElem? h)
theorem SaysX.def_ (c : SaysX P fa fn xs bs K) (i : Nat) {d : He.DefD} (h : fn[i]? = some d := by rfl) : ∃ fd, FunD K d.name d.qual d.params d.body d.scope (d.dvs K) (d.kws K) (He.fAd K d.at_) fd := by
  have e : fn.map (fun d => He.fnW K d.at_) = fn.map He.DefD.val := congrArg (fun z : AlX => z.2.1) c
  have q := congrArg (fun l => l[i]?) e
  simp only [List.getElem?_map, h, Option.map_some] at q
  exact He.DefD.funD (Option.some.inj q) (List.all_eq_true.mp (He.ba (He.ba c.all_).2).1 d (List.mem_of_getElem? h))
theorem SaysX.xc (c : SaysX P fa fn xs bs K) (i : Nat) {d : XcD} (h : xs[i]? = some d := by rfl) : xObs K d.x = d.val ∧ (d.tests P K).all id = true := by
  have e : xs.map (fun d => xObs K d.x) = xs.map XcD.val := congrArg (fun z : AlX => z.2.2) c
  have q := congrArg (fun l => l[i]?) e
  simp only [List.getElem?_map, h, Option.map_some] at q
  exact ⟨Option.some.inj q, List.all_eq_true.mp (He.ba (He.ba (He.ba c.all_).2).2).1 d (List.mem_of_getElem? h)⟩
end
/-! tables of classes, tested -/
def exT (x : Str) (tbl : List (Str × Bool)) : Frag → Bool := fun K => tbl.all fun p => decide (PySem.W.exmOne K (.ref (He.ga K p.1)) (.ref (He.ga K x)) = some p.2)
/-- a class as written: one of the program's, a built-in one -/
inductive Cn where
  | own (x : Str) | ty (n : String)
def Cn.u (K : Frag) : Cn → Value
  | .own x => .ref (He.ga K x)
  | .ty n => .type n
def isT (cs : List Cn) (tbl : List (Str × Bool)) : Frag → Bool := fun K => tbl.all fun p => decide (PySem.W.kitAny K (.ref (He.ga K p.1)) (cs.map (Cn.u K)) = some p.2)
theorem mem_look {tbl : List (Str × Bool)} {z : Str} {b : Bool} (h : tbl.lookup z = some b) : (z, b) ∈ tbl := by
  induction tbl with
  | nil => cases h
  | cons p r ih =>
    obtain ⟨x, c⟩ := p
    by_cases e : z = x
    · subst e
      have : c = b := by simpa [List.lookup] using h
      subst this
      exact List.mem_cons_self ..
    · have q : (z == x) = false := by simpa using e
      exact List.mem_cons_of_mem _ (ih (by simpa [List.lookup, q] using h))
theorem exT_ok {K : Frag} {x : Str} {tbl : List (Str × Bool)} (h : exT x tbl K = true) : ∀ z b, tbl.lookup z = some b → PySem.W.exmOne K (.ref (He.ga K z)) (.ref (He.ga K x)) = some b := fun z b e =>
  of_decide_eq_true (List.all_eq_true.mp h (z, b) (mem_look e))
theorem isT_ok {K : Frag} {cs : List Cn} {tbl : List (Str × Bool)} (h : isT cs tbl K = true) (hx : ∀ z b, tbl.lookup z = some b → L2.ExcC K (He.ga K z)) : IsT K (cs.map (Cn.u K)) tbl := fun z b e =>
  ⟨hx z b e, of_decide_eq_true (List.all_eq_true.mp h (z, b) (mem_look e))⟩
end Mp

set_option Elab.async false
set_option linter.all false
set_option maxRecDepth 100000
set_option maxHeartbeats 4000000
/-! Mx4: to run mirrors with exceptions. -/
namespace Mp
open PySem PySem.Spec PyProof.Rows L2
section
variable {hp : List O} {env : List (Option S)} {n : Nat} {R : S → List O → Prop} {Xp : MX} {Ma : ME} {Sb : MS} {nx bk ct : PS → Prop} {rt : S → List O → Prop} {ex : MX}
@[simp ↓] theorem x_raise {c : Str} : mRaise c Ma ⟨hp, env, n⟩ ⟨nx, bk, ct, rt, ex⟩ = Ma ⟨hp, env, n⟩ (fun v hp' => onH (val hp' v) (fun d => onH (asI d) (fun i => i.natAbs.log2 < 1920 ∧ ex ⟨c, [("place", .int i)]⟩ hp') .mk) .mk) ex := nr rfl
@[simp ↓] theorem x_try {N : Nat} {l : List HdM} : mTry N l Sb ⟨hp, env, n⟩ ⟨nx, bk, ct, rt, ex⟩ = Sb ⟨hp, env, n⟩ ⟨nx, bk, ct, rt, mHs N ⟨nx, bk, ct, rt, ex⟩ n l⟩ := nr rfl
@[simp ↓] theorem x_hsN {N : Nat} {k : MK} {x : Exn} : mHs N k n [] x hp = k.ex x hp := nr rfl
@[simp ↓] theorem x_hsC {N : Nat} {tbl : List (Str × Bool)} {i : Nat} {ms : Addr → Value → Option Addr → MS} {l : List HdM} {c : Str} {fs : List (Str × D)} : mHs N ⟨nx, bk, ct, rt, ex⟩ n (⟨tbl, i, ms⟩ :: l) ⟨c, fs⟩ hp =
  onH (tbl.lookup c) (fun b => brH b (∀ (a : Addr) (cv : Value) (d : Option Addr), ms a cv d ⟨hp, (List.replicate N none).set i (some (.exn a cv d ⟨c, fs⟩)), n⟩
    ⟨fun s => nx { s with env := s.env.set i none }, fun s => bk { s with env := s.env.set i none }, fun s => ct { s with env := s.env.set i none }, rt, fun _ _ => False⟩) (mHs N ⟨nx, bk, ct, rt, ex⟩ n l ⟨c, fs⟩ hp) .mk) .mk := nr rfl
def exO : Option (Option S) → Option (Addr × Value × Option Addr × Exn)
  | some (some (.exn a c d x)) => some (a, c, d, x)
  | _ => none
@[simp] theorem exO_some {a : Addr} {c : Value} {d : Option Addr} {x : Exn} : exO (some (some (.exn a c d x))) = some (a, c, d, x) := rfl
@[simp ↓] theorem x_isX {i : Nat} {a : Addr} {c : Value} {d : Option Addr} {tbl : List (Str × Bool)} : mIsX i a c d tbl ⟨hp, env, n⟩ R Xp = onH (exO env[i]?) (fun q => q.1 = a ∧ q.2.1 = c ∧ q.2.2.1 = d ∧ q.2.2.2.fs ≠ [] ∧ onH (tbl.lookup q.2.2.2.cls) (fun b => R (.d (.bl b)) hp) .mk) .mk := by
  show (match env[i]? with | some (some (.exn a' c' d' x)) => _ | _ => False) = on (exO env[i]?) _
  rcases env[i]? with _ | _ | s
  · rfl
  · rfl
  · cases s <;> rfl
@[simp ↓] theorem x_xf {i : Nat} {a : Addr} {c : Value} {d : Option Addr} {cs : List Str} {f : Str} : mXf i a c d cs f ⟨hp, env, n⟩ R Xp = onH (exO env[i]?) (fun q => q.1 = a ∧ q.2.1 = c ∧ q.2.2.1 = d ∧ q.2.2.2.cls ∈ cs ∧ onH (q.2.2.2.fs.lookup f) (fun y => R (.d y) hp) .mk) .mk := by
  show (match env[i]? with | some (some (.exn a' c' d' x)) => _ | _ => False) = on (exO env[i]?) _
  rcases env[i]? with _ | _ | s
  · rfl
  · rfl
  · cases s <;> rfl
@[simp] theorem look_first {f : Str} {y : D} {r : List (Str × D)} : List.lookup f ((f, y) :: r) = some y := by simp [List.lookup]
end
end Mp

set_option Elab.async false
set_option linter.all false
set_option maxRecDepth 100000
set_option maxHeartbeats 4000000
/-! Mx5: a list so many times, to be changed. -/
namespace Mp
open PySem PySem.Spec PyProof.Rows L2
def mMulM (Ma Mb : ME) : ME := fun s R Xp => Ma s (fun x hp1 => Mb { s with hp := hp1 } (fun y hp2 => on (val hp2 x) fun d1 => on (val hp2 y) fun d2 => on (lstD d1) fun xs => on (asI d2) fun k => -(2 ^ 63) ≤ k ∧ k < 2 ^ 63 ∧ xs.length * k.toNat ≤ sizeLine ∧ R (.mu hp2.length) (hp2 ++ [.lst (List.flatten (List.replicate k.toNat xs))])) Xp) Xp
theorem sim_mulM {K : Frag} {W : WX} {ta tb : TE} {Ma Mb : ME} (ha : SimE K W ta Ma) (hb : SimE K W tb Mb) : SimE K W (tOp rMulA ta tb) (mMulM Ma Mb) := by
  intro α s H σ w e R Xp m Q q qx
  refine ha α s H σ w e _ _ m _ (fun x hp1 α1 H1 v1 m1 e1 w1 r1 => ?_) qx
  refine hb α1 { s with hp := hp1 } H1 σ w1 (e.mono e1) _ _ m1 _ (fun y hp2 α2 H2 v2 m2 e2 w2 r2 => ?_) (qx.at e1)
  obtain ⟨d1, g1, m2⟩ := on.ex m2
  obtain ⟨d2, g2, m2⟩ := on.ex m2
  obtain ⟨xs, g3, m3⟩ := on.ex m2
  obtain ⟨k, g4, hk1, hk2, hz, m4⟩ := on.ex m3
  have t1 := (r1.mono e2).val w2 g1
  have t2 := (r2.val w2 g2).asI g4
  cases d1 with
  | lst ys =>
    cases g3
    subst t2
    obtain ⟨a, vs, ev, h1, r⟩ := t1
    refine .inr (.inr ⟨a, k, vs, ev, rfl, h1, hk1, hk2, by rw [← r.length]; exact hz, fun l hl => ?_⟩)
    obtain ⟨α3, w3, e3, r3⟩ := new_mu w2 hl (r.flat _)
    exact q _ _ α3 _ _ m4 ((e1.trans e2).trans e3) w3 r3
  | _ => cases g3
section
variable {X : Cx} {W : WX} {a b : Expr} {pos : Pos} {ta tb : TE} {Ma Mb : ME}
theorem de_mulM (ha : DE X W a ta Ma) (hb : DE X W b tb Mb) : DE X W (.BinOp a .Mult b pos) (tOp rMulA ta tb) (mMulM Ma Mb) := ⟨pe_op op_mulA ha.p hb.p, sim_mulM ha.s hb.s⟩
end
@[simp ↓] theorem x_mulM {hp : List O} {env : List (Option S)} {n : Nat} {R : S → List O → Prop} {Xp : MX} {Ma Mb : ME} : mMulM Ma Mb ⟨hp, env, n⟩ R Xp = Ma ⟨hp, env, n⟩ (fun x hp1 => Mb ⟨hp1, env, n⟩ (fun y hp2 => onH (val hp2 x) (fun d1 => onH (val hp2 y) (fun d2 => onH (lstD d1) (fun xs => onH (asI d2) (fun k =>
  -(2 ^ 63) ≤ k ∧ k < 2 ^ 63 ∧ xs.length * k.toNat ≤ sizeLine ∧ R (.mu hp2.length) (hp2 ++ [.lst (List.flatten (List.replicate k.toNat xs))])) .mk) .mk) .mk) .mk) Xp) Xp := nr rfl
end Mp

set_option Elab.async false
set_option linter.all false
set_option maxRecDepth 100000
set_option maxHeartbeats 4000000
/-! Mx6: calls with keywords. -/
namespace Mp
open PySem PySem.Spec PyProof.Rows L2
def tCallNS (n m : Nat) (sp : Sp) (gV : List V → List V → List V) (E : L2.St → XK) (t tk : TA) : TE := fun σ H Q => t σ H fun vs H1 => tk σ H1 fun zs H2 => vs.length = n ∧ zs.length = m ∧ sp (gV vs zs) H2 Q (E σ)
section
variable {X : Cx} {CX : CXT} {k n : Nat} {f : Addr} {fd : FuncData} {ps ks : List Str} {sp : Sp} {E : L2.St → XK} {x : Str} {p pos : Pos} {e : Expr} {es : List Expr} {kws : List Keyword} {t tk : TA} {g : List Value → List Value → List Value} {gV : List V → List V → List V}
theorem pe_callNS (F : FnOk X.prog X.w X.K X.mg X.base CX k f fd ps sp) (hr : Room k X.A) (hg : Gl X x) (hm : X.mg x = some (.ref f)) (hk : PySem.W.keepIn X.K (.ref f) = true) (hb : KBn X.K fd ps n ks g gV) (hx : ∀ σ, PassesAt CX X σ (E σ))
    (ha : PA X (e :: es) t) (hkw : PK X kws tk) (hall : (backToKw pos (keywordEach kws X.env)).all (·.1.isSome) = true := by rfl) (hks : (backToKw pos (keywordEach kws X.env)).filterMap (·.1) = ks := by rfl) (hdb : (x == ("__debug__" : Str)) = false := by decide)
    (he : starEach (e :: es) X.env = (false, eval e X.env) :: starEach es X.env := by rfl) (hpl : ((backTo pos (starEach (e :: es) X.env)).any (·.1) || (backToKw pos (keywordEach kws X.env)).any (·.1.isNone)) = false := by rfl) :
    PE X (.Call (.Name x p) (e :: es) kws pos) (tCallNS n ks.length sp gV E t tk) := by
  constructor
  intro pins s σ H Q I h
  refine wpAny_Call_Name_kw (ld_glob I hg hm ?_ hdb)
  refine PySem.W.callWith_KW I.ok.mod.kin hk hall (thn (ha.run pos pins s σ H _ I h) fun us s1 q1 => ?_) hpl he
  obtain ⟨vs, H1, I1, r1, q1⟩ := q1
  refine thn (hkw.run pos pins s1 σ H1 _ I1 q1) fun ws s2 q2 => ?_
  obtain ⟨zs, H2, I2, r2, l1, l2, q2⟩ := q2
  refine ⟨I2.kIn, ?_⟩
  rw [hks]
  refine wpAny_call (codeAny_mono (F.run X.A X.stack s2 H2 ⟨us, ks.zip ws⟩ (g us ws) (gV vs zs) Q (E σ) hr I2.env0 (hb.to s2 us ws I2.kIn (by rw [← r1.length]; exact l1) (by rw [← r2.length]; exact l2)) (hb.rel r1 r2) q2) fun r s3 q3 => ?_)
  cases r with
  | error er => exact hx σ pins H2 s2 er s3 I2 q3
  | ok fl =>
    cases fl with
    | ret u => exact I2.after q3
    | next => exact q3.elim
    | brk => exact q3.elim
    | cont => exact q3.elim
end
theorem srepL_append {K : Frag} {α : Mp_} {hp : List O} {H : Hp} : ∀ {ss zs : List S} {vs ws : List V}, SRepL K α hp H ss vs → SRepL K α hp H zs ws → SRepL K α hp H (ss ++ zs) (vs ++ ws)
  | _, _, _, _, .nil, g => g
  | _, _, _, _, .cons h t, g => .cons h (srepL_append t g)
structure DK (X : Cx) (W : WX) (kws : List Keyword) (t : TA) (M : MA) : Prop where
  p : PK X kws t
  s : SimA X.K W t M
def mCallK (N n m : Nat) (M : MF) (dd d2 : List D) (Ma Mk : MA) : ME := fun s R Xp => Ma s (fun ss hp1 => Mk { s with hp := hp1 } (fun zs hp2 => ss.length = n ∧ zs.length = m ∧ n + dd.length + m + d2.length = N ∧ M hp2 (ss ++ dd.map S.d ++ (zs ++ d2.map S.d)) R Xp) Xp) Xp
def gVK (dv d2 : List V) (vs zs : List V) : List V := vs ++ dv ++ (zs ++ d2)
/-- all keyword-only parameters are written, no default -/
theorem kb_all {K : Frag} {x qual : Str} {params : Arguments} {body : List Stmt} {scope : Scope} {kws : List (Str × V)} {f : Addr} {fd : FuncData} {ps : List Str} (F : FunD K x qual params body scope [] kws f fd) (n : Nat) (ks : List Str)
    (h : ∀ (kV doc pm : Value) (an : Option Addr) (cdv ct : Value) (us ws : List Value), us.length = n → ws.length = ks.length → bindArgs (PySem.W.fnOf x qual params body scope .none kV doc pm an cdv ct) ⟨us, ks.zip ws⟩ = pure (ps.zip (us ++ ws))) : ∃ g, KBn K fd ps n ks g (gVK [] []) := by
  obtain ⟨oc, od, dV, kV, doc, pm, an, cdv, ct, osl, rfl, lk, hcd, hD, hK⟩ := F.ex
  rcases hD with ⟨_, rfl⟩ | ⟨e, _⟩
  · refine ⟨fun us ws => us ++ ws, ⟨fun s us ws X l1 l2 => .of_eq (h _ _ _ _ _ _ us ws l1 l2), fun r1 r2 => ?_⟩⟩
    unfold gVK
    rw [List.append_nil, List.append_nil]
    exact r1.append r2
  · exact absurd rfl e
/-- .. some defaults fill up -/
theorem kb_some {K : Frag} {x qual : Str} {params : Arguments} {body : List Stmt} {scope : Scope} {dvs : List V} {kws : List (Str × V)} {f : Addr} {fd : FuncData} {ps : List Str} (F : FunD K x qual params body scope dvs kws f fd) (n j : Nat) (ks : List Str) (ms : List (Str × V)) (hd : dvs ≠ []) (hk : kws ≠ []) (hms : ∀ q ∈ ms, q ∈ kws)
    (h : ∀ (T D : Addr) (doc pm : Value) (an : Option Addr) (cdv ct : Value) (us its mv ws : List Value), us.length = n → its.length = dvs.length → mv.length = ms.length → ws.length = ks.length →
      ∃ k, bindArgs (PySem.W.fnOf x qual params body scope (.ref T) (.ref D) doc pm an cdv ct) ⟨us, ks.zip ws⟩ = seqItems? (.ref T) >>= k ∧ KwChain D ((ms.map (·.1)).zip mv) (k (some its.toArray)) (ps.zip (us ++ its.drop j ++ (ws ++ mv)))) :
    ∃ g, KBn K fd ps n ks g (gVK (dvs.drop j) (ms.map (·.2))) := by
  obtain ⟨its, mv, z⟩ := FunD.kbinds F n ks ms (fun us its mv ws => us ++ its.drop j ++ (ws ++ mv)) hd hk hms (fun r1 r2 r3 r4 => (r1.append (r2.drop j)).append (r4.append r3)) h
  exact ⟨_, z⟩
theorem sim_callK {K : Frag} {W : WX} {N n m : Nat} {fr : Bool} {M : MF} {dv d2v : List V} {dd d2 : List D} {t tk : TA} {Ma Mk : MA} (hd : ∀ A H, RepL K A H dd dv) (hd2 : ∀ A H, RepL K A H d2 d2v) (ha : SimA K W t Ma) (hk : SimA K W tk Mk) :
    SimE K W (tCallNS n m (spM K N fr M) (gVK dv d2v) (WE W) t tk) (mCallK N n m M dd d2 Ma Mk) := by
  intro α s H σ w e R Xp m1 Q q qx
  refine ha α s H σ w e _ _ m1 _ (fun ss hp1 α1 H1 vs m1 e1 w1 r1 => ?_) qx
  refine hk α1 { s with hp := hp1 } H1 σ w1 (e.mono e1) _ _ m1 _ (fun zs hp2 α2 H2 ws m2 e2 w2 r2 => ?_) (qx.at e1)
  obtain ⟨l1, l2, lN, m2⟩ := m2
  have h1 : vs.length = n := by rw [← r1.length]; exact l1
  have h2 : ws.length = m := by rw [← r2.length]; exact l2
  refine ⟨h1, h2, ?_, α2, hp2, _, R, Xp, w2, srepL_append (srepL_app (hd _ _) (r1.mono e2)) (srepL_app (hd2 _ _) r2), m2, fun s' hp' α' H' v r e' w' sr _ => q s' hp' α' H' v r ((e1.trans e2).trans e') w' sr, fun x hp' α' H' c d' r e' w' xr => qx x hp' α' H' c d' r ((e1.trans e2).trans e') w' xr⟩
  unfold gVK
  rw [List.length_append, List.length_append, List.length_append, h1, h2, ← (hd noA H).length, ← (hd2 noA H).length]
  omega
section
variable {X : Cx} {W : WX} {e : Expr} {es : List Expr} {kws : List Keyword} {nm : Str} {pos kpos : Pos} {te : TE} {t tk : TA} {Me : ME} {Ma Mk : MA}
theorem dk_nil : DK X W [] tNil mNil := ⟨pk_nil, sim_nil⟩
theorem dk_cons (ha : DE X W e te Me) (hr : DK X W kws tk Mk) : DK X W (⟨some nm, e, kpos⟩ :: kws) (tCons te tk) (mCons Me Mk) := ⟨pk_cons ha.p hr.p, sim_cons ha.s hr.s⟩
theorem de_callK (K : Frag) {x : Str} {k n m N : Nat} {f : Addr} {fd : FuncData} {ps ks : List Str} {fr : Bool} {M : MF} {dv d2v : List V} {dd d2 : List D} {g : List Value → List Value → List Value} {p : Pos} (F : FnOk X.prog X.w K X.mg X.base (L2.CX X.prog X.w) k f fd ps (spM K N fr M)) (tk' : Takes X W) (hr : Room k X.A) (hg : Gl X x) (hm : X.mg x = some (.ref f))
    (hk : PySem.W.keepIn K (.ref f) = true) (hb : KBn K fd ps n ks g (gVK dv d2v)) (hd : ∀ A H, RepL K A H dd dv) (hd2 : ∀ A H, RepL K A H d2 d2v) (ha : DA X W (e :: es) t Ma) (hkw : DK X W kws tk Mk) (hall : (backToKw pos (keywordEach kws X.env)).all (·.1.isSome) = true := by rfl) (hks : (backToKw pos (keywordEach kws X.env)).filterMap (·.1) = ks := by rfl)
    (hdb : (x == ("__debug__" : Str)) = false := by decide) (he : starEach (e :: es) X.env = (false, eval e X.env) :: starEach es X.env := by rfl) (hpl : ((backTo pos (starEach (e :: es) X.env)).any (·.1) || (backToKw pos (keywordEach kws X.env)).any (·.1.isNone)) = false := by rfl) (hkm : ks.length = m := by rfl) (hK : X.K = K := by rfl) :
    DE X W (.Call (.Name x p) (e :: es) kws pos) (tCallNS n m (spM K N fr M) (gVK dv d2v) (WE W) t tk) (mCallK N n m M dd d2 Ma Mk) := by
  subst hK hkm
  exact ⟨pe_callNS F hr hg hm hk hb (fun σ => passAt tk' σ) ha.p hkw.p hall hks hdb he hpl, sim_callK hd hd2 ha.s hkw.s⟩
end
@[simp ↓] theorem x_callK {hp : List O} {env : List (Option S)} {c : Nat} {R : S → List O → Prop} {Xp : MX} {N n m : Nat} {M : MF} {dd d2 : List D} {La Lk : MA} : mCallK N n m M dd d2 La Lk ⟨hp, env, c⟩ R Xp = La ⟨hp, env, c⟩ (fun ss hp1 => Lk ⟨hp1, env, c⟩ (fun zs hp2 =>
  ss.length = n ∧ zs.length = m ∧ n + dd.length + m + d2.length = N ∧ mfH M hp2 (ss ++ dd.map S.d ++ (zs ++ d2.map S.d)) R Xp .mk) Xp) Xp := nr rfl
end Mp

set_option Elab.async false
set_option linter.all false
set_option maxRecDepth 100000
set_option maxHeartbeats 4000000
/-! Mx7: further simp lemmas to run mirrors. -/
namespace Mp
open PySem PySem.Spec PyProof.Rows L2
section
variable {P : D → Prop}
@[simp] theorem flatD_int {i : Int} : flatD (.int i) = true := rfl
@[simp] theorem flatD_bl {i : Bool} : flatD (.bl i) = true := rfl
@[simp] theorem flatD_str {i : Str} : flatD (.str i) = true := rfl
@[simp] theorem flatD_non : flatD .non = true := rfl
@[simp ↓] theorem xfIn_i {neg : Bool} {i : Int} {c : D} : fIn neg (.int i) c P = onH (items c) (fun ds => ds.all flatD = true ∧ P (.bl (if neg then !inD (.int i) ds else inD (.int i) ds))) .mk := by
  show (on (asS (.int i)) _ ∨ on (items c) _) = on (items c) _
  simp [asS, flatD]
@[simp ↓] theorem xfIn_st {neg : Bool} {x : Str} {ds : List D} : fIn neg (.str x) (.tup ds) P = (ds.all flatD = true ∧ P (.bl (if neg then !inD (.str x) ds else inD (.str x) ds))) := by
  show (on (asS (.str x)) (fun i => on (asS (.tup ds)) _) ∨ on (items (.tup ds)) _) = _
  simp [asS, flatD]
@[simp ↓] theorem xfIn_sf {neg : Bool} {x : Str} {ds : List D} : fIn neg (.str x) (.fl ds) P = (ds.all flatD = true ∧ P (.bl (if neg then !inD (.str x) ds else inD (.str x) ds))) := by
  show (on (asS (.str x)) (fun i => on (asS (.fl ds)) _) ∨ on (items (.fl ds)) _) = _
  simp [asS, flatD]
@[simp ↓] theorem xfIn_sl {neg : Bool} {x : Str} {ds : List D} : fIn neg (.str x) (.lst ds) P = (ds.all flatD = true ∧ P (.bl (if neg then !inD (.str x) ds else inD (.str x) ds))) := by
  show (on (asS (.str x)) (fun i => on (asS (.lst ds)) _) ∨ on (items (.lst ds)) _) = _
  simp [asS, flatD]
end
section
variable {hp : List O} {env : List (Option S)} {c : Nat}
@[simp ↓] theorem x_gTup {n : Nat} {Gs : List D → PS → (PS → Prop) → Prop} {v : S} {N : PS → Prop} : mgTup n Gs v ⟨hp, env, c⟩ N = onH (isD v) (fun d => onH (asTup d) (fun ds => ds.length = n ∧ Gs ds ⟨hp, env, c⟩ N) .mk) .mk := nr rfl
@[simp ↓] theorem x_gsCons {G : MG} {Gs : List D → PS → (PS → Prop) → Prop} {d : D} {r : List D} {N : PS → Prop} : mgsCons G Gs (d :: r) ⟨hp, env, c⟩ N = G (.d d) ⟨hp, env, c⟩ (fun s1 => Gs r s1 N) := nr rfl
@[simp ↓] theorem x_gsNil {N : PS → Prop} : mgsNil [] ⟨hp, env, c⟩ N = N ⟨hp, env, c⟩ := nr rfl
@[simp] theorem x_isD {d : D} : isD (.d d) = some d := rfl
@[simp] theorem x_asTup {ds : List D} : asTup (.tup ds) = some ds := rfl
@[simp] theorem at_0 {τ : Type} {x : τ} {r : List τ} : atI (x :: r) 0 = some x := (atI_nat (by omega) (by simp)).trans rfl
@[simp] theorem at_1 {τ : Type} {x y : τ} {r : List τ} : atI (x :: y :: r) 1 = some y := (atI_nat (by omega) (by simp; omega)).trans rfl
@[simp] theorem at_2 {τ : Type} {x y z : τ} {r : List τ} : atI (x :: y :: z :: r) 2 = some z := (atI_nat (by omega) (by simp; omega)).trans rfl
@[simp] theorem at_3 {τ : Type} {x y z t : τ} {r : List τ} : atI (x :: y :: z :: t :: r) 3 = some t := (atI_nat (by omega) (by simp; omega)).trans rfl
end
end Mp

set_option Elab.async false
set_option linter.all false
set_option maxRecDepth 100000
set_option maxHeartbeats 4000000
/-! Mr0: own methods that may raise. -/
namespace Mp
open PySem PySem.Spec PyProof.Rows L2
/-- a.m(..): the slots stay while it raises -/
def tMethS (C : Addr) (m : Str) (sp : Sp) (dvs : List V) (E : L2.St → XK) (ta : TE) (t : TA) : TE := fun σ H Q => ta σ H fun x H1 => ∃ a dx fs, x = .ref a ∧ H1 a = some (.ins C dx fs) ∧ fs.lookup m = none ∧ t σ H1 fun vs H2 => sp (x :: (vs ++ dvs)) H2 Q (E σ)
section
variable {X : Cx} {CX : CXT} {k : Nat} {f C : Addr} {fd : FuncData} {ps : List Str} {sp : Sp} {dvs : List V} {ds : List Value} {E : L2.St → XK} {m : Str} {pos apos : Pos} {e o : Expr} {es : List Expr} {ta : TE} {t : TA} {pl : Sem Bool}
theorem pe_methS (h : PE X o ta) (c : Cls X.K C) (hm : Meth X.K C m f) (F : FnOk X.prog X.w X.K X.mg X.base CX k f fd ps sp) (hr : Room k X.A) (hb : Binds X.K fd ps ds) (hd : Vals dvs ds) (hx : ∀ σ, PassesAt CX X σ (E σ)) (ha : PA X (e :: es) t)
    (he : starEach (e :: es) X.env = (false, eval e X.env) :: starEach es X.env := by rfl) (hpl : (backTo pos (starEach es X.env)).any (·.1) = false := by rfl)
    (hev : eval (.Call (.Attribute o m apos) (e :: es) [] pos) X.env = (do
      let ov ← eval o X.env
      standAt apos.atName
      let (f, first) ← holding [ov] (getMethod ov m pl)
      callWith pos f first (backTo pos (starEach (e :: es) X.env)) (backToKw pos (keywordEach [] X.env))) := by rfl) : PE X (.Call (.Attribute o m apos) (e :: es) [] pos) (tMethS C m sp dvs E ta t) := by
  refine ⟨fun pins s σ H Q I q => ?_⟩
  rw [hev]
  refine wpAny_bind (thn (h.run pins s σ H _ I q) fun ov s1 ⟨x, H1, I1, rx, q⟩ => ?_)
  obtain ⟨a, dx, fs, rfl, h1, h2, q⟩ := q
  cases rx
  refine wpAny_bind (wpAny_standAt ?_)
  obtain ⟨mA, om, rel, _⟩ := ins_get I1.hok h1
  have hn : mA m = none := by
    have := rel m
    rw [h2] at this
    cases g : mA m with
    | none => rfl
    | some y => rw [g] at this; cases this
  refine wpAny_bind (wpAny_holding (get_meth I1.kIn om ?_ hm.at_ hm.fn hn ?_))
  · exact c.pg
  refine PySem.W.callWith_K I1.kIn hm.kp (thn (ha.run pos pins s1 σ H1 _ I1 q) fun us s2 q2 => ?_) he hpl
  obtain ⟨vs, H2, I2, r2, q2⟩ := q2
  refine ⟨I2.kIn, ?_⟩
  exact run_fnSD (us := .ref a :: us) (vs := .ref a :: vs) F hr hb hd (hx σ) I2 (.cons rfl r2) q2
theorem pe_methS0 (h : PE X o ta) (c : Cls X.K C) (hm : Meth X.K C m f) (F : FnOk X.prog X.w X.K X.mg X.base CX k f fd ps sp) (hr : Room k X.A) (hb : Binds X.K fd ps ds) (hd : Vals dvs ds) (hx : ∀ σ, PassesAt CX X σ (E σ))
    (hev : eval (.Call (.Attribute o m apos) [] [] pos) X.env = (do
      let ov ← eval o X.env
      standAt apos.atName
      let (f, first) ← holding [ov] (getMethod ov m pl)
      callWith pos f first (backTo pos (starEach [] X.env)) (backToKw pos (keywordEach [] X.env))) := by rfl) : PE X (.Call (.Attribute o m apos) [] [] pos) (tMethS C m sp dvs E ta tNil) := by
  refine ⟨fun pins s σ H Q I q => ?_⟩
  rw [hev]
  refine wpAny_bind (thn (h.run pins s σ H _ I q) fun ov s1 ⟨x, H1, I1, rx, q⟩ => ?_)
  obtain ⟨a, dx, fs, rfl, h1, h2, q⟩ := q
  cases rx
  refine wpAny_bind (wpAny_standAt ?_)
  obtain ⟨mA, om, rel, _⟩ := ins_get I1.hok h1
  have hn : mA m = none := by
    have := rel m
    rw [h2] at this
    cases g : mA m with
    | none => rfl
    | some y => rw [g] at this; cases this
  refine wpAny_bind (wpAny_holding (get_meth I1.kIn om ?_ hm.at_ hm.fn hn ?_))
  · exact c.pg
  refine PySem.W.callWith_K0 I1.kIn hm.kp ?_
  exact run_fnSD (us := [.ref a]) (vs := [.ref a]) F hr hb hd (hx σ) I1 (.cons rfl .nil) q
end
end Mp

set_option Elab.async false
set_option linter.all false
set_option maxRecDepth 100000
set_option maxHeartbeats 4000000
/-! Mr1: regions: what a change does to them. -/
namespace Mp
open PySem PySem.Spec PyProof.Rows L2
/-- which node a thing is -/
def obO : S → Option (Nat × Nat)
  | .mu n => some (n, 0)
  | .ob n k => some (n, k)
  | _ => none
theorem SRep.obj {K : Frag} {α : Mp_} {hp : List O} {H : Hp} {s : S} {v : V} {n k : Nat} (r : SRep K α hp H s v) (h : obO s = some (n, k)) : ∃ (p : Addr × List Addr) (a : Addr), α.own[n]? = some p ∧ (adr p)[k]? = some a ∧ v = .ref a := by
  cases s with
  | mu m => cases h; obtain ⟨p, h1, h2⟩ := r; exact ⟨p, p.1, h1, rfl, h2⟩
  | ob m j => cases h; obtain ⟨p, a, h1, h2, h3⟩ := r; exact ⟨p, a, h1, h2, h3⟩
  | d _ => cases h
  | exn _ _ _ _ => cases h
/-- an object's nodes -/
def regO : O → Option (List Gn)
  | .reg gs => some gs
  | .lst ds => some [.lst (ds.map .d)]
  | _ => none
def regAt (hp : List O) (n : Nat) : Option (List Gn) := match hp[n]? with
  | some o => regO o
  | none => none
theorem regAt_some {hp : List O} {n : Nat} {gs : List Gn} (h : regAt hp n = some gs) : ∃ o, hp[n]? = some o ∧ regO o = some gs ∧ o ≠ .gone := by
  unfold regAt at h
  cases g : hp[n]? with
  | none => rw [g] at h; cases h
  | some o => rw [g] at h; exact ⟨o, rfl, h, fun z => by subst z; cases h⟩
theorem RepNL.of_ds {K : Frag} {A : Av} {H : Hp} {as : List Addr} : ∀ {ds : List D} {vs : List V}, RepL K A H ds vs → RepNL K A H as (ds.map .d) vs
  | [], _, h => by cases h; exact .nil
  | d :: ds, _, ⟨v, r, e, h, t⟩ => by subst e; exact .cons h (RepNL.of_ds t)
theorem OR.regs {K : Frag} {A : Av} {H : Hp} {p : Addr × List Addr} {o : O} {gs : List Gn} (h : OR K A H p o) (e : regO o = some gs) : (adr p).length = gs.length ∧ ∀ (k : Nat) (g : Gn) (a : Addr), gs[k]? = some g → (adr p)[k]? = some a → GR K A H (adr p) a g := by
  cases o with
  | reg gs' => cases e; exact h
  | lst ds =>
    cases e
    obtain ⟨e2, vs, h1, r⟩ := h
    refine ⟨by simp [adr, e2], fun k g a h3 h4 => ?_⟩
    cases k with
    | zero => cases h3; cases h4; exact ⟨vs, h1, RepNL.of_ds r⟩
    | succ k => cases h3
  | dct _ => cases e
  | gone => cases e
theorem WOk.regs {K : Frag} {α : Mp_} {hp : List O} {H : Hp} (w : WOk K α hp H) {n : Nat} {gs : List Gn} {p : Addr × List Addr} (h : regAt hp n = some gs) (hp' : α.own[n]? = some p) : (adr p).length = gs.length ∧ ∀ (k : Nat) (g : Gn) (a : Addr), gs[k]? = some g → (adr p)[k]? = some a → GR K (Al α hp) H (adr p) a g := by
  obtain ⟨o, h1, h2, _⟩ := regAt_some h
  exact (w.obj n o p h1 hp').regs h2
theorem adr_ne {p : Addr × List Addr} (h : p.1 ∉ p.2 ∧ p.2.Nodup) {i j : Nat} {a b : Addr} (hi : (adr p)[i]? = some a) (hj : (adr p)[j]? = some b) (n : i ≠ j) : a ≠ b := by
  intro e
  subst e
  have nd : (adr p).Nodup := List.nodup_cons.mpr h
  obtain ⟨h1, h2⟩ := List.getElem?_eq_some_iff.mp hi
  obtain ⟨h3, h4⟩ := List.getElem?_eq_some_iff.mp hj
  exact n ((List.getElem_inj nd).mp (h2.trans h4.symm))
/-- one of an object's own addresses gets another content, the object another description -/
theorem WOk.putA {K : Frag} {α : Mp_} {hp : List O} {H : Hp} {n : Nat} {o o' : O} {p : Addr × List Addr} {a : Addr} {x : HO} (w : WOk K α hp H) (h : hp[n]? = some o) (hg : o ≠ .gone) (ha : α.own[n]? = some p) (hg' : o' ≠ .gone) (hm : a = p.1 ∨ a ∈ p.2)
    (ho : StepW α hp H α (hp.set n o') (upd H a x) → OR K (Al α (hp.set n o')) (upd H a x) p o') : WOk K α (hp.set n o') (upd H a x) ∧ Ext α hp H α (hp.set n o') (upd H a x) := by
  have hn : n < hp.length := (List.getElem?_eq_some_iff.mp h).1
  have mt : ∀ a, Mt α (hp.set n o') a → Mt α hp a := fun a ⟨m, q, u, h1, h2, h3, h4⟩ => by
    rcases set_get h2 with ⟨e, _⟩ | ⟨_, h2⟩
    · subst e
      exact ⟨n, q, o, h1, h, hg, h4⟩
    · exact ⟨m, q, u, h1, h2, h3, h4⟩
  have al : ∀ a, Al α (hp.set n o') a → Al α hp a := fun a z => z.imp (mt a) id
  have hp1 : Mt α hp a := ⟨n, p, o, ha, h, hg, hm⟩
  have st : StepW α hp H α (hp.set n o') (upd H a x) := ⟨fun b u e z => by
    have : b ≠ a := fun y => by subst y; exact z hp1
    rw [upd_ne this]; exact e, fun a z => .inl (al a z), fun a z => .inl (mt a z), al_sub, stay_upd⟩
  refine ⟨⟨by rw [List.length_set]; exact w.len, fun m u q h1 h2 => ?_, fun m u q h1 h2 hz => ?_, fun m k u u' q q' h1 h2 h3 h4 h5 h6 hne b hx hy => ?_, fun b hb => ?_⟩, ⟨Pre.refl _, st, fun _ _ h e => (at_none h e).elim⟩⟩
  · rcases set_get h1 with ⟨e, e'⟩ | ⟨e, h1⟩
    · subst e e'
      rw [ha] at h2
      cases h2
      exact ho st
    · refine (w.obj m u q h1 h2).mono st fun hz b hb => ?_
      rw [upd_ne fun y => ?_]
      subst y
      exact w.inj n m o u p q h ha hg h1 h2 hz e _ hm hb
  · rcases set_get h1 with ⟨e, e'⟩ | ⟨e, h1⟩
    · subst e
      exact w.one n o q h h2 hg
    · exact w.one m u q h1 h2 hz
  · have f : ∀ {m : Nat} {u : O}, (hp.set n o')[m]? = some u → u ≠ .gone → ∃ u', hp[m]? = some u' ∧ u' ≠ .gone := fun {m u} h1 hz => by
      rcases set_get h1 with ⟨e, e'⟩ | ⟨e, h1⟩
      · subst e; exact ⟨o, h, hg⟩
      · exact ⟨u, h1, hz⟩
    obtain ⟨v, g1, g2⟩ := f h1 h3
    obtain ⟨v', g3, g4⟩ := f h4 h6
    exact w.inj m k v v' q q' g1 h2 g2 g3 h5 g4 hne b hx hy
  · obtain ⟨⟨y, hy⟩, hm⟩ := w.ban b hb
    obtain ⟨z, hz⟩ := st.stay b y hy
    exact ⟨⟨z, hz⟩, fun z => hm (mt b z)⟩
/-- a node gets another content -/
theorem WOk.putG {K : Frag} {α : Mp_} {hp : List O} {H : Hp} {n k : Nat} {gs : List Gn} {g g' : Gn} {p : Addr × List Addr} {a : Addr} {x : HO} (w : WOk K α hp H) (h : regAt hp n = some gs) (hk : gs[k]? = some g) (hp' : α.own[n]? = some p) (ha : (adr p)[k]? = some a)
    (ho : StepW α hp H α (hp.set n (.reg (gs.set k g'))) (upd H a x) → GR K (Al α (hp.set n (.reg (gs.set k g')))) (upd H a x) (adr p) a g') : WOk K α (hp.set n (.reg (gs.set k g'))) (upd H a x) ∧ Ext α hp H α (hp.set n (.reg (gs.set k g'))) (upd H a x) := by
  obtain ⟨o, h1, h2, h3⟩ := regAt_some h
  obtain ⟨l, r⟩ := w.regs h hp'
  have one := w.one n o p h1 hp' h3
  refine w.putA h1 h3 hp' (fun z => by cases z) (List.mem_cons.mp (List.mem_iff_getElem?.mpr ⟨k, ha⟩)) fun st => ⟨by rw [List.length_set]; exact l, fun j u b hu hb => ?_⟩
  rcases set_get hu with ⟨e, e'⟩ | ⟨e, hu⟩
  · subst e e'
    rw [ha] at hb
    cases hb
    exact ho st
  · exact (r j u b hu hb).mono st (fun _ _ h => h) (upd_ne (adr_ne one hb ha (Ne.symm e)))
/-- a region takes up another one, whose nodes' numbers grow by c -/
def shN (c : Nat) : Nd → Nd
  | .d x => .d x
  | .nd k => .nd (k + c)
def shG (c : Nat) : Gn → Gn
  | .lst xs => .lst (xs.map (shN c))
  | .ins C fs => .ins C (fs.map fun x => (x.1, shN c x.2))
theorem RepN.sh {K : Frag} {A : Av} {H : Hp} {as bs : List Addr} {c : Nat} (l : ∀ (k : Nat) (a : Addr), as[k]? = some a → bs[k + c]? = some a) : ∀ {x : Nd} {v : V}, RepN K A H as x v → RepN K A H bs (shN c x) v
  | .d _, _, h => h
  | .nd k, _, ⟨a, h, e⟩ => ⟨a, l k a h, e⟩
theorem paired_map {τ σ ρ : Type} {P : τ → σ → Prop} {Q : ρ → σ → Prop} {f : τ → ρ} (h : ∀ x y, P x y → Q (f x) y) : ∀ {xs : List τ} {ys : List σ}, Paired P xs ys → Paired Q (xs.map f) ys
  | _, _, .nil => .nil
  | _, _, .cons p r => .cons (h _ _ p) (paired_map h r)
theorem GR.sh {K : Frag} {A : Av} {H : Hp} {as bs : List Addr} {c : Nat} (l : ∀ (k : Nat) (a : Addr), as[k]? = some a → bs[k + c]? = some a) {a : Addr} : ∀ {g : Gn}, GR K A H as a g → GR K A H bs a (shG c g)
  | .lst _, ⟨vs, h, r⟩ => ⟨vs, h, paired_map (fun _ _ q => q.sh l) r⟩
  | .ins _ _, ⟨dx, ws, h, r⟩ => ⟨dx, ws, h, paired_map (fun _ _ q => ⟨q.1, q.2.sh l⟩) r⟩
def Mp_.take_ (α : Mp_) (n : Nat) (p q : Addr × List Addr) : Mp_ := { α with own := α.own.set n (p.1, p.2 ++ adr q) }
theorem WOk.absorb {K : Frag} {α : Mp_} {hp : List O} {H : Hp} {n m : Nat} {gs gs' : List Gn} {p q : Addr × List Addr} (w : WOk K α hp H) (hn : regAt hp n = some gs) (hm : regAt hp m = some gs') (hp' : α.own[n]? = some p) (hq : α.own[m]? = some q) (ne : n ≠ m) :
    WOk K (α.take_ n p q) ((hp.set n (.reg (gs ++ gs'.map (shG gs.length)))).set m .gone) H ∧ Ext α hp H (α.take_ n p q) ((hp.set n (.reg (gs ++ gs'.map (shG gs.length)))).set m .gone) H := by
  obtain ⟨o, h1, h2, h3⟩ := regAt_some hn
  obtain ⟨o', g1, g2, g3⟩ := regAt_some hm
  obtain ⟨l1, r1⟩ := w.regs hn hp'
  obtain ⟨l2, r2⟩ := w.regs hm hq
  have ln : n < hp.length := (List.getElem?_eq_some_iff.mp h1).1
  have lm : m < hp.length := (List.getElem?_eq_some_iff.mp g1).1
  have own_ : ∀ {j : Nat} {x : Addr × List Addr}, (α.take_ n p q).own[j]? = some x → (j = n ∧ x = (p.1, p.2 ++ adr q)) ∨ (j ≠ n ∧ α.own[j]? = some x) := fun {j x} h => by
    rcases set_get (show (α.own.set n _)[j]? = some x from h) with ⟨e, e'⟩ | ⟨e, h⟩
    · exact .inl ⟨e.symm, e'.symm⟩
    · exact .inr ⟨fun z => e z.symm, h⟩
  have hp_ : ∀ {j : Nat} {u : O}, ((hp.set n (.reg (gs ++ gs'.map (shG gs.length)))).set m .gone)[j]? = some u → u ≠ .gone → (j = n ∧ u = .reg (gs ++ gs'.map (shG gs.length))) ∨ (j ≠ n ∧ j ≠ m ∧ hp[j]? = some u) := fun {j u} h hg => by
    rcases set_get h with ⟨e, e'⟩ | ⟨e, h⟩
    · exact absurd e'.symm hg
    · rcases set_get h with ⟨e2, e'⟩ | ⟨e2, h⟩
      · exact .inl ⟨e2.symm, e'.symm⟩
      · exact .inr ⟨fun z => e2 z.symm, fun z => e z.symm, h⟩
  have mt : ∀ a, Mt (α.take_ n p q) ((hp.set n (.reg (gs ++ gs'.map (shG gs.length)))).set m .gone) a → Mt α hp a := by
    rintro a ⟨j, x, u, a1, a2, a3, a4⟩
    rcases hp_ a2 a3 with ⟨e, _⟩ | ⟨e1, e2, b1⟩
    · subst e
      rcases own_ a1 with ⟨_, e⟩ | ⟨e, _⟩
      · subst e
        rcases a4 with z | z
        · exact ⟨j, p, o, hp', h1, h3, .inl z⟩
        · rcases List.mem_append.mp z with z | z
          · exact ⟨j, p, o, hp', h1, h3, .inr z⟩
          · exact ⟨m, q, o', hq, g1, g3, List.mem_cons.mp z⟩
      · exact absurd rfl e
    · rcases own_ a1 with ⟨e, _⟩ | ⟨_, b2⟩
      · exact absurd e e1
      · exact ⟨j, x, u, b2, b1, a3, a4⟩
  have al : ∀ a, Al (α.take_ n p q) ((hp.set n (.reg (gs ++ gs'.map (shG gs.length)))).set m .gone) a → Al α hp a := fun a z => z.imp (mt a) id
  have st : StepW α hp H (α.take_ n p q) ((hp.set n (.reg (gs ++ gs'.map (shG gs.length)))).set m .gone) H := ⟨fun _ _ h _ => h, fun a z => .inl (al a z), fun a z => .inl (mt a z), al_sub, fun _ o h => ⟨o, h⟩⟩
  have pne : ∀ a, (a = p.1 ∨ a ∈ p.2) → ¬ (a = q.1 ∨ a ∈ q.2) := w.inj n m o o' p q h1 hp' h3 g1 hq g3 ne
  have ole : OwnLe α.own (α.take_ n p q).own := fun j x hx => by
    by_cases e : j = n
    · subst e
      rw [hp'] at hx
      cases hx
      exact ⟨_, List.getElem?_set_self (List.getElem?_eq_some_iff.mp hp').1, rfl, List.prefix_append _ _⟩
    · exact ⟨x, by show (α.own.set n _)[j]? = _; rw [List.getElem?_set_ne (Ne.symm e)]; exact hx, rfl, List.prefix_refl _⟩
  refine ⟨⟨?_, fun j u x a1 a2 => ?_, fun j u x a1 a2 hg => ?_, fun i j u u' x x' a1 a2 a3 a4 a5 a6 hne a ha hb => ?_, fun a ha => ?_⟩, ⟨⟨ole, rfl⟩, st, fun j x hl hx => ?_⟩⟩
  · show (α.own.set n _).length = _
    rw [List.length_set, List.length_set, List.length_set]
    exact w.len
  · by_cases hg : u = .gone
    · subst hg; exact trivial
    rcases hp_ a1 hg with ⟨e, e'⟩ | ⟨e1, e2, b1⟩
    · subst e e'
      rcases own_ a2 with ⟨_, e⟩ | ⟨e, _⟩
      · subst e
        have la : (adr p ++ adr q).length = gs.length + gs'.length := by rw [List.length_append, l1, l2]
        refine ⟨by show (adr p ++ adr q).length = _; rw [la, List.length_append, List.length_map], fun k g a b1 b2 => ?_⟩
        have b2 : (adr p ++ adr q)[k]? = some a := b2
        by_cases hk : k < gs.length
        · rw [List.getElem?_append_left hk] at b1
          rw [List.getElem?_append_left (by omega)] at b2
          exact (r1 k g a b1 b2).mono st (fun i b hb => by show (adr p ++ adr q)[i]? = _; rw [List.getElem?_append_left (List.getElem?_eq_some_iff.mp hb).1]; exact hb) rfl
        · rw [List.getElem?_append_right (by omega), List.getElem?_map] at b1
          rw [List.getElem?_append_right (by omega)] at b2
          cases z : gs'[k - gs.length]? with
          | none => rw [z] at b1; cases b1
          | some g0 =>
            rw [z] at b1
            cases b1
            refine ((r2 _ g0 a z (by rw [← l1]; exact b2)).mono st (fun _ _ h => h) rfl).sh (c := gs.length) fun i b hb => ?_
            show (adr p ++ adr q)[i + gs.length]? = _
            rw [List.getElem?_append_right (by omega), l1, Nat.add_sub_cancel]
            exact hb
      · exact absurd rfl e
    · rcases own_ a2 with ⟨e, _⟩ | ⟨_, b2⟩
      · exact absurd e e1
      · exact (w.obj j u x b1 b2).mono st fun _ _ _ => rfl
  · rcases hp_ a1 hg with ⟨e, e'⟩ | ⟨e1, e2, b1⟩
    · subst e e'
      rcases own_ a2 with ⟨_, e⟩ | ⟨e, _⟩
      · subst e
        have o1 := w.one j o p h1 hp' h3
        have o2 := w.one m o' q g1 hq g3
        refine ⟨fun z => ?_, ?_⟩
        · rcases List.mem_append.mp z with z | z
          · exact o1.1 z
          · exact pne p.1 (.inl rfl) (List.mem_cons.mp z)
        · refine List.nodup_append.mpr ⟨o1.2, List.nodup_cons.mpr o2, fun a ha b hb e => ?_⟩
          subst e
          exact pne a (.inr ha) (List.mem_cons.mp hb)
      · exact absurd rfl e
    · rcases own_ a2 with ⟨e, _⟩ | ⟨_, b2⟩
      · exact absurd e e1
      · exact w.one j u x b1 b2 hg
  · have key : ∀ {i : Nat} {u : O} {x : Addr × List Addr}, ((hp.set n (.reg (gs ++ gs'.map (shG gs.length)))).set m .gone)[i]? = some u → (α.take_ n p q).own[i]? = some x → u ≠ .gone → (a = x.1 ∨ a ∈ x.2) →
        ∃ (i' : Nat) (u' : O) (x' : Addr × List Addr), hp[i']? = some u' ∧ α.own[i']? = some x' ∧ u' ≠ .gone ∧ (a = x'.1 ∨ a ∈ x'.2) ∧ (i' = i ∨ (i' = m ∧ i = n)) ∧ i ≠ m := fun {i u x} b1 b2 b3 b4 => by
      rcases hp_ b1 b3 with ⟨e, e'⟩ | ⟨e1, e2, c1⟩
      · subst e
        rcases own_ b2 with ⟨_, e⟩ | ⟨e, _⟩
        · subst e
          rcases b4 with z | z
          · exact ⟨i, o, p, h1, hp', h3, .inl z, .inl rfl, ne⟩
          · rcases List.mem_append.mp z with z | z
            · exact ⟨i, o, p, h1, hp', h3, .inr z, .inl rfl, ne⟩
            · exact ⟨m, o', q, g1, hq, g3, List.mem_cons.mp z, .inr ⟨rfl, rfl⟩, ne⟩
        · exact absurd rfl e
      · rcases own_ b2 with ⟨e, _⟩ | ⟨_, c2⟩
        · exact absurd e e1
        · exact ⟨i, u, x, c1, c2, b3, b4, .inl rfl, e2⟩
    obtain ⟨i', v, y, d1, d2, d3, d4, d5, d6⟩ := key a1 a2 a3 ha
    obtain ⟨j', v', y', f1, f2, f3, f4, f5, f6⟩ := key a4 a5 a6 hb
    refine w.inj i' j' v v' y y' d1 d2 d3 f1 f2 f3 ?_ a d4 f4
    rcases d5 with d5 | ⟨d5, d7⟩ <;> rcases f5 with f5 | ⟨f5, f7⟩ <;> subst d5 f5 <;> first | exact hne | (intro z; subst z; first | exact d6 rfl | exact f6 rfl) | (intro _; exact hne (d7.trans f7.symm))
  · have ha : α.ban a := ha
    obtain ⟨hx, hy⟩ := w.ban a ha
    exact ⟨hx, fun z => hy (mt a z)⟩
  · rw [← List.length_set (i := n) (a := (p.1, p.2 ++ adr q))] at hl
    exact (at_none hl (show (α.own.set n _)[j]? = some x from hx)).elim
end Mp

set_option Elab.async false
set_option linter.all false
set_option maxRecDepth 100000
set_option maxHeartbeats 4000000
/-! Mr2: regions: what is read, what is stored; lists that bear lists. -/
namespace Mp
open PySem PySem.Spec PyProof.Rows L2
def gnAt (hp : List O) (n k : Nat) : Option Gn := (regAt hp n).bind (·[k]?)
theorem gnAt_some {hp : List O} {n k : Nat} {g : Gn} (h : gnAt hp n k = some g) : ∃ gs, regAt hp n = some gs ∧ gs[k]? = some g := by
  unfold gnAt at h
  cases e : regAt hp n with
  | none => rw [e] at h; cases h
  | some gs => rw [e] at h; exact ⟨gs, rfl, h⟩
theorem WOk.gn {K : Frag} {α : Mp_} {hp : List O} {H : Hp} (w : WOk K α hp H) {n k : Nat} {g : Gn} {p : Addr × List Addr} {a : Addr} (h : gnAt hp n k = some g) (hp' : α.own[n]? = some p) (ha : (adr p)[k]? = some a) : GR K (Al α hp) H (adr p) a g := by
  obtain ⟨gs, h1, h2⟩ := gnAt_some h
  exact (w.regs h1 hp').2 k g a h2 ha
/-- a node's thing -/
def ndS (n : Nat) : Nd → S
  | .d x => .d x
  | .nd k => .ob n k
theorem RepN.s {K : Frag} {α : Mp_} {hp : List O} {H : Hp} {n : Nat} {p : Addr × List Addr} (h : α.own[n]? = some p) : ∀ {x : Nd} {v : V}, RepN K (Al α hp) H (adr p) x v → SRep K α hp H (ndS n x) v
  | .d _, _, r => r
  | .nd _, _, ⟨a, e1, e2⟩ => ⟨p, a, h, e1, e2⟩
/-- a thing is taken into region n -/
def absorb (hp : List O) (n : Nat) : S → Option (List O × Nd)
  | .d x => some (hp, .d x)
  | .mu m => if m = n then some (hp, .nd 0) else match regAt hp n, regAt hp m with
    | some gs, some gs' => some ((hp.set n (.reg (gs ++ gs'.map (shG gs.length)))).set m .gone, .nd gs.length)
    | _, _ => none
  | .ob m k => if m = n then some (hp, .nd k) else match regAt hp n, regAt hp m with
    | some gs, some gs' => if k < gs'.length then some ((hp.set n (.reg (gs ++ gs'.map (shG gs.length)))).set m .gone, .nd (k + gs.length)) else none
    | _, _ => none
  | .exn _ _ _ _ => none
theorem regAt_take {hp : List O} {n m : Nat} {gs gs' : List Gn} (hn : regAt hp n = some gs) (ne : n ≠ m) : regAt ((hp.set n (.reg (gs ++ gs'.map (shG gs.length)))).set m .gone) n = some (gs ++ gs'.map (shG gs.length)) := by
  obtain ⟨o, h1, _⟩ := regAt_some hn
  unfold regAt
  rw [List.getElem?_set_ne (Ne.symm ne), List.getElem?_set_self (List.getElem?_eq_some_iff.mp h1).1]
  rfl
theorem absorb_ok {K : Frag} {α : Mp_} {hp hp' : List O} {H : Hp} {n k : Nat} {v : S} {u : V} {x : Nd} {g : Gn} {p : Addr × List Addr} {a : Addr} (w : WOk K α hp H) (r : SRep K α hp H v u) (h : absorb hp n v = some (hp', x)) (hn : gnAt hp n k = some g) (hp1 : α.own[n]? = some p) (ha : (adr p)[k]? = some a) :
    ∃ (α' : Mp_) (p' : Addr × List Addr), WOk K α' hp' H ∧ Ext α hp H α' hp' H ∧ α'.own[n]? = some p' ∧ (adr p')[k]? = some a ∧ gnAt hp' n k = some g ∧ RepN K (Al α' hp') H (adr p') x u := by
  have two : ∀ {m j : Nat} {q : Addr × List Addr} {b : Addr} {gs gs' : List Gn}, regAt hp n = some gs → regAt hp m = some gs' → n ≠ m → α.own[m]? = some q → (adr q)[j]? = some b → u = .ref b → x = .nd (j + gs.length) → hp' = ((hp.set n (.reg (gs ++ gs'.map (shG gs.length)))).set m .gone) →
      ∃ (α' : Mp_) (p' : Addr × List Addr), WOk K α' hp' H ∧ Ext α hp H α' hp' H ∧ α'.own[n]? = some p' ∧ (adr p')[k]? = some a ∧ gnAt hp' n k = some g ∧ RepN K (Al α' hp') H (adr p') x u := fun {m j q b gs gs'} h1 h2 ne hq hb eu ex eh => by
    subst eu ex eh
    obtain ⟨w2, e2⟩ := w.absorb h1 h2 hp1 hq ne
    obtain ⟨l, _⟩ := w.regs h1 hp1
    obtain ⟨gs0, z1, z2⟩ := gnAt_some hn
    cases h1.symm.trans z1
    refine ⟨_, (p.1, p.2 ++ adr q), w2, e2, List.getElem?_set_self (List.getElem?_eq_some_iff.mp hp1).1, ?_, ?_, b, ?_, rfl⟩
    · show (adr p ++ adr q)[k]? = _
      rw [List.getElem?_append_left (List.getElem?_eq_some_iff.mp ha).1]
      exact ha
    · unfold gnAt
      rw [regAt_take h1 ne]
      show (gs ++ _)[k]? = _
      rw [List.getElem?_append_left (List.getElem?_eq_some_iff.mp z2).1]
      exact z2
    · show (adr p ++ adr q)[j + gs.length]? = _
      rw [List.getElem?_append_right (by omega), l, Nat.add_sub_cancel]
      exact hb
  cases v with
  | d y => cases h; exact ⟨α, p, w, Ext.refl, hp1, ha, hn, r⟩
  | exn _ _ _ _ => cases h
  | mu m =>
    obtain ⟨q, hq, eu⟩ := r
    simp only [absorb] at h
    by_cases c : m = n
    · subst c
      rw [if_pos rfl] at h
      cases h
      rw [hp1] at hq
      cases hq
      exact ⟨α, p, w, Ext.refl, hp1, ha, hn, p.1, rfl, eu⟩
    · rw [if_neg c] at h
      cases h1 : regAt hp n with
      | none => rw [h1] at h; cases h
      | some gs =>
        cases h2 : regAt hp m with
        | none => rw [h1, h2] at h; cases h
        | some gs' =>
          rw [h1, h2] at h
          cases h
          exact two h1 h2 (fun z => c z.symm) hq (j := 0) rfl eu (by rw [Nat.zero_add]) rfl
  | ob m j =>
    obtain ⟨q, b, hq, hb, eu⟩ := r
    simp only [absorb] at h
    by_cases c : m = n
    · subst c
      rw [if_pos rfl] at h
      cases h
      rw [hp1] at hq
      cases hq
      exact ⟨α, p, w, Ext.refl, hp1, ha, hn, b, hb, eu⟩
    · rw [if_neg c] at h
      cases h1 : regAt hp n with
      | none => rw [h1] at h; cases h
      | some gs =>
        cases h2 : regAt hp m with
        | none => rw [h1, h2] at h; cases h
        | some gs' =>
          rw [h1, h2] at h
          simp only at h
          split at h
          · cases h
            exact two h1 h2 (fun z => c z.symm) hq hb eu rfl rfl
          · cases h
/-- a node is another one now -/
def putN (hp : List O) (n k : Nat) (g : Gn) : List O := match regAt hp n with
  | some gs => hp.set n (.reg (gs.set k g))
  | none => hp
theorem WOk.node_ {K : Frag} {α : Mp_} {hp : List O} {H : Hp} {n k : Nat} {g g' : Gn} {p : Addr × List Addr} {a : Addr} {x : HO} (w : WOk K α hp H) (h : gnAt hp n k = some g) (hp' : α.own[n]? = some p) (ha : (adr p)[k]? = some a)
    (ho : ∀ {A' M' : Av}, Step (Al α hp) (Mt α hp) H A' M' (upd H a x) → GR K A' (upd H a x) (adr p) a g') : WOk K α (putN hp n k g') (upd H a x) ∧ Ext α hp H α (putN hp n k g') (upd H a x) := by
  obtain ⟨gs, h1, h2⟩ := gnAt_some h
  unfold putN
  rw [h1]
  exact w.putG h1 h2 hp' ha fun st => ho st

/-- a new region of one node -/
theorem WOk.pushReg {K : Frag} {α : Mp_} {hp : List O} {H : Hp} {p : Addr} {g : Gn} {x : HO} (w : WOk K α hp H) (hn : H p = none) (hg : ∀ {A' M' : Av}, Step (Al α hp) (Mt α hp) H A' M' (upd H p x) → GR K A' (upd H p x) [p] p g) :
    WOk K (α.push (p, [])) (hp ++ [.reg [g]]) (upd H p x) ∧ Ext α hp H (α.push (p, [])) (hp ++ [.reg [g]]) (upd H p x) := by
  have mt : ∀ a, Mt (α.push (p, [])) (hp ++ [.reg [g]]) a → Mt α hp a ∨ a = p := fun a h => by
    rcases (mt_push w.len).mp h with h | ⟨_, h⟩
    · exact .inl h
    · rcases h with h | h
      · exact .inr h
      · cases h
  have na : ¬ Al α hp p := w.non p hn
  have st : StepW α hp H (α.push (p, [])) (hp ++ [.reg [g]]) (upd H p x) := ⟨(Step.fresh (A := Al α hp) (M := Mt α hp) al_sub hn).keep, fun a h => by
    rcases h with h | h
    · exact (mt a h).imp .inl fun e => by rw [e]; exact hn
    · exact .inl (.inr h), fun a h => (mt a h).imp id fun e => by rw [e]; exact hn, al_sub, (Step.fresh (A := Al α hp) (M := Mt α hp) al_sub hn).stay⟩
  refine ⟨w.pushO st (fun a h => upd_ne fun e => na (e ▸ h)) (fun a h => ?_) ⟨by simp, by simp⟩ ⟨rfl, fun k g' a h1 h2 => ?_⟩, Ext.push st hn⟩
  · rcases h with h | h
    · rw [h]; exact na
    · cases h
  · cases k with
    | zero => cases h1; cases h2; exact hg st
    | succ k => cases h1
def mLstG (Ma : MA) : ME := fun s R Xp => Ma s (fun xs hp1 => on (allD xs) fun ds => ds.length ≤ sizeLine ∧ R (.ob hp1.length 0) (hp1 ++ [.reg [.lst (ds.map .d)]])) Xp
theorem sim_lstG {K : Frag} {W : WX} {ta : TA} {Ma : MA} (ha : SimA K W ta Ma) : SimE K W (tLst ta) (mLstG Ma) := by
  intro α s H σ w e R Xp m Q q qx
  refine ha α s H σ w e _ _ m _ (fun x hp1 α1 H1 v1 m1 e1 w1 r1 => ?_) qx
  obtain ⟨d1, g1, m1⟩ := on.ex m1
  have r2 := r1.allD g1
  refine ⟨by rw [← r2.length]; exact m1.1, fun p hn => ?_⟩
  obtain ⟨w2, e2⟩ := w1.pushReg (x := .lst v1) (g := .lst (d1.map .d)) hn fun st => ⟨v1, upd_same, RepNL.of_ds (RepL.mono st _ _ r2)⟩
  exact q _ _ _ _ _ m1.2 (e1.trans e2) w2 ⟨(p, []), p, by show (α1.own ++ [(p, [])])[hp1.length]? = _; rw [← w1.len, List.getElem?_append_right (Nat.le_refl _)]; simp, rfl, rfl⟩
/-! ### xs.append(e), e an object too -/
def lstG : Option Gn → Option (List Nd)
  | some (.lst xs) => some xs
  | _ => none
theorem lstG_some {g : Option Gn} {xs : List Nd} (h : lstG g = some xs) : g = some (.lst xs) := by
  unfold lstG at h
  split at h
  · cases h; rfl
  · cases h
def mAppG (Mo Ma : ME) : ME := fun s R Xp => Mo s (fun o hp1 => on (obO o) fun q => on (lstG (gnAt hp1 q.1 q.2)) fun _ => Ma { s with hp := hp1 } (fun v hp2 => on (absorb hp2 q.1 v) fun r => on (lstG (gnAt hp2 q.1 q.2)) fun xs => xs.length < sizeLine ∧ R (.d .non) (putN r.1 q.1 q.2 (.lst (xs ++ [r.2])))) Xp) Xp
theorem SRep.obj_mono {α β : Mp_} {hp hp1 : List O} {H H1 : Hp} {n k : Nat} {p : Addr × List Addr} {a : Addr} (e : Ext α hp H β hp1 H1) (h : α.own[n]? = some p) (ha : (adr p)[k]? = some a) : ∃ p' : Addr × List Addr, β.own[n]? = some p' ∧ (adr p')[k]? = some a := by
  obtain ⟨p', h1, h2, h3⟩ := e.pre.own n p h
  exact ⟨p', h1, adr_le h2 h3 ha⟩
theorem paired_len {τ σ : Type} {P : τ → σ → Prop} : ∀ {xs : List τ} {ys : List σ}, Paired P xs ys → xs.length = ys.length
  | _, _, .nil => rfl
  | _, _, .cons _ r => congrArg Nat.succ (paired_len r)
theorem paired_app {τ σ : Type} {P : τ → σ → Prop} {x : τ} {y : σ} (h : P x y) : ∀ {xs : List τ} {ys : List σ}, Paired P xs ys → Paired P (xs ++ [x]) (ys ++ [y])
  | _, _, .nil => .cons h .nil
  | _, _, .cons p r => .cons p (paired_app h r)
theorem sim_appG {K : Frag} {W : WX} {to te : TE} {Mo Ma : ME} (ho : SimE K W to Mo) (ha : SimE K W te Ma) : SimE K W (tBM K "list" rAppend to (tCons te tNil)) (mAppG Mo Ma) := by
  intro α s H σ w e R Xp m Q q qx
  refine ho α s H σ w e _ _ m _ (fun o hp1 α1 H1 u m1 e1 w1 r1 => ?_) qx
  obtain ⟨⟨n, k⟩, g1, m1⟩ := on.ex m1
  obtain ⟨xs0, g2, m1⟩ := on.ex m1
  obtain ⟨p, a, h1, h2, rfl⟩ := r1.obj g1
  obtain ⟨us0, h3, _⟩ := w1.gn (lstG_some g2) h1 h2
  refine ⟨tyV_list h3, ha α1 { s with hp := hp1 } H1 σ w1 (e.mono e1) _ _ m1 _ (fun v hp2 α2 H2 y m2 e2 w2 r2 => ?_) (qx.at e1)⟩
  obtain ⟨⟨hp3, x⟩, g3, m2⟩ := on.ex m2
  obtain ⟨xs, g4, m2⟩ := on.ex m2
  obtain ⟨p2, h4, h5⟩ := SRep.obj_mono e2 h1 h2
  obtain ⟨α3, p3, w3, e3, h6, h7, h8, h9⟩ := absorb_ok w2 r2 g3 (lstG_some g4) h4 h5
  obtain ⟨us, h10, h11⟩ := w3.gn h8 h6 h7
  obtain ⟨w4, e4⟩ := w3.node_ (x := .lst (us ++ [y])) (g' := .lst (xs ++ [x])) h8 h6 h7 fun st => ⟨_, upd_same, paired_app (h9.mono st fun _ _ h => h) (L2.Paired.mapP h11 fun _ _ q => q.mono st fun _ _ h => h)⟩
  exact ⟨a, us, y, rfl, rfl, h10, by rw [← paired_len h11]; exact m2.1, q _ _ α3 _ .non m2.2 (((e1.trans e2).trans e3).trans e4) w4 rfl⟩
/-- a method of a node list of data -/
def mMethG (x : Bool) (f : FM) (Mo : ME) (Ma : MA) : ME := fun s R Xp => Mo s (fun o hp1 => on (obO o) fun q => on (lstG (gnAt hp1 q.1 q.2)) fun _ => Ma { s with hp := hp1 } (fun vs hp2 => on ((lstG (gnAt hp2 q.1 q.2)).bind dsOf) fun ds => on (args x hp2 vs) fun es => f ds es fun d ds' => R (.d d) (putN hp2 q.1 q.2 (.lst (ds'.map .d)))) Xp) Xp
theorem dsG_some {g : Option Gn} {ds : List D} (h : (lstG g).bind dsOf = some ds) : ∃ xs, g = some (.lst xs) ∧ dsOf xs = some ds := by
  cases e : lstG g with
  | none => rw [e] at h; cases h
  | some xs => rw [e] at h; exact ⟨xs, lstG_some e, h⟩
theorem sim_methG {K : Frag} {W : WX} {x : Bool} {r : V → List V → Hp → VK → Prop} {f : FM} {to : TE} {t : TA} {Mo : ME} {Ma : MA} (hr : SimM K x r f) (ho : SimE K W to Mo) (ha : SimA K W t Ma) : SimE K W (tBM K "list" r to t) (mMethG x f Mo Ma) := by
  intro α s H σ w e R Xp m Q q qx
  refine ho α s H σ w e _ _ m _ (fun o hp1 α1 H1 u m1 e1 w1 r1 => ?_) qx
  obtain ⟨⟨n, k⟩, g1, m1⟩ := on.ex m1
  obtain ⟨xs0, g2, m1⟩ := on.ex m1
  obtain ⟨p, a, h1, h2, rfl⟩ := r1.obj g1
  obtain ⟨us0, h3, _⟩ := w1.gn (lstG_some g2) h1 h2
  refine ⟨tyV_list h3, ha α1 { s with hp := hp1 } H1 σ w1 (e.mono e1) _ _ m1 _ (fun vs hp2 α2 H2 ws m2 e2 w2 r2 => ?_) (qx.at e1)⟩
  obtain ⟨ds, g3, m2⟩ := on.ex m2
  obtain ⟨es, g4, m2⟩ := on.ex m2
  obtain ⟨xs, g5, g6⟩ := dsG_some g3
  obtain ⟨p2, h4, h5⟩ := SRep.obj_mono e2 h1 h2
  obtain ⟨us, h6, h7⟩ := w2.gn g5 h4 h5
  refine hr _ H2 a ds es us ws h6 (h7.ds g6) (r2.args w2 g4) _ m2 Q fun d ds' v us' pp rd rl => ?_
  obtain ⟨w4, e4⟩ := w2.node_ (x := .lst us') (g' := .lst (ds'.map .d)) g5 h4 h5 fun st => ⟨_, upd_same, RepNL.of_ds (RepL.mono st _ _ rl)⟩
  exact q _ _ α2 _ v pp ((e1.trans e2).trans e4) w4 (rd _ _ fun _ _ h => Rep.mono e4.step _ _ h)
theorem sim_methG0 {K : Frag} {W : WX} {r : V → List V → Hp → VK → Prop} {f : FM} {to : TE} {Mo : ME} (hr : SimM K false r f) (ho : SimE K W to Mo) : SimE K W (tBM0 K "list" r to) (mMethG false f Mo mNil) := by
  intro α s H σ w e R Xp m Q q qx
  refine ho α s H σ w e _ _ m _ (fun o hp1 α1 H1 u m1 e1 w1 r1 => ?_) qx
  obtain ⟨⟨n, k⟩, g1, m1⟩ := on.ex m1
  obtain ⟨xs0, g2, m1⟩ := on.ex m1
  obtain ⟨p, a, h1, h2, rfl⟩ := r1.obj g1
  obtain ⟨ds, g3, m2⟩ := on.ex (show on ((lstG (gnAt hp1 n k)).bind dsOf) _ from m1)
  obtain ⟨es, g4, m2⟩ := on.ex m2
  cases g4
  obtain ⟨xs, g5, g6⟩ := dsG_some g3
  obtain ⟨us, h6, h7⟩ := w1.gn g5 h1 h2
  refine ⟨tyV_list h6, ?_⟩
  refine hr _ H1 a ds [] us [] h6 (h7.ds g6) rfl _ m2 Q fun d ds' v us' pp rd rl => ?_
  obtain ⟨w4, e4⟩ := w1.node_ (x := .lst us') (g' := .lst (ds'.map .d)) g5 h1 h2 fun st => ⟨_, upd_same, RepNL.of_ds (RepL.mono st _ _ rl)⟩
  exact q _ _ α1 _ v pp (e1.trans e4) w4 (rd _ _ fun _ _ h => Rep.mono e4.step _ _ h)
/-- xs[i] where xs bears objects -/
def mIxG (Ma Mb : ME) : ME := fun s R Xp => Ma s (fun x hp1 => Mb { s with hp := hp1 } (fun y hp2 => on (obO x) fun q => on (lstG (gnAt hp2 q.1 q.2)) fun xs => on (val hp2 y) fun d => on (asI d) fun i => on (atI xs i) fun z => R (ndS q.1 z) hp2) Xp) Xp
theorem paired_get {τ σ : Type} {P : τ → σ → Prop} : ∀ {xs : List τ} {ys : List σ} {i : Nat} {x : τ}, Paired P xs ys → xs[i]? = some x → ∃ y, ys[i]? = some y ∧ P x y
  | _, _, 0, _, .cons p r, h => by cases h; exact ⟨_, rfl, p⟩
  | _, _, i + 1, _, .cons p r, h => paired_get (i := i) r h
  | _, _, _, _, .nil, h => by simp at h
theorem sim_ixG {K : Frag} {W : WX} {ta tb : TE} {Ma Mb : ME} (ha : SimE K W ta Ma) (hb : SimE K W tb Mb) : SimE K W (tOp (rIx K) ta tb) (mIxG Ma Mb) := by
  intro α s H σ w e R Xp m Q q qx
  refine ha α s H σ w e _ _ m _ (fun x hp1 α1 H1 v1 m1 e1 w1 r1 => ?_) qx
  refine hb α1 { s with hp := hp1 } H1 σ w1 (e.mono e1) _ _ m1 _ (fun y hp2 α2 H2 v2 m2 e2 w2 r2 => ?_) (qx.at e1)
  obtain ⟨⟨n, k⟩, g1, m2⟩ := on.ex m2
  obtain ⟨xs, g2, m2⟩ := on.ex m2
  obtain ⟨d, g3, m2⟩ := on.ex m2
  obtain ⟨i, g4, m2⟩ := on.ex m2
  obtain ⟨z, g5, m2⟩ := on.ex m2
  obtain ⟨p, a, h1, h2, rfl⟩ := (r1.mono e2).obj g1
  obtain ⟨us, h3, h4⟩ := w2.gn (lstG_some g2) h1 h2
  cases (r2.val w2 g3).asI g4
  unfold atI at g5
  cases g6 : ixN xs.length i with
  | none => rw [g6] at g5; cases g5
  | some j =>
    rw [g6] at g5
    obtain ⟨u, h5, h6⟩ := paired_get h4 g5
    refine .inl ⟨a, us, i, u, rfl, rfl, .inl (.inl h3), ?_, q _ _ α2 _ u m2 (e1.trans e2) w2 (h6.s h1)⟩
    unfold atI
    rw [← paired_len h4, g6]
    exact h5
/-- len(xs) -/
def mLenG (Mo : ME) : ME := fun s R Xp => Mo s (fun o hp1 => on (obO o) fun q => on (lstG (gnAt hp1 q.1 q.2)) fun xs => R (.d (.int xs.length)) hp1) Xp
theorem sim_lenG {K : Frag} {W : WX} {to : TE} {Mo : ME} (ho : SimE K W to Mo) : SimE K W (tCB (rLenA K) (tCons to tNil)) (mLenG Mo) := by
  intro α s H σ w e R Xp m Q q qx
  refine ho α s H σ w e _ _ m _ (fun o hp1 α1 H1 u m1 e1 w1 r1 => ?_) qx
  obtain ⟨⟨n, k⟩, g1, m1⟩ := on.ex m1
  obtain ⟨xs, g2, m1⟩ := on.ex m1
  obtain ⟨p, a, h1, h2, rfl⟩ := r1.obj g1
  obtain ⟨us, h3, h4⟩ := w1.gn (lstG_some g2) h1 h2
  exact ⟨_, _, rfl, .inl ⟨us, .inl (.inl h3), paired_len h4⟩, q _ _ α1 _ _ m1 e1 w1 rfl⟩
/-- isinstance(xs, t) -/
def mIsiG (t : String) (Mo : ME) : ME := fun s R Xp => Mo s (fun o hp1 => on (obO o) fun q => on (lstG (gnAt hp1 q.1 q.2)) fun _ => on (kitB "list" t) fun b => R (.d (.bl b)) hp1) Xp
theorem sim_isiG {K : Frag} {W : WX} {t : String} {to : TE} {Mo : ME} (ho : SimE K W to Mo) : SimE K W (tCB (rIsiA K) (tCons to (tCons (tC (.ty t)) tNil))) (mIsiG t Mo) := by
  intro α s H σ w e R Xp m Q q qx
  refine ho α s H σ w e _ _ m _ (fun o hp1 α1 H1 u m1 e1 w1 r1 => ?_) qx
  obtain ⟨⟨n, k⟩, g1, m1⟩ := on.ex m1
  obtain ⟨xs, g2, m1⟩ := on.ex m1
  obtain ⟨b, g3, m1⟩ := on.ex m1
  obtain ⟨p, a, h1, h2, rfl⟩ := r1.obj g1
  obtain ⟨us, h3, h4⟩ := w1.gn (lstG_some g2) h1 h2
  exact .inl ⟨_, _, _, _, b, rfl, .ty _, .base (.lst h3), kit_ty g3, q _ _ α1 _ _ m1 e1 w1 rfl⟩
end Mp

set_option Elab.async false
set_option linter.all false
set_option maxRecDepth 100000
set_option maxHeartbeats 4000000
/-! Mr3: rules and simp lemmas for lists in regions. -/
namespace Mp
open PySem PySem.Spec PyProof.Rows L2
section
variable {X : Cx} {W : WX} {o a b e : Expr} {es : List Expr} {pos apos : Pos} {ta tb te to : TE} {tA : TA} {Ma Mb Me Mo : ME} {MA' : MA} {m : Str} {id : String}
theorem de_lstG (h : DA X W es tA MA') : DE X W (.List es pos) (tLst tA) (mLstG MA') := ⟨pe_lst h.p, sim_lstG h.s⟩
theorem de_appG (K : Frag) (pa : PlainAttrs "list") (slot : Slot "list" m id) (hty : typeOf (.builtin id) = pure (.type "method_descriptor")) (hm : MtR X id rAppend) (ho : DE X W o to Mo) (ha : DE X W e te Me)
    (hbase : attributeBase o m X.env (eval o X.env) = eval o X.env := by rfl)
    (hfew : ((backTo pos (starEach [e] X.env)).all (fun x => !x.1) && (backToKw pos (keywordEach [] X.env)).all (fun x => x.1.isSome) && decide (([e] : List Expr).length + ([] : List Keyword).length + (if ([] : List Keyword).isEmpty then 0 else 1) < 30)) = true := by rfl)
    (hline : (apos.endLine == pos.line) = true := by rfl) (hs : starEach [e] X.env = (false, eval e X.env) :: starEach [] X.env := by rfl) (hp : (backTo pos (starEach [] X.env)).any (·.1) = false := by rfl) (hK : X.K = K := by rfl) :
    DE X W (.Call (.Attribute o m apos) [e] [] pos) (tBM K "list" rAppend to (tCons te tNil)) (mAppG Mo Me) := by subst hK; exact ⟨pe_bm pa slot hty hm ho.p (pa_cons ha.p pa_nil hs) hbase hfew hline hs hp, sim_appG ho.s ha.s⟩
theorem de_bmG (K : Frag) {x : Bool} {r : V → List V → Hp → VK → Prop} {f : FM} (pa : PlainAttrs "list") (slot : Slot "list" m id) (hty : typeOf (.builtin id) = pure (.type "method_descriptor")) (hm : MtR X id r) (hr : SimM K x r f) (ho : DE X W o to Mo) (ha : DA X W (e :: es) tA MA')
    (hbase : attributeBase o m X.env (eval o X.env) = eval o X.env := by rfl)
    (hfew : ((backTo pos (starEach (e :: es) X.env)).all (fun x => !x.1) && (backToKw pos (keywordEach [] X.env)).all (fun x => x.1.isSome) && decide ((e :: es).length + ([] : List Keyword).length + (if ([] : List Keyword).isEmpty then 0 else 1) < 30)) = true := by rfl)
    (hline : (apos.endLine == pos.line) = true := by rfl) (hs : starEach (e :: es) X.env = (false, eval e X.env) :: starEach es X.env := by rfl) (hp : (backTo pos (starEach es X.env)).any (·.1) = false := by rfl) (hK : X.K = K := by rfl) :
    DE X W (.Call (.Attribute o m apos) (e :: es) [] pos) (tBM K "list" r to tA) (mMethG x f Mo MA') := by subst hK; exact ⟨pe_bm pa slot hty hm ho.p ha.p hbase hfew hline hs hp, sim_methG hr ho.s ha.s⟩
theorem de_bmG0 (K : Frag) {r : V → List V → Hp → VK → Prop} {f : FM} (pa : PlainAttrs "list") (slot : Slot "list" m id) (hty : typeOf (.builtin id) = pure (.type "method_descriptor")) (hm : MtR X id r) (hr : SimM K false r f) (ho : DE X W o to Mo)
    (hbase : attributeBase o m X.env (eval o X.env) = eval o X.env := by rfl) (hline : (apos.endLine == pos.line) = true := by rfl) (hK : X.K = K := by rfl) :
    DE X W (.Call (.Attribute o m apos) [] [] pos) (tBM0 K "list" r to) (mMethG false f Mo mNil) := by subst hK; exact ⟨pe_bm0 pa slot hty hm ho.p hbase hline, sim_methG0 hr ho.s⟩
theorem de_ixG (K : Frag) (ha : DE X W a ta Ma) (hb : DE X W b tb Mb) (hs : PlainIx b := by exact fun _ _ => rfl) (hK : X.K = K := by rfl) : DE X W (.Subscript a b pos) (tOp (rIx K) ta tb) (mIxG Ma Mb) := by subst hK; exact ⟨pe_ix ix_seq ha.p hb.p hs, sim_ixG ha.s hb.s⟩
theorem de_lenG (K : Frag) {p : Pos} (hg : Gl X "len") (hm : X.mg "len" = none) (hv : bootBuiltins "len" = some (.builtin "len")) (ho : DE X W o to Mo)
    (he : starEach [o] X.env = (false, eval o X.env) :: starEach [] X.env := by rfl) (hpl : (backTo pos (starEach [] X.env)).any (·.1) = false := by rfl) (hK : X.K = K := by rfl) : DE X W (.Call (.Name "len" p) [o] [] pos) (tCB (rLenA K) (tCons to tNil)) (mLenG Mo) :=
  ⟨pe_callB (call_lenK K hK) hg hm hv (pa_cons ho.p pa_nil he) (by decide) (by decide) he hpl, by subst hK; exact sim_lenG ho.s⟩
theorem de_isiG (K : Frag) {t : String} {p : Pos} (hg : Gl X "isinstance") (hm : X.mg "isinstance" = none) (hv : bootBuiltins "isinstance" = some (.builtin "isinstance")) (ho : DE X W o to Mo) (hc : DE X W e (tC (.ty t)) (mC (.ty t)))
    (he : starEach [o, e] X.env = (false, eval o X.env) :: starEach [e] X.env := by rfl) (he2 : starEach [e] X.env = (false, eval e X.env) :: starEach [] X.env := by rfl) (hpl : (backTo pos (starEach [e] X.env)).any (·.1) = false := by rfl) (hK : X.K = K := by rfl) :
    DE X W (.Call (.Name "isinstance" p) [o, e] [] pos) (tCB (rIsiA K) (tCons to (tCons (tC (.ty t)) tNil))) (mIsiG t Mo) :=
  ⟨pe_callB (call_isiK' K hK) hg hm hv (pa_cons ho.p (pa_cons hc.p pa_nil he2) he) (by decide) (by decide) he hpl, by subst hK; exact sim_isiG ho.s⟩
end
section
variable {hp : List O} {env : List (Option S)} {n : Nat} {R : S → List O → Prop} {Xp : MX} {Ma Mb Mo : ME} {La : MA}
/-- region n of the heap -/
def rgO : Option O → Option (List Gn)
  | some o => regO o
  | none => none
@[simp] theorem rgO_reg {gs : List Gn} : rgO (some (.reg gs)) = some gs := rfl
@[simp] theorem rgO_lst {ds : List D} : rgO (some (.lst ds)) = some [.lst (ds.map .d)] := rfl
theorem regAt_O {m : Nat} : regAt hp m = rgO hp[m]? := by
  unfold regAt rgO
  cases hp[m]? <;> rfl
def gnO (r : Option (List Gn)) (k : Nat) : Option Gn := r.bind (·[k]?)
@[simp] theorem gnO_some {gs : List Gn} {k : Nat} : gnO (some gs) k = gs[k]? := rfl
theorem gnAt_O {m k : Nat} : gnAt hp m k = gnO (rgO hp[m]?) k := by
  unfold gnAt gnO
  rw [regAt_O]
@[simp] theorem obO_mu {m : Nat} : obO (.mu m) = some (m, 0) := rfl
@[simp] theorem obO_ob {m k : Nat} : obO (.ob m k) = some (m, k) := rfl
@[simp] theorem ndS_d {m : Nat} {x : D} : ndS m (.d x) = .d x := rfl
@[simp] theorem ndS_nd {m k : Nat} : ndS m (.nd k) = .ob m k := rfl
@[simp] theorem lstG_lst {xs : List Nd} : lstG (some (.lst xs)) = some xs := rfl
@[simp] theorem absorb_d {m : Nat} {x : D} : absorb hp m (.d x) = some (hp, .d x) := rfl
theorem absorb_same {m k : Nat} : absorb hp m (.ob m k) = some (hp, .nd k) := if_pos rfl
theorem absorb_mu {m j : Nat} {gs gs' : List Gn} (h1 : rgO hp[m]? = some gs) (h2 : rgO hp[j]? = some gs') (ne : j ≠ m) : absorb hp m (.mu j) = some ((hp.set m (.reg (gs ++ gs'.map (shG gs.length)))).set j .gone, .nd gs.length) := by
  unfold absorb
  dsimp only
  rw [if_neg ne, regAt_O, regAt_O, h1, h2]
theorem absorb_ob {m j k : Nat} {gs gs' : List Gn} (h1 : rgO hp[m]? = some gs) (h2 : rgO hp[j]? = some gs') (ne : j ≠ m) (hk : k < gs'.length) : absorb hp m (.ob j k) = some ((hp.set m (.reg (gs ++ gs'.map (shG gs.length)))).set j .gone, .nd (k + gs.length)) := by
  unfold absorb
  dsimp only
  rw [if_neg ne, regAt_O, regAt_O, h1, h2]
  exact if_pos hk
def putH (r : Option (List Gn)) (hp : List O) (m k : Nat) (g : Gn) : List O := match r with
  | some gs => hp.set m (.reg (gs.set k g))
  | none => hp
@[simp] theorem putH_some {gs : List Gn} {m k : Nat} {g : Gn} : putH (some gs) hp m k g = hp.set m (.reg (gs.set k g)) := rfl
theorem putN_H {m k : Nat} {g : Gn} : putN hp m k g = putH (rgO hp[m]?) hp m k g := by
  unfold putN putH
  rw [regAt_O]
  all_goals (cases rgO hp[m]? <;> rfl)
@[simp ↓] theorem x_lstG : mLstG La ⟨hp, env, n⟩ R Xp = La ⟨hp, env, n⟩ (fun xs hp1 => onH (allD xs) (fun ds => ds.length ≤ sizeLine ∧ R (.ob hp1.length 0) (hp1 ++ [.reg [.lst (ds.map .d)]])) .mk) Xp := nr rfl
@[simp ↓] theorem x_appG : mAppG Mo Ma ⟨hp, env, n⟩ R Xp = Mo ⟨hp, env, n⟩ (fun o hp1 => onH (obO o) (fun q => onH (lstG (gnO (rgO hp1[q.1]?) q.2)) (fun _ => Ma ⟨hp1, env, n⟩ (fun v hp2 => onH (absorb hp2 q.1 v) (fun r => onH (lstG (gnO (rgO hp2[q.1]?) q.2)) (fun xs => xs.length < sizeLine ∧ R (.d .non) (putH (rgO r.1[q.1]?) r.1 q.1 q.2 (.lst (xs ++ [r.2])))) .mk) .mk) Xp) .mk) .mk) Xp := by
  unfold mAppG
  simp only [gnAt_O, putN_H]
  rfl
@[simp ↓] theorem x_methG {x : Bool} {f : FM} : mMethG x f Mo La ⟨hp, env, n⟩ R Xp = Mo ⟨hp, env, n⟩ (fun o hp1 => onH (obO o) (fun q => onH (lstG (gnO (rgO hp1[q.1]?) q.2)) (fun _ => La ⟨hp1, env, n⟩ (fun vs hp2 => onH ((lstG (gnO (rgO hp2[q.1]?) q.2)).bind dsOf) (fun ds => onH (args x hp2 vs) (fun es => f ds es fun d ds' => R (.d d) (putH (rgO hp2[q.1]?) hp2 q.1 q.2 (.lst (ds'.map .d)))) .mk) .mk) Xp) .mk) .mk) Xp := by
  unfold mMethG
  simp only [gnAt_O, putN_H]
  rfl
@[simp ↓] theorem x_ixG : mIxG Ma Mb ⟨hp, env, n⟩ R Xp = Ma ⟨hp, env, n⟩ (fun x hp1 => Mb ⟨hp1, env, n⟩ (fun y hp2 => onH (obO x) (fun q => onH (lstG (gnO (rgO hp2[q.1]?) q.2)) (fun xs => onH (val hp2 y) (fun d => onH (asI d) (fun i => onH (atI xs i) (fun z => R (ndS q.1 z) hp2) .mk) .mk) .mk) .mk) .mk) Xp) Xp := by
  unfold mIxG
  simp only [gnAt_O]
  rfl
@[simp ↓] theorem x_lenG : mLenG Mo ⟨hp, env, n⟩ R Xp = Mo ⟨hp, env, n⟩ (fun o hp1 => onH (obO o) (fun q => onH (lstG (gnO (rgO hp1[q.1]?) q.2)) (fun xs => R (.d (.int xs.length)) hp1) .mk) .mk) Xp := by
  unfold mLenG
  simp only [gnAt_O]
  rfl
@[simp ↓] theorem x_isiG {t : String} : mIsiG t Mo ⟨hp, env, n⟩ R Xp = Mo ⟨hp, env, n⟩ (fun o hp1 => onH (obO o) (fun q => onH (lstG (gnO (rgO hp1[q.1]?) q.2)) (fun _ => onH (kitB "list" t) (fun b => R (.d (.bl b)) hp1) .mk) .mk) .mk) Xp := by
  unfold mIsiG
  simp only [gnAt_O]
  rfl
@[simp] theorem kit_ll : kitB "list" "list" = some true := by decide +kernel
/-- data in nodes -/
theorem dsOf_map : ∀ ds : List D, dsOf (ds.map .d) = some ds
  | [] => rfl
  | d :: ds => by show (dsOf (ds.map .d)).map _ = _; rw [dsOf_map ds]; rfl
@[simp] theorem dsOf_map' {ds : List D} : dsOf (ds.map .d) = some ds := dsOf_map ds
theorem nodeAt_O {m k : Nat} {gs : List Gn} (h : hp[m]? = some (.reg gs)) : nodeAt hp m k = gs[k]? := by
  unfold nodeAt
  rw [h]
theorem nodeDs_O {m k : Nat} {gs : List Gn} {ds : List D} (h : hp[m]? = some (.reg gs)) (h2 : gs[k]? = some (.lst (ds.map .d))) : nodeDs hp m k = some ds := by
  unfold nodeDs
  rw [nodeAt_O h, h2]
  exact dsOf_map ds
theorem val_node {m k : Nat} {gs : List Gn} {ds : List D} (h : hp[m]? = some (.reg gs)) (h2 : gs[k]? = some (.lst (ds.map .d))) : val hp (.ob m k) = some (.lst ds) := by
  rw [val_ob, nodeDs_O h h2]
  rfl
/-- what is walked stays where objects come behind -/
theorem walkO_app {s : S} {ds : List D} (h : val hp s = some (.lst ds)) : ∃ v, ∀ l, walkO (hp ++ l) s = some (v, ds) ∧ still v ds (hp ++ l) := by
  obtain ⟨v, h1, _, _⟩ := walkO_of h
  refine ⟨v, fun l => ?_⟩
  obtain ⟨v2, h2, h3, _⟩ := walkO_of (val_app (l := l) h)
  have e : v2 = v := by
    cases s with
    | d x =>
      rw [walkO_d] at h1 h2
      cases q : items x with
      | none => rw [q] at h1; cases h1
      | some y => rw [q] at h1 h2; cases h1; cases h2; rfl
    | mu m =>
      rw [walkO_mu] at h1 h2
      cases q : lstO hp[m]? with
      | none => rw [q] at h1; cases h1
      | some y =>
        cases q2 : lstO (hp ++ l)[m]? with
        | none => rw [q2] at h2; cases h2
        | some y2 => rw [q] at h1; rw [q2] at h2; cases h1; cases h2; rfl
    | ob m k =>
      rw [walkO_ob] at h1 h2
      cases q : nodeDs hp m k with
      | none => rw [q] at h1; cases h1
      | some y =>
        cases q2 : nodeDs (hp ++ l) m k with
        | none => rw [q2] at h2; cases h2
        | some y2 => rw [q] at h1; rw [q2] at h2; cases h1; cases h2; rfl
    | exn _ _ _ _ => cases h
  subst e
  exact ⟨h2, h3⟩
end
end Mp

set_option Elab.async false
set_option linter.all false
set_option maxRecDepth 100000
set_option maxHeartbeats 4000000
/-! Mr4: instances in regions. -/
namespace Mp
open PySem PySem.Spec PyProof.Rows L2
def insO (C : Str) : Option Gn → Option (List (Str × Nd))
  | some (.ins D fs) => if D = C then some fs else none
  | _ => none
theorem insO_some {C : Str} {g : Option Gn} {fs : List (Str × Nd)} (h : insO C g = some fs) : g = some (.ins C fs) := by
  unfold insO at h
  split at h
  · split at h
    · rename_i e; cases h; rw [e]
    · cases h
  · cases h
theorem paired_lookup {K : Frag} {A : Av} {H : Hp} {as : List Addr} {f : Str} : ∀ {fs : List (Str × Nd)} {ws : List (Str × V)}, RepNF K A H as fs ws →
    (∀ y, fs.lookup f = some y → ∃ v, ws.lookup f = some v ∧ RepN K A H as y v) ∧ (fs.lookup f = none → ws.lookup f = none)
  | _, _, .nil => ⟨fun y h => by simp at h, fun _ => rfl⟩
  | (g, x) :: _, (g', w) :: _, .cons p r => by
    obtain ⟨e, q⟩ := p
    have e : g = g' := e
    subst e
    obtain ⟨i1, i2⟩ := paired_lookup (f := f) r
    by_cases c : f = g
    · subst c
      refine ⟨fun y h => ⟨w, by simp [List.lookup], ?_⟩, fun h => by simp [List.lookup] at h⟩
      have : x = y := by simpa [List.lookup] using h
      subst this
      exact q
    · have c' : (f == g) = false := by simpa using c
      simp only [List.lookup, c']
      exact ⟨i1, i2⟩
/-! ### x.f -/
def mFldG (C f : Str) (Ma : ME) : ME := fun s R Xp => Ma s (fun x hp1 => on (obO x) fun q => on (insO C (gnAt hp1 q.1 q.2)) fun fs => on (fs.lookup f) fun y => R (ndS q.1 y) hp1) Xp
theorem sim_fldG {K : Frag} {W : WX} {ta : TE} {Ma : ME} {C f : Str} (hC : Cls K (He.ga K C)) (hf : NoAttr K (He.ga K C) f) (ha : SimE K W ta Ma) : SimE K W (tFld K ta f) (mFldG C f Ma) := by
  intro α s H σ w e R Xp m Q q qx
  refine ha α s H σ w e _ _ m _ (fun x hp1 α1 H1 v1 m1 e1 w1 r1 => ?_) qx
  obtain ⟨⟨n, k⟩, g1, m1⟩ := on.ex m1
  obtain ⟨fs, g2, m1⟩ := on.ex m1
  obtain ⟨y, g3, m1⟩ := on.ex m1
  obtain ⟨p, a, h1, h2, rfl⟩ := r1.obj g1
  obtain ⟨dx, ws, h3, h4⟩ := w1.gn (insO_some g2) h1 h2
  obtain ⟨v, h5, h6⟩ := (paired_lookup h4).1 y g3
  exact ⟨a, _, dx, ws, v, rfl, h3, hC, hf, h5, q _ _ α1 _ v m1 e1 w1 (h6.s h1)⟩
/-! ### x.f = e -/
def putNd (f : Str) (x : Nd) : List (Str × Nd) → List (Str × Nd)
  | [] => [(f, x)]
  | (g, y) :: r => if g = f then (g, x) :: r else (g, y) :: putNd f x r
theorem paired_put {K : Frag} {A : Av} {H : Hp} {as : List Addr} {f : Str} {x : Nd} {v : V} (h : RepN K A H as x v) : ∀ {fs : List (Str × Nd)} {ws : List (Str × V)}, RepNF K A H as fs ws → RepNF K A H as (putNd f x fs) (putF f v ws)
  | _, _, .nil => .cons ⟨rfl, h⟩ .nil
  | (g, y) :: _, (g', w) :: _, .cons p r => by
    obtain ⟨e, q⟩ := p
    have e : g = g' := e
    subst e
    unfold putF putNd
    by_cases c : g = f
    · rw [if_pos c, if_pos c]; exact .cons ⟨rfl, h⟩ r
    · rw [if_neg c, if_neg c]; exact .cons ⟨rfl, q⟩ (paired_put h r)
def mSetF (C f : Str) (Mo Mv : ME) : MS := fun s k => Mv s (fun y hp1 => Mo { s with hp := hp1 } (fun x hp2 => on (obO x) fun q => on (insO C (gnAt hp2 q.1 q.2)) fun fs => fs.length < 1000 ∧ on (absorb hp2 q.1 y) fun r => k.nx { s with hp := putN r.1 q.1 q.2 (.ins C (putNd f r.2 fs)) }) k.ex) k.ex
theorem sim_setF {K : Frag} {W : WX} {ta tv : TE} {Mo Mv : ME} {C f : Str} (hC : Cls K (He.ga K C)) (hf : NoAttr K (He.ga K C) f) (ho : SimE K W ta Mo) (hv : SimE K W tv Mv) : SimS K W (sFld K ta tv f) (mSetF C f Mo Mv) := by
  intro ρ α s H σ h k m D p
  refine hv α s H σ h.ok h.env _ _ m _ (fun y hp1 α1 H1 v m1 e1 w1 r1 => ?_) (p.postX h.pre)
  have h1 := h.ext e1 w1
  have p1 := p.at e1.step e1.pre.ban
  refine ho α1 { s with hp := hp1 } H1 σ w1 h1.env _ _ m1 _ (fun x hp2 α2 H2 u m2 e2 w2 r2 => ?_) (p1.postX h1.pre)
  have h2 := h1.ext e2 w2
  obtain ⟨⟨n, j⟩, g1, m2⟩ := on.ex m2
  obtain ⟨fs, g2, l, m2⟩ := on.ex m2
  obtain ⟨⟨hp3, z⟩, g3, m2⟩ := on.ex m2
  obtain ⟨q, a, a1, a2, rfl⟩ := r2.obj g1
  obtain ⟨α3, q3, w3, e3, b1, b2, b3, b4⟩ := absorb_ok w2 (r1.mono e2) g3 (insO_some g2) a1 a2
  obtain ⟨dx, ws, c1, c2⟩ := w3.gn b3 b1 b2
  obtain ⟨w4, e4⟩ := w3.node_ (x := .ins (He.ga K C) dx (putF f v ws)) (g' := .ins C (putNd f z fs)) b3 b1 b2 fun st => ⟨dx, _, upd_same, L2.Paired.mapP (paired_put b4 c2) fun _ _ t => ⟨t.1, t.2.mono st fun _ _ h => h⟩⟩
  refine ⟨a, _, dx, ws, rfl, c1, hC, hf, by rw [← paired_len c2]; exact l, ?_⟩
  exact p1.nx _ α3 _ σ m2 ((h2.ext e3 w3).ext e4 w4) ((e2.trans e3).trans e4).step ((e2.trans e3).trans e4).pre.ban
/-! ### x.f op= e, data -/
def mAugF (C f : Str) (g : F2) (Mo Mv : ME) : MS := fun s k => Mo s (fun x hp1 => on (obO x) fun q => on (insO C (gnAt hp1 q.1 q.2)) fun fs => on (fs.lookup f) fun y => on (isD (ndS q.1 y)) fun d1 => Mv { s with hp := hp1 } (fun z hp2 => on (val hp2 z) fun d2 => on (insO C (gnAt hp2 q.1 q.2)) fun fs2 => fs2.length < 1000 ∧ g d1 d2 fun d => k.nx { s with hp := putN hp2 q.1 q.2 (.ins C (putNd f (.d d) fs2)) }) k.ex) k.ex
theorem sim_augF {K : Frag} {W : WX} {ta tv : TE} {rd : R2} {g : F2} {Mo Mv : ME} {C f : Str} (hC : Cls K (He.ga K C)) (hf : NoAttr K (He.ga K C) f) (hr : Sim2 K rd g) (ho : SimE K W ta Mo) (hv : SimE K W tv Mv) : SimS K W (sFldAug K ta tv rd f) (mAugF C f g Mo Mv) := by
  intro ρ α s H σ h k m D p
  refine ho α s H σ h.ok h.env _ _ m _ (fun x hp1 α1 H1 u m1 e1 w1 r1 => ?_) (p.postX h.pre)
  have h1 := h.ext e1 w1
  have p1 := p.at e1.step e1.pre.ban
  obtain ⟨⟨n, j⟩, g1, m1⟩ := on.ex m1
  obtain ⟨fs, g2, m1⟩ := on.ex m1
  obtain ⟨y, g3, m1⟩ := on.ex m1
  obtain ⟨d1, g4, m1⟩ := on.ex m1
  obtain ⟨q, a, a1, a2, rfl⟩ := r1.obj g1
  obtain ⟨dx, ws, c1, c2⟩ := w1.gn (insO_some g2) a1 a2
  obtain ⟨v, c3, c4⟩ := (paired_lookup c2).1 y g3
  refine ⟨a, _, dx, ws, v, rfl, c1, hC, hf, c3, ?_⟩
  refine hv α1 { s with hp := hp1 } H1 σ w1 h1.env _ _ m1 _ (fun z hp2 α2 H2 u2 m2 e2 w2 r2 => ?_) (p1.postX h1.pre)
  have h2 := h1.ext e2 w2
  obtain ⟨d2, g5, m2⟩ := on.ex m2
  obtain ⟨fs2, g6, l2, m2⟩ := on.ex m2
  have rv : SRep K α1 hp1 H1 (ndS n y) v := c4.s a1
  have rv2 : RepT K (Al α2 hp2) H2 d1 v := ((rv.mono e2).isD g4).t
  refine hr _ H2 d1 d2 v u2 w2.non rv2 (r2.val w2 g5) _ m2 _ fun d z' H3 pd rz st => ?_
  obtain ⟨e3, w3⟩ := w2.grown st
  obtain ⟨q2, a3, a4⟩ := SRep.obj_mono (e2.trans e3) a1 a2
  obtain ⟨dx2, ws2, c5, c6⟩ := w3.gn (insO_some g6) a3 a4
  obtain ⟨w4, e4⟩ := w3.node_ (x := .ins (He.ga K C) dx2 (putF f z' ws2)) (g' := .ins C (putNd f (.d d) fs2)) (insO_some g6) a3 a4 fun st => ⟨dx2, _, upd_same, L2.Paired.mapP (paired_put (x := .d d) rz c6) fun _ _ t => ⟨t.1, t.2.mono st fun _ _ h => h⟩⟩
  refine ⟨dx2, ws2, c5, by rw [← paired_len c6]; exact l2, ?_⟩
  exact p1.nx _ α2 _ σ pd ((h2.ext e3 w3).ext e4 w4) ((e2.trans e3).trans e4).step ((e2.trans e3).trans e4).pre.ban
/-! ### C(..) -/
def mMake (C : Str) (n : Nat) (M : MF) (dd : List D) (Ma : MA) : ME := fun s R Xp => Ma s (fun ss hp1 => 1 + ss.length + dd.length = n ∧ M (hp1 ++ [.reg [.ins C []]]) (.ob hp1.length 0 :: (ss ++ dd.map S.d)) (fun v hp2 => v = .d .non ∧ R (.ob hp1.length 0) hp2) noX) Xp
def noE : XK := fun _ _ _ => False
theorem pass_no {P : Program} {w : World} {X : Cx} : Passes (L2.CX P w) X noE := by
  intro pins σ H s e s' I h
  obtain ⟨_, _, _, _, _, _, _, _, _, _, _, _, z⟩ := h
  exact z.elim
theorem sim_make {K : Frag} {W : WX} {n : Nat} {fr : Bool} {M : MF} {C : Str} {dvs : List V} {dd : List D} {t : TA} {Ma : MA} (hd : ∀ A H, RepL K A H dd dvs) (ha : SimA K W t Ma) : SimE K W (tMake (He.ga K C) (spM K n fr M) dvs noE t) (mMake C n M dd Ma) := by
  intro α s H σ w e R Xp m Q q qx
  refine ha α s H σ w e _ _ m _ (fun ss hp1 α1 H1 vs m1 e1 w1 r1 => ?_) qx
  intro x dx hx hdx ne
  have e2 : Ext α1 hp1 H1 α1 hp1 (upd H1 dx (.own x)) := Ext.fresh hdx
  have w2 := w1.fresh (o := .own x) hdx
  have hx2 : upd H1 dx (.own x) x = none := by rw [upd_ne (Ne.symm ne)]; exact hx
  obtain ⟨w3, e3⟩ := w2.pushReg (x := .ins (He.ga K C) dx []) (g := .ins C []) hx2 fun st => ⟨dx, [], upd_same, .nil⟩
  have own0 : (α1.push (x, [])).own[hp1.length]? = some (x, []) := by
    show (α1.own ++ [(x, [])])[hp1.length]? = _
    rw [← w1.len, List.getElem?_append_right (Nat.le_refl _)]
    simp
  refine ⟨?_, α1.push (x, []), hp1 ++ [.reg [.ins C []]], .ob hp1.length 0 :: (ss ++ dd.map S.d), _, noX, w3, .cons ⟨(x, []), x, own0, rfl, rfl⟩ (srepL_app (hd _ _) (r1.mono (e2.trans e3))), m1.2, fun s' hp' α' H' v r e' w' sr _ => ?_, fun x hp' α' H' c d' r => r.elim⟩
  · have := r1.length
    have h2 := (hd noA H).length
    simp only [List.length_cons, List.length_append]
    have hm := m1.1
    rw [h2, this] at hm
    omega
  · obtain ⟨rfl, r⟩ := r
    obtain ⟨p', h1, h2, h3⟩ := e'.pre.own _ _ own0
    exact ⟨sr, q _ _ α' H' _ r (((e1.trans e2).trans e3).trans e') w' ⟨p', x, h1, adr_le h2 h3 rfl, rfl⟩⟩
/-! ### x.m(..) -/
def mMe (C m : Str) (n : Nat) (M : MF) (dd : List D) (Mo : ME) (Ma : MA) : ME := fun s R Xp => Mo s (fun o hp1 => on (obO o) fun q => on (insO C (gnAt hp1 q.1 q.2)) fun fs => fs.lookup m = none ∧ Ma { s with hp := hp1 } (fun ss hp2 => 1 + ss.length + dd.length = n ∧ M hp2 (o :: (ss ++ dd.map S.d)) R Xp) Xp) Xp
theorem sim_me {K : Frag} {W : WX} {n : Nat} {fr : Bool} {M : MF} {C m : Str} {dvs : List V} {dd : List D} {to : TE} {t : TA} {Mo : ME} {Ma : MA} (hd : ∀ A H, RepL K A H dd dvs) (ho : SimE K W to Mo) (ha : SimA K W t Ma) : SimE K W (tMethS (He.ga K C) m (spM K n fr M) dvs (WE W) to t) (mMe C m n M dd Mo Ma) := by
  intro α s H σ w e R Xp mm Q q qx
  refine ho α s H σ w e _ _ mm _ (fun o hp1 α1 H1 u m1 e1 w1 r1 => ?_) qx
  obtain ⟨⟨i, k⟩, g1, m1⟩ := on.ex m1
  obtain ⟨fs, g2, l, m1⟩ := on.ex m1
  obtain ⟨p, a, h1, h2, rfl⟩ := r1.obj g1
  obtain ⟨dx, ws, h3, h4⟩ := w1.gn (insO_some g2) h1 h2
  refine ⟨a, dx, ws, rfl, h3, (paired_lookup h4).2 l, ha α1 { s with hp := hp1 } H1 σ w1 (e.mono e1) _ _ m1 _ (fun ss hp2 α2 H2 vs m2 e2 w2 r2 => ?_) (qx.at e1)⟩
  refine ⟨?_, α2, hp2, _, R, Xp, w2, .cons (r1.mono e2) (srepL_app (hd _ _) r2), m2.2, fun s' hp' α' H' v r e' w' sr _ => q s' hp' α' H' v r ((e1.trans e2).trans e') w' sr, fun x hp' α' H' c d' r e' w' xr => qx x hp' α' H' c d' r ((e1.trans e2).trans e') w' xr⟩
  have := r2.length
  have h2 := (hd noA H).length
  simp only [List.length_cons, List.length_append]
  have hm := m2.1
  rw [h2, this] at hm
  omega
/-! .. whose new list will be changed -/
def mMeM (C m : Str) (n : Nat) (M : MF) (dd : List D) (Mo : ME) (Ma : MA) : ME := fun s R Xp => Mo s (fun o hp1 => on (obO o) fun q => on (insO C (gnAt hp1 q.1 q.2)) fun fs => fs.lookup m = none ∧ Ma { s with hp := hp1 } (fun ss hp2 => 1 + ss.length + dd.length = n ∧ M hp2 (o :: (ss ++ dd.map S.d)) (fun v hp2 => match v with
  | .d (.lst ds) => R (.mu hp2.length) (hp2 ++ [.lst ds])
  | _ => False) Xp) Xp) Xp
theorem sim_meM {K : Frag} {W : WX} {n : Nat} {M : MF} {C m : Str} {dvs : List V} {dd : List D} {to : TE} {t : TA} {Mo : ME} {Ma : MA} (hd : ∀ A H, RepL K A H dd dvs) (ho : SimE K W to Mo) (ha : SimA K W t Ma) : SimE K W (tMethS (He.ga K C) m (spM K n true M) dvs (WE W) to t) (mMeM C m n M dd Mo Ma) := by
  intro α s H σ w e R Xp mm Q q qx
  refine ho α s H σ w e _ _ mm _ (fun o hp1 α1 H1 u m1 e1 w1 r1 => ?_) qx
  obtain ⟨⟨i, k⟩, g1, m1⟩ := on.ex m1
  obtain ⟨fs, g2, l, m1⟩ := on.ex m1
  obtain ⟨p, a, h1, h2, rfl⟩ := r1.obj g1
  obtain ⟨dx, ws, h3, h4⟩ := w1.gn (insO_some g2) h1 h2
  refine ⟨a, dx, ws, rfl, h3, (paired_lookup h4).2 l, ha α1 { s with hp := hp1 } H1 σ w1 (e.mono e1) _ _ m1 _ (fun ss hp2 α2 H2 vs m2 e2 w2 r2 => ?_) (qx.at e1)⟩
  refine ⟨?_, α2, hp2, _, _, Xp, w2, .cons (r1.mono e2) (srepL_app (hd _ _) r2), m2.2, fun s' hp' α' H' v r e' w' sr fs => ?_, fun x hp' α' H' c d' r e' w' xr => qx x hp' α' H' c d' r ((e1.trans e2).trans e') w' xr⟩
  · have := r2.length
    have h2 := (hd noA H).length
    simp only [List.length_cons, List.length_append]
    have hm := m2.1
    rw [h2, this] at hm
    omega
  · cases s' with
    | mu _ => exact r.elim
    | ob _ _ => exact r.elim
    | exn _ _ _ _ => exact r.elim
    | d d =>
      cases d with
      | lst ds =>
        obtain ⟨a, us, ev, hn, ha', wb, rl⟩ := fs rfl ds rfl
        subst ev
        have bst : StepW α2 hp2 H2 { α' with ban := fun b => α'.ban b ∨ b = a } hp' H' := ⟨e'.step.keep, fun b z => by
          rcases z with z | z | z
          · exact e'.step.newA b (.inl z)
          · exact e'.step.newA b (.inr z)
          · subst z; exact .inr hn, e'.step.newM, al_sub, e'.step.stay⟩
        obtain ⟨α3, e3, w3, r3⟩ := ban_push (α2 := { α' with ban := fun b => α'.ban b ∨ b = a }) (o := .lst ds) w2 hn e'.pre.own (show (fun b => α'.ban b ∨ b = a) = _ by rw [e'.pre.ban]) wb bst e'.nw fun A' st => ⟨rfl, us, ha', RepL.mono st _ _ rl⟩
        exact q _ _ α3 H' _ r ((e1.trans e2).trans e3) w3 r3
      | _ => exact r.elim
/-! ### a property -/
def mProp (C : Str) (M : MF) (Mo : ME) : ME := fun s R Xp => Mo s (fun o hp1 => on (obO o) fun q => on (insO C (gnAt hp1 q.1 q.2)) fun _ => M hp1 [o] R noX) Xp
theorem sim_prop {K : Frag} {W : WX} {fr : Bool} {M : MF} {C : Str} {to : TE} {Mo : ME} (ho : SimE K W to Mo) : SimE K W (tProp (He.ga K C) (spM K 1 fr M) [] noE to) (mProp C M Mo) := by
  intro α s H σ w e R Xp mm Q q qx
  refine ho α s H σ w e _ _ mm _ (fun o hp1 α1 H1 u m1 e1 w1 r1 => ?_) qx
  obtain ⟨⟨i, k⟩, g1, m1⟩ := on.ex m1
  obtain ⟨fs, g2, m1⟩ := on.ex m1
  obtain ⟨p, a, h1, h2, rfl⟩ := r1.obj g1
  obtain ⟨dx, ws, h3, h4⟩ := w1.gn (insO_some g2) h1 h2
  exact ⟨a, dx, ws, rfl, h3, rfl, α1, hp1, _, R, noX, w1, .cons r1 .nil, m1, fun s' hp' α' H' v r e' w' sr _ => q s' hp' α' H' v r (e1.trans e') w' sr, fun _ _ _ _ _ _ r => r.elim⟩
end Mp

set_option Elab.async false
set_option linter.all false
set_option maxRecDepth 100000
set_option maxHeartbeats 4000000
/-! Mr5: rules and simp lemmas for instances. -/
namespace Mp
open PySem PySem.Spec PyProof.Rows L2
section
variable {X : Cx} {W : WX} {o v e : Expr} {es : List Expr} {pos apos : Pos} {to tv te : TE} {tA : TA} {Mo Mv Me : ME} {MA' : MA}
theorem de_fldG (K : Frag) {C f : Str} (hC : Cls K (He.ga K C)) (hf : NoAttr K (He.ga K C) f) (ho : DE X W o to Mo) (hb : attributeBase o f X.env (eval o X.env) = eval o X.env := by rfl) (hK : X.K = K := by rfl) :
    DE X W (.Attribute o f pos) (tFld K to f) (mFldG C f Mo) := by subst hK; exact ⟨pe_fld ho.p hb, sim_fldG hC hf ho.s⟩
theorem ds_setF (K : Frag) {C f : Str} {p' : Pos} (hC : Cls K (He.ga K C)) (hf : NoAttr K (He.ga K C) f) (ho : DE X W o to Mo) (hv : DE X W v tv Mv) (hs : swapsWith v (some (.Attribute o f p')) pos.line X.env = pure false) (hK : X.K = K := by rfl) :
    DS X W (.Assign [.Attribute o f p'] v pos) (sFld K to tv f) (mSetF C f Mo Mv) := by subst hK; exact ⟨ps_fld ho.p hv.p hs, sim_setF hC hf ho.s hv.s⟩
theorem ds_augF (K : Frag) {C f : Str} {p' : Pos} {op : Operator} {rd : R2} {g : F2} (hC : Cls K (He.ga K C)) (hf : NoAttr K (He.ga K C) f) (hop : InOp X op rd) (hr : Sim2 K rd g) (ho : DE X W o to Mo) (hv : DE X W v tv Mv) (hK : X.K = K := by rfl) :
    DS X W (.AugAssign (.Attribute o f p') op v pos) (sFldAug K to tv rd f) (mAugF C f g Mo Mv) := by subst hK; exact ⟨ps_fldaug ho.p hv.p hop, sim_augF hC hf hr ho.s hv.s⟩
theorem de_make (K : Frag) {C : Str} {k n : Nat} {f : Addr} {fd : FuncData} {ps : List Str} {fr : Bool} {M : MF} {ds : List Value} {dvs : List V} {dd : List D} {p : Pos} (mk : Mk K (He.ga K C) f) (F : FnOk X.prog X.w K X.mg X.base (L2.CX X.prog X.w) k f fd ps (spM K n fr M)) (hr : Room (k + 1) X.A) (hg : Gl X C) (hm : X.mg C = some (.ref (He.ga K C)))
    (hb : Binds K fd ps ds) (hd : Vals dvs ds) (hdd : ∀ A H, RepL K A H dd dvs) (ha : DA X W (e :: es) tA MA') (hdb : (C == ("__debug__" : Str)) = false := by decide)
    (he : starEach (e :: es) X.env = (false, eval e X.env) :: starEach es X.env := by rfl) (hpl : (backTo pos (starEach es X.env)).any (·.1) = false := by rfl) (hK : X.K = K := by rfl) :
    DE X W (.Call (.Name C p) (e :: es) [] pos) (tMake (He.ga K C) (spM K n fr M) dvs noE tA) (mMake C n M dd MA') := by subst hK; exact ⟨pe_make mk F hr hg hm hb hd pass_no ha.p hdb he hpl, sim_make hdd ha.s⟩
theorem de_make0 (K : Frag) {C : Str} {k n : Nat} {f : Addr} {fd : FuncData} {ps : List Str} {fr : Bool} {M : MF} {ds : List Value} {dvs : List V} {dd : List D} {p : Pos} (mk : Mk K (He.ga K C) f) (F : FnOk X.prog X.w K X.mg X.base (L2.CX X.prog X.w) k f fd ps (spM K n fr M)) (hr : Room (k + 1) X.A) (hg : Gl X C) (hm : X.mg C = some (.ref (He.ga K C)))
    (hb : Binds K fd ps ds) (hd : Vals dvs ds) (hdd : ∀ A H, RepL K A H dd dvs) (hdb : (C == ("__debug__" : Str)) = false := by decide) (hK : X.K = K := by rfl) :
    DE X W (.Call (.Name C p) [] [] pos) (tMake (He.ga K C) (spM K n fr M) dvs noE tNil) (mMake C n M dd mNil) := by subst hK; exact ⟨pe_make0 mk F hr hg hm hb hd pass_no hdb, sim_make hdd sim_nil⟩
theorem de_me (K : Frag) {C m : Str} {k n : Nat} {f : Addr} {fd : FuncData} {ps : List Str} {fr : Bool} {M : MF} {ds : List Value} {dvs : List V} {dd : List D} {pl : Sem Bool} (hC : Cls K (He.ga K C)) (hme : Meth K (He.ga K C) m f) (F : FnOk X.prog X.w K X.mg X.base (L2.CX X.prog X.w) k f fd ps (spM K n fr M)) (tk : Takes X W) (hr : Room k X.A)
    (hb : Binds K fd ps ds) (hd : Vals dvs ds) (hdd : ∀ A H, RepL K A H dd dvs) (ho : DE X W o to Mo) (ha : DA X W (e :: es) tA MA') (he : starEach (e :: es) X.env = (false, eval e X.env) :: starEach es X.env := by rfl) (hpl : (backTo pos (starEach es X.env)).any (·.1) = false := by rfl)
    (hev : eval (.Call (.Attribute o m apos) (e :: es) [] pos) X.env = (do
      let ov ← eval o X.env
      standAt apos.atName
      let (f, first) ← holding [ov] (getMethod ov m pl)
      callWith pos f first (backTo pos (starEach (e :: es) X.env)) (backToKw pos (keywordEach [] X.env))) := by rfl) (hK : X.K = K := by rfl) :
    DE X W (.Call (.Attribute o m apos) (e :: es) [] pos) (tMethS (He.ga K C) m (spM K n fr M) dvs (WE W) to tA) (mMe C m n M dd Mo MA') := by subst hK; exact ⟨pe_methS ho.p hC hme F hr hb hd (fun σ => passAt tk σ) ha.p he hpl hev, sim_me hdd ho.s ha.s⟩
theorem de_me0 (K : Frag) {C m : Str} {k n : Nat} {f : Addr} {fd : FuncData} {ps : List Str} {fr : Bool} {M : MF} {ds : List Value} {dvs : List V} {dd : List D} {pl : Sem Bool} (hC : Cls K (He.ga K C)) (hme : Meth K (He.ga K C) m f) (F : FnOk X.prog X.w K X.mg X.base (L2.CX X.prog X.w) k f fd ps (spM K n fr M)) (tk : Takes X W) (hr : Room k X.A)
    (hb : Binds K fd ps ds) (hd : Vals dvs ds) (hdd : ∀ A H, RepL K A H dd dvs) (ho : DE X W o to Mo)
    (hev : eval (.Call (.Attribute o m apos) [] [] pos) X.env = (do
      let ov ← eval o X.env
      standAt apos.atName
      let (f, first) ← holding [ov] (getMethod ov m pl)
      callWith pos f first (backTo pos (starEach [] X.env)) (backToKw pos (keywordEach [] X.env))) := by rfl) (hK : X.K = K := by rfl) :
    DE X W (.Call (.Attribute o m apos) [] [] pos) (tMethS (He.ga K C) m (spM K n fr M) dvs (WE W) to tNil) (mMe C m n M dd Mo mNil) := by subst hK; exact ⟨pe_methS0 ho.p hC hme F hr hb hd (fun σ => passAt tk σ) hev, sim_me hdd ho.s sim_nil⟩
theorem de_meM (K : Frag) {C m : Str} {k n : Nat} {f : Addr} {fd : FuncData} {ps : List Str} {M : MF} {ds : List Value} {dvs : List V} {dd : List D} {pl : Sem Bool} (hC : Cls K (He.ga K C)) (hme : Meth K (He.ga K C) m f) (F : FnOk X.prog X.w K X.mg X.base (L2.CX X.prog X.w) k f fd ps (spM K n true M)) (tk : Takes X W) (hr : Room k X.A)
    (hb : Binds K fd ps ds) (hd : Vals dvs ds) (hdd : ∀ A H, RepL K A H dd dvs) (ho : DE X W o to Mo) (ha : DA X W (e :: es) tA MA') (he : starEach (e :: es) X.env = (false, eval e X.env) :: starEach es X.env := by rfl) (hpl : (backTo pos (starEach es X.env)).any (·.1) = false := by rfl)
    (hev : eval (.Call (.Attribute o m apos) (e :: es) [] pos) X.env = (do
      let ov ← eval o X.env
      standAt apos.atName
      let (f, first) ← holding [ov] (getMethod ov m pl)
      callWith pos f first (backTo pos (starEach (e :: es) X.env)) (backToKw pos (keywordEach [] X.env))) := by rfl) (hK : X.K = K := by rfl) :
    DE X W (.Call (.Attribute o m apos) (e :: es) [] pos) (tMethS (He.ga K C) m (spM K n true M) dvs (WE W) to tA) (mMeM C m n M dd Mo MA') := by subst hK; exact ⟨pe_methS ho.p hC hme F hr hb hd (fun σ => passAt tk σ) ha.p he hpl hev, sim_meM hdd ho.s ha.s⟩
theorem de_meM0 (K : Frag) {C m : Str} {k n : Nat} {f : Addr} {fd : FuncData} {ps : List Str} {M : MF} {ds : List Value} {dvs : List V} {dd : List D} {pl : Sem Bool} (hC : Cls K (He.ga K C)) (hme : Meth K (He.ga K C) m f) (F : FnOk X.prog X.w K X.mg X.base (L2.CX X.prog X.w) k f fd ps (spM K n true M)) (tk : Takes X W) (hr : Room k X.A)
    (hb : Binds K fd ps ds) (hd : Vals dvs ds) (hdd : ∀ A H, RepL K A H dd dvs) (ho : DE X W o to Mo)
    (hev : eval (.Call (.Attribute o m apos) [] [] pos) X.env = (do
      let ov ← eval o X.env
      standAt apos.atName
      let (f, first) ← holding [ov] (getMethod ov m pl)
      callWith pos f first (backTo pos (starEach [] X.env)) (backToKw pos (keywordEach [] X.env))) := by rfl) (hK : X.K = K := by rfl) :
    DE X W (.Call (.Attribute o m apos) [] [] pos) (tMethS (He.ga K C) m (spM K n true M) dvs (WE W) to tNil) (mMeM C m n M dd Mo mNil) := by subst hK; exact ⟨pe_methS0 ho.p hC hme F hr hb hd (fun σ => passAt tk σ) hev, sim_meM hdd ho.s sim_nil⟩
theorem de_prop (K : Frag) {C f : Str} {k : Nat} {p g : Addr} {fd : FuncData} {ps : List Str} {fr : Bool} {M : MF} (hC : Cls K (He.ga K C)) (hp : PropOf K (He.ga K C) f p g) (F : FnOk X.prog X.w K X.mg X.base (L2.CX X.prog X.w) k g fd ps (spM K 1 fr M)) (hr : Room (k + 1) X.A) (hb : Binds K fd ps []) (ho : DE X W o to Mo)
    (hab : attributeBase o f X.env (eval o X.env) = eval o X.env := by rfl) (hK : X.K = K := by rfl) : DE X W (.Attribute o f pos) (tProp (He.ga K C) (spM K 1 fr M) [] noE to) (mProp C M Mo) := by subst hK; exact ⟨pe_prop ho.p hC hp F hr hb .nil pass_no hab, sim_prop ho.s⟩
/-- what is tested of a property -/
def propB (C f : Str) (p : Frag → Addr) (g : Frag → Addr) : Frag → Bool := fun K =>
  He.eqO (PySem.W.findIn K (.ref (He.ga K C)) f) (some (some (.ref (p K)))) && (decide (PySem.W.specialIn K (.ref (p K)) "__get__" = some (some (.builtin "property.__get__"))) && (decide (PySem.W.takesIn K (.ref (p K)) = some true) && (match PySem.W.recIn K (p K) "property" with
    | some (.ref g' :: _) => decide (g' = g K)
    | _ => false)))
theorem propB_ok {K : Frag} {C f : Str} {p g : Frag → Addr} (h : propB C f p g K = true) : PropOf K (He.ga K C) f (p K) (g K) := by
  unfold propB at h
  obtain ⟨h1, h⟩ := He.ba h
  obtain ⟨h2, h⟩ := He.ba h
  obtain ⟨h3, h4⟩ := He.ba h
  refine ⟨He.eqO_ok h1, of_decide_eq_true h2, of_decide_eq_true h3, ?_⟩
  split at h4
  · rename_i g' rest e
    have := of_decide_eq_true h4
    subst this
    exact ⟨rest, e⟩
  · cases h4
/-- where a property stands, where its getter does -/
def pAd (C f : Str) (K : Frag) : Addr := He.ma K (He.ga K C) f
def gAd (C f : Str) (K : Frag) : Addr := match PySem.W.recIn K (pAd C f K) "property" with
  | some (.ref g :: _) => g
  | _ => 0
end
section
variable {hp : List O} {env : List (Option S)} {n : Nat} {R : S → List O → Prop} {Xp : MX} {Mo Mv : ME} {La : MA} {nx bk ct : PS → Prop} {rt : S → List O → Prop} {ex : MX}
@[simp] theorem insO_ins {C : Str} {fs : List (Str × Nd)} : insO C (some (.ins C fs)) = some fs := if_pos rfl
@[simp ↓] theorem x_fldG {C f : Str} : mFldG C f Mo ⟨hp, env, n⟩ R Xp = Mo ⟨hp, env, n⟩ (fun x hp1 => onH (obO x) (fun q => onH (insO C (gnO (rgO hp1[q.1]?) q.2)) (fun fs => onH (fs.lookup f) (fun y => R (ndS q.1 y) hp1) .mk) .mk) .mk) Xp := by
  unfold mFldG
  simp only [gnAt_O]
  rfl
@[simp ↓] theorem x_setF {C f : Str} : mSetF C f Mo Mv ⟨hp, env, n⟩ ⟨nx, bk, ct, rt, ex⟩ = Mv ⟨hp, env, n⟩ (fun y hp1 => Mo ⟨hp1, env, n⟩ (fun x hp2 => onH (obO x) (fun q => onH (insO C (gnO (rgO hp2[q.1]?) q.2)) (fun fs => fs.length < 1000 ∧ onH (absorb hp2 q.1 y) (fun r => nx ⟨putH (rgO r.1[q.1]?) r.1 q.1 q.2 (.ins C (putNd f r.2 fs)), env, n⟩) .mk) .mk) .mk) ex) ex := by
  unfold mSetF
  simp only [gnAt_O, putN_H]
  rfl
@[simp ↓] theorem x_augF {C f : Str} {g : F2} : mAugF C f g Mo Mv ⟨hp, env, n⟩ ⟨nx, bk, ct, rt, ex⟩ = Mo ⟨hp, env, n⟩ (fun x hp1 => onH (obO x) (fun q => onH (insO C (gnO (rgO hp1[q.1]?) q.2)) (fun fs => onH (fs.lookup f) (fun y => onH (isD (ndS q.1 y)) (fun d1 => Mv ⟨hp1, env, n⟩ (fun z hp2 => onH (val hp2 z) (fun d2 => onH (insO C (gnO (rgO hp2[q.1]?) q.2)) (fun fs2 => fs2.length < 1000 ∧ g d1 d2 fun d => nx ⟨putH (rgO hp2[q.1]?) hp2 q.1 q.2 (.ins C (putNd f (.d d) fs2)), env, n⟩) .mk) .mk) ex) .mk) .mk) .mk) .mk) ex := by
  unfold mAugF
  simp only [gnAt_O, putN_H]
  rfl
@[simp ↓] theorem x_make {C : Str} {k : Nat} {M : MF} {dd : List D} : mMake C k M dd La ⟨hp, env, n⟩ R Xp = La ⟨hp, env, n⟩ (fun ss hp1 => 1 + ss.length + dd.length = k ∧ mfH M (hp1 ++ [.reg [.ins C []]]) (.ob hp1.length 0 :: (ss ++ dd.map S.d)) (fun v hp2 => v = .d .non ∧ R (.ob hp1.length 0) hp2) noX .mk) Xp := nr rfl
@[simp ↓] theorem x_me {C m : Str} {k : Nat} {M : MF} {dd : List D} : mMe C m k M dd Mo La ⟨hp, env, n⟩ R Xp = Mo ⟨hp, env, n⟩ (fun o hp1 => onH (obO o) (fun q => onH (insO C (gnO (rgO hp1[q.1]?) q.2)) (fun fs => fs.lookup m = none ∧ La ⟨hp1, env, n⟩ (fun ss hp2 => 1 + ss.length + dd.length = k ∧ mfH M hp2 (o :: (ss ++ dd.map S.d)) R Xp .mk) Xp) .mk) .mk) Xp := by
  unfold mMe
  simp only [gnAt_O]
  rfl
@[simp ↓] theorem x_meM {C m : Str} {k : Nat} {M : MF} {dd : List D} : mMeM C m k M dd Mo La ⟨hp, env, n⟩ R Xp = Mo ⟨hp, env, n⟩ (fun o hp1 => onH (obO o) (fun q => onH (insO C (gnO (rgO hp1[q.1]?) q.2)) (fun fs => fs.lookup m = none ∧ La ⟨hp1, env, n⟩ (fun ss hp2 => 1 + ss.length + dd.length = k ∧ mfH M hp2 (o :: (ss ++ dd.map S.d)) (lstR R) Xp .mk) Xp) .mk) .mk) Xp := by
  unfold mMeM
  simp only [gnAt_O]
  rfl
@[simp ↓] theorem x_prop {C : Str} {M : MF} : mProp C M Mo ⟨hp, env, n⟩ R Xp = Mo ⟨hp, env, n⟩ (fun o hp1 => onH (obO o) (fun q => onH (insO C (gnO (rgO hp1[q.1]?) q.2)) (fun _ => mfH M hp1 [o] R noX .mk) .mk) .mk) Xp := by
  unfold mProp
  simp only [gnAt_O]
  rfl
end
end Mp

set_option Elab.async false
set_option linter.all false
set_option maxRecDepth 100000
set_option maxHeartbeats 4000000
/-! Mr6: what the head tells of properties. -/
namespace Mp
open PySem PySem.Spec PyProof.Rows L2
/-- a property: its class, its name, the def of its getter -/
structure PrD where
  cls : Str
  f : Str
  qual : Str
  st : Stmt
def fnA (K : Frag) (a : Addr) : He.FnW := match K.lookup a with
  | some ⟨_, _, .func fd, _⟩ => some (fd.name, fd.qualname, fd.params, fd.body, fd.scope, fd.globals, fd.closure, fd.builtins)
  | _ => none
def PrD.val (d : PrD) : He.FnW := some (d.f, d.qual, defArgs d.st, .stmts (defBody d.st), defScope d.st, mainGlobals, [], builtinsNs)
def PrD.obs (K : Frag) (d : PrD) : He.FnW := fnA K (gAd d.cls d.f K)
def PrD.ok (K : Frag) (d : PrD) : Bool := propB d.cls d.f (pAd d.cls d.f) (gAd d.cls d.f) K && (PySem.W.keepIn K (.ref (gAd d.cls d.f K)) && (match K.lookup (gAd d.cls d.f K) with
  | some ⟨_, _, .func fd, _⟩ => PySem.W.codeIn K fd.code d.qual && (He.dflB K fd.defaults [] && He.kwdB K fd.kwdefaults [])
  | _ => false))
theorem PrD.good {K : Frag} {d : PrD} (e : PrD.obs K d = d.val) (c : d.ok K = true) : PropOf K (He.ga K d.cls) d.f (pAd d.cls d.f K) (gAd d.cls d.f K) ∧ ∃ fd, FunD K d.f d.qual (defArgs d.st) (defBody d.st) (defScope d.st) [] [] (gAd d.cls d.f K) fd := by
  obtain ⟨c0, c1⟩ := He.ba c
  obtain ⟨kp, c2⟩ := He.ba c1
  refine ⟨propB_ok c0, ?_⟩
  unfold PrD.obs fnA at e
  cases q : K.lookup (gAd d.cls d.f K) with
  | none =>
    rw [q] at c2
    cases c2
  | some o =>
    obtain ⟨oc, od, dt, osl⟩ := o
    rw [q] at c2 e
    cases dt with
    | func fd =>
      obtain ⟨n1, n2, n3, n4, n5, n6, n7, n8, n9, n10, n11, n12, n13, n14, n15⟩ := fd
      have e2 : (some (n1, n2, n3, n4, n5, n6, n7, n15) : He.FnW) = some (d.f, d.qual, defArgs d.st, .stmts (defBody d.st), defScope d.st, mainGlobals, [], builtinsNs) := e
      simp only [Option.some.injEq, Prod.mk.injEq] at e2
      obtain ⟨h1, h2, h3, h4, h5, h6, h7, h8⟩ := e2
      subst h1 h2 h3 h4 h5 h6 h7 h8
      have c3 : (PySem.W.codeIn K n13 d.qual && (He.dflB K n8 [] && He.kwdB K n9 [])) = true := c2
      obtain ⟨k1, k2⟩ := He.ba c3
      obtain ⟨k3, k4⟩ := He.ba k2
      exact ⟨_, ⟨oc, od, n8, n9, n10, n11, n12, n13, n14, osl, rfl, q, k1, He.dflB_ok k3, He.kwdB_ok k4⟩, kp⟩
    | _ => cases c2
/-! ### the Hook: properties besides -/
abbrev AlY : Type := (AlX × Bool) × List He.FnW
def obsY (P : Program) (fa : List He.Fa) (fn : List He.DefD) (xs : List XcD) (bs : List (Frag → Bool)) (ps : List PrD) (K : Frag) : AlY := ((obsX P fa fn xs bs K, ps.all fun d => d.ok K), ps.map fun d => d.obs K)
def valY (fn : List He.DefD) (xs : List XcD) (ps : List PrD) : AlY := ((valX fn xs, true), ps.map PrD.val)
def SaysY (P : Program) (fa : List He.Fa) (fn : List He.DefD) (xs : List XcD) (bs : List (Frag → Bool)) (ps : List PrD) (K : Frag) : Prop := obsY P fa fn xs bs ps K = valY fn xs ps
def obsYG (P : Program) (n : Nat) (fa : List He.Fa) (fn : List He.DefD) (xs : List XcD) (bs : List (Frag → Bool)) (ps : List PrD) (g : Addr → Option Obj) : AlY := obsY P fa fn xs bs ps (He.frG g (cStatics :: He.asD g n))
def hookY (P : Program) (n : Nat) (fa : List He.Fa) (fn : List He.DefD) (xs : List XcD) (bs : List (Frag → Bool)) (ps : List PrD) : PySem.W.Hook where
  α := AlY
  obs s := obsYG P n fa fn xs bs ps s.heap.get?
  val _ := valY fn xs ps
  says _ h := ∃ K : Frag, K.In h ∧ SaysY P fa fn xs bs ps K
  of _ _ e := ⟨_, He.frG_in, e⟩
  keeps _ _ _ z k := z.elim fun K y => ⟨K, PySem.W.Frag.In.keeps y.1 k, y.2⟩
theorem obsYG_eq {P : Program} {n : Nat} {fa : List He.Fa} {fn : List He.DefD} {xs : List XcD} {bs : List (Frag → Bool)} {ps : List PrD} {g : Addr → Option Obj} {s : Shared} (h : ∀ a, g a = s.heap.get? a) : obsYG P n fa fn xs bs ps g = (hookY P n fa fn xs bs ps).obs s := by
  cases (funext h : g = s.heap.get?)
  rfl
section
variable {P : Program} {fa : List He.Fa} {fn : List He.DefD} {xs : List XcD} {bs : List (Frag → Bool)} {ps : List PrD} {K : Frag}
theorem SaysY.x (c : SaysY P fa fn xs bs ps K) : SaysX P fa fn xs bs K := congrArg (fun z : AlY => z.1.1) c
theorem SaysY.prop (c : SaysY P fa fn xs bs ps K) (i : Nat) {d : PrD} (h : ps[i]? = some d := by rfl) : PropOf K (He.ga K d.cls) d.f (pAd d.cls d.f K) (gAd d.cls d.f K) ∧ ∃ fd, FunD K d.f d.qual (defArgs d.st) (defBody d.st) (defScope d.st) [] [] (gAd d.cls d.f K) fd := by
  have e : ps.map (fun d => d.obs K) = ps.map PrD.val := congrArg (fun z : AlY => z.2) c
  have a : (ps.all fun d => d.ok K) = true := congrArg (fun z : AlY => z.1.2) c
  have q := congrArg (fun l => l[i]?) e
  simp only [List.getElem?_map, h, Option.map_some] at q
  exact PrD.good (Option.some.inj q) (List.all_eq_true.mp a d (List.mem_of_getElem? h))
end
end Mp

set_option Elab.async false
set_option linter.all false
set_option maxRecDepth 100000
set_option maxHeartbeats 4000000
/-! Mr7: x.f as one of several targets; an object popped; C(k = v). -/
namespace Mp
open PySem PySem.Spec PyProof.Rows L2
/-! ### .., x.f, .. = e -/
def gFld (K : Frag) (to : TE) (f : Str) : TG := fun v σ H Q => to σ H fun x H2 => ∃ a C dx fs, x = .ref a ∧ H2 a = some (.ins C dx fs) ∧ Cls K C ∧ NoAttr K C f ∧ fs.length < 1000 ∧ Q σ (upd H2 a (.ins C dx (putF f v fs)))
theorem pg_fld {X : Cx} {o : Expr} {f : Str} {pos : Pos} {to : TE} (ho : PE X o to) : PG X (.Attribute o f pos) (gFld X.K to f) := by
  refine ⟨fun pins s σ H v u Q I r h => ?_⟩
  rw [assign_Attribute]
  refine wpAny_bind (wpAny_holding (thn (ho.run pins s σ H _ I h) fun ov s1 ⟨x, H1, I1, rx, a, C, dx, fs, ex, ea, c, n, l, q⟩ => ?_))
  subst ex
  obtain rfl : ov = Value.ref a := rx
  refine wpAny_bind (wpAny_standAt (wpAny_bind (wpAny_holding (setattr_ok I1 ea c n l r fun s3 I3 => ?_))))
  exact wpAny_release ⟨σ, _, I3, q⟩
def mgFld (C f : Str) (Mo : ME) : MG := fun v s N => Mo s (fun x hp2 => on (obO x) fun q => on (insO C (gnAt hp2 q.1 q.2)) fun fs => fs.length < 1000 ∧ on (isD v) fun d => N { s with hp := putN hp2 q.1 q.2 (.ins C (putNd f (.d d) fs)) }) noX
theorem simg_fld {K : Frag} {W : WX} {to : TE} {Mo : ME} {C f : Str} (hC : Cls K (He.ga K C)) (hf : NoAttr K (He.ga K C) f) (ho : SimE K W to Mo) : SimG K (gFld K to f) [] (mgFld C f Mo) := by
  intro ρ α s H σ v u h rv N m Q q
  refine ho α s H σ h.ok h.env _ _ m _ (fun x hp2 α2 H2 uo m2 e2 w2 r2 => ?_) postX_no
  obtain ⟨⟨n, j⟩, g1, m2⟩ := on.ex m2
  obtain ⟨fs, g2, l, m2⟩ := on.ex m2
  obtain ⟨d, g3, m2⟩ := on.ex m2
  obtain ⟨p, a, a1, a2, rfl⟩ := r2.obj g1
  obtain ⟨dx, ws, c1, c2⟩ := w2.gn (insO_some g2) a1 a2
  have rd := (rv.mono e2).isD g3
  obtain ⟨w3, e3⟩ := w2.node_ (x := .ins (He.ga K C) dx (putF f u ws)) (g' := .ins C (putNd f (.d d) fs)) (insO_some g2) a1 a2 fun st => ⟨dx, _, upd_same, L2.Paired.mapP (paired_put (x := .d d) rd c2) fun _ _ t => ⟨t.1, t.2.mono st fun _ _ h => h⟩⟩
  refine ⟨a, _, dx, ws, rfl, c1, hC, hf, by rw [← paired_len c2]; exact l, ?_⟩
  exact q _ α2 _ σ m2 ((h.ext e2 w2).ext e3 w3) (e2.trans e3) ⟨rfl, fun _ _ => rfl⟩
theorem dg_fld (K : Frag) {X : Cx} {o : Expr} {f C : Str} {pos : Pos} {to : TE} {Mo : ME} (hC : Cls K (He.ga K C)) (hf : NoAttr K (He.ga K C) f) (ho : DE X W00 o to Mo) (hK : X.K = K := by rfl) : DG X (.Attribute o f pos) (gFld K to f) [] (mgFld C f Mo) := by subst hK; exact ⟨pg_fld ho.p, simg_fld hC hf ho.s⟩
/-! ### xs.pop() of objects -/
def mPopG (Mo : ME) : ME := fun s R Xp => Mo s (fun o hp1 => on (obO o) fun q => on (lstG (gnAt hp1 q.1 q.2)) fun xs => on (xs[xs.length - 1]?) fun z => R (ndS q.1 z) (putN hp1 q.1 q.2 (.lst xs.dropLast))) Xp
theorem paired_dropLast {τ σ : Type} {P : τ → σ → Prop} : ∀ {xs : List τ} {ys : List σ}, Paired P xs ys → Paired P xs.dropLast ys.dropLast
  | _, _, .nil => .nil
  | _, _, .cons p .nil => .nil
  | _, _, .cons p (.cons q r) => .cons p (paired_dropLast (.cons q r))
theorem sim_popG {K : Frag} {W : WX} {to : TE} {Mo : ME} (ho : SimE K W to Mo) : SimE K W (tBM0 K "list" rPop to) (mPopG Mo) := by
  intro α s H σ w e R Xp m Q q qx
  refine ho α s H σ w e _ _ m _ (fun o hp1 α1 H1 u m1 e1 w1 r1 => ?_) qx
  obtain ⟨⟨n, k⟩, g1, m1⟩ := on.ex m1
  obtain ⟨xs, g2, m1⟩ := on.ex m1
  obtain ⟨z, g3, m1⟩ := on.ex m1
  obtain ⟨p, a, h1, h2, rfl⟩ := r1.obj g1
  obtain ⟨us, h6, h7⟩ := w1.gn (lstG_some g2) h1 h2
  obtain ⟨y, h8, h9⟩ := paired_get h7 g3
  obtain ⟨w4, e4⟩ := w1.node_ (x := .lst us.dropLast) (g' := .lst xs.dropLast) (lstG_some g2) h1 h2 fun st => ⟨_, upd_same, L2.Paired.mapP (paired_dropLast h7) fun _ _ q => q.mono st fun _ _ h => h⟩
  refine ⟨tyV_list h6, a, us, y, rfl, rfl, h6, by rw [← paired_len h7]; exact h8, ?_⟩
  exact q _ _ α1 _ y m1 (e1.trans e4) w4 ((h9.s h1).mono e4)
theorem de_popG (K : Frag) {X : Cx} {W : WX} {o : Expr} {m : Str} {id : String} {pos apos : Pos} {to : TE} {Mo : ME} (pa : PlainAttrs "list") (slot : Slot "list" m id) (hty : typeOf (.builtin id) = pure (.type "method_descriptor")) (hm : MtR X id rPop) (ho : DE X W o to Mo)
    (hbase : attributeBase o m X.env (eval o X.env) = eval o X.env := by rfl) (hline : (apos.endLine == pos.line) = true := by rfl) (hK : X.K = K := by rfl) :
    DE X W (.Call (.Attribute o m apos) [] [] pos) (tBM0 K "list" rPop to) (mPopG Mo) := by subst hK; exact ⟨pe_bm0 pa slot hty hm ho.p hbase hline, sim_popG ho.s⟩
/-! ### C(.., k = v) -/
def mMakeK (C : Str) (N n m : Nat) (M : MF) (dd d2 : List D) (Ma Mk : MA) : ME := fun s R Xp => Ma s (fun ss hp1 => Mk { s with hp := hp1 } (fun zs hp2 => ss.length = n ∧ zs.length = m ∧ 1 + n + dd.length + m + d2.length = N ∧ M (hp2 ++ [.reg [.ins C []]]) (.ob hp2.length 0 :: (ss ++ dd.map S.d ++ (zs ++ d2.map S.d))) (fun v hp3 => v = .d .non ∧ R (.ob hp2.length 0) hp3) noX) Xp) Xp
theorem sim_makeK {K : Frag} {W : WX} {N n m : Nat} {fr : Bool} {M : MF} {C : Str} {dv d2v : List V} {dd d2 : List D} {t tk : TA} {Ma Mk : MA} (hd : ∀ A H, RepL K A H dd dv) (hd2 : ∀ A H, RepL K A H d2 d2v) (ha : SimA K W t Ma) (hk : SimA K W tk Mk) :
    SimE K W (tMakeK (He.ga K C) n m (spM K N fr M) (gVK dv d2v) noE t tk) (mMakeK C N n m M dd d2 Ma Mk) := by
  intro α s H σ w e R Xp mm Q q qx
  refine ha α s H σ w e _ _ mm _ (fun ss hp0 α0 H0 vs m0 e0 w0 r0 => ?_) qx
  refine hk α0 { s with hp := hp0 } H0 σ w0 (e.mono e0) _ _ m0 _ (fun zs hp1 α1 H1 ws m1 e01 w1 r1 => ?_) (qx.at e0)
  obtain ⟨l1, l2, lN, m1⟩ := m1
  have e1 := e0.trans e01
  have k1 : vs.length = n := by rw [← r0.length]; exact l1
  have k2 : ws.length = m := by rw [← r1.length]; exact l2
  refine ⟨k1, k2, fun x dx hx hdx ne => ?_⟩
  have e2 : Ext α1 hp1 H1 α1 hp1 (upd H1 dx (.own x)) := Ext.fresh hdx
  have w2 := w1.fresh (o := .own x) hdx
  have hx2 : upd H1 dx (.own x) x = none := by rw [upd_ne (Ne.symm ne)]; exact hx
  obtain ⟨w3, e3⟩ := w2.pushReg (x := .ins (He.ga K C) dx []) (g := .ins C []) hx2 fun st => ⟨dx, [], upd_same, .nil⟩
  have own0 : (α1.push (x, [])).own[hp1.length]? = some (x, []) := by
    show (α1.own ++ [(x, [])])[hp1.length]? = _
    rw [← w1.len, List.getElem?_append_right (Nat.le_refl _)]
    simp
  refine ⟨?_, α1.push (x, []), hp1 ++ [.reg [.ins C []]], .ob hp1.length 0 :: (ss ++ dd.map S.d ++ (zs ++ d2.map S.d)), _, noX, w3, .cons ⟨(x, []), x, own0, rfl, rfl⟩ (srepL_append (srepL_app (hd _ _) (r0.mono (e01.trans (e2.trans e3)))) (srepL_app (hd2 _ _) (r1.mono (e2.trans e3)))), m1, fun s' hp' α' H' v r e' w' sr _ => ?_, fun x hp' α' H' c d' r => r.elim⟩
  · unfold gVK
    simp only [List.cons_append, List.length_cons, List.length_append]
    rw [k1, k2, ← (hd noA H).length, ← (hd2 noA H).length]
    omega
  · obtain ⟨rfl, r⟩ := r
    obtain ⟨p', h1, h2, h3⟩ := e'.pre.own _ _ own0
    exact ⟨sr, q _ _ α' H' _ r (((e1.trans e2).trans e3).trans e') w' ⟨p', x, h1, adr_le h2 h3 rfl, rfl⟩⟩
section
variable {X : Cx} {W : WX} {e : Expr} {es : List Expr} {kws : List Keyword} {pos : Pos} {t tk : TA} {Ma Mkw : MA}
theorem de_makeK0 (K : Frag) {C : Str} {k m N : Nat} {f : Addr} {fd : FuncData} {ps ks : List Str} {fr : Bool} {M : MF} {dv d2v : List V} {dd d2 : List D} {g : List Value → List Value → List Value} {p : Pos} (mk : Mk K (He.ga K C) f) (F : FnOk X.prog X.w K X.mg X.base (L2.CX X.prog X.w) k f fd ps (spM K N fr M)) (hr : Room (k + 1) X.A) (hg : Gl X C) (hm : X.mg C = some (.ref (He.ga K C)))
    (hb : KBn K fd ps 1 ks g (gVK dv d2v)) (hd : ∀ A H, RepL K A H dd dv) (hd2 : ∀ A H, RepL K A H d2 d2v) (hkw : DK X W kws tk Mkw) (hall : (backToKw pos (keywordEach kws X.env)).all (·.1.isSome) = true := by rfl) (hks : (backToKw pos (keywordEach kws X.env)).filterMap (·.1) = ks := by rfl)
    (hdb : (C == ("__debug__" : Str)) = false := by decide) (hpl : ((backTo pos (starEach [] X.env)).any (·.1) || (backToKw pos (keywordEach kws X.env)).any (·.1.isNone)) = false := by rfl) (hkm : ks.length = m := by rfl) (hK : X.K = K := by rfl) :
    DE X W (.Call (.Name C p) [] kws pos) (tMakeK (He.ga K C) 0 m (spM K N fr M) (gVK dv d2v) noE tNil tk) (mMakeK C N 0 m M dd d2 mNil Mkw) := by
  subst hK hkm
  exact ⟨pe_makeK0 mk F hr hg hm hb pass_no hkw.p hall hks hdb hpl, sim_makeK hd hd2 sim_nil hkw.s⟩
end
section
variable {hp : List O} {env : List (Option S)} {n : Nat} {R : S → List O → Prop} {Xp : MX} {Mo : ME} {La Lk : MA} {nx : PS → Prop}
@[simp ↓] theorem x_gFld {C f : Str} {v : S} : mgFld C f Mo v ⟨hp, env, n⟩ nx = Mo ⟨hp, env, n⟩ (fun x hp2 => onH (obO x) (fun q => onH (insO C (gnO (rgO hp2[q.1]?) q.2)) (fun fs => fs.length < 1000 ∧ onH (isD v) (fun d => nx ⟨putH (rgO hp2[q.1]?) hp2 q.1 q.2 (.ins C (putNd f (.d d) fs)), env, n⟩) .mk) .mk) .mk) noX := by
  unfold mgFld
  simp only [gnAt_O, putN_H]
  rfl
@[simp ↓] theorem x_popG : mPopG Mo ⟨hp, env, n⟩ R Xp = Mo ⟨hp, env, n⟩ (fun o hp1 => onH (obO o) (fun q => onH (lstG (gnO (rgO hp1[q.1]?) q.2)) (fun xs => onH (xs[xs.length - 1]?) (fun z => R (ndS q.1 z) (putH (rgO hp1[q.1]?) hp1 q.1 q.2 (.lst xs.dropLast))) .mk) .mk) .mk) Xp := by
  unfold mPopG
  simp only [gnAt_O, putN_H]
  rfl
@[simp ↓] theorem x_makeK {C : Str} {N j m : Nat} {M : MF} {dd d2 : List D} : mMakeK C N j m M dd d2 La Lk ⟨hp, env, n⟩ R Xp = La ⟨hp, env, n⟩ (fun ss hp1 => Lk ⟨hp1, env, n⟩ (fun zs hp2 => ss.length = j ∧ zs.length = m ∧ 1 + j + dd.length + m + d2.length = N ∧ mfH M (hp2 ++ [.reg [.ins C []]]) (.ob hp2.length 0 :: (ss ++ dd.map S.d ++ (zs ++ d2.map S.d))) (fun v hp3 => v = .d .non ∧ R (.ob hp2.length 0) hp3) noX .mk) Xp) Xp := nr rfl
end
end Mp

set_option Elab.async false
set_option linter.all false
set_option maxRecDepth 100000
set_option maxHeartbeats 4000000
namespace Pl
open PySem PySem.Spec PyProof.Rows L2 Mp
def m__law_mix : MF := mDef 4 false
    ((mSeq (mAsg (m2 (fI (fun _ j => 0 < j) fun i j => .int (i % j)) (mN fInt (mCons (m2 fAdd (m2 fAdd (m2 fMul (mVar 0) (mC (.int 48271))) (m2 fMul (mVar 1) (mC (.int 1234567891)))) (mC (.int 12345679))) mNil)) (mC (.int 2147483647))) (mgName 2))
    (mSeq (mAsg (m2 (fI (fun _ j => 0 < j) fun i j => .int (i % j)) (mN fInt (mCons (m2 fAdd (m2 fAdd (m2 fAdd (m2 fMul (mVar 2) (mVar 2)) (m2 fMul (m2 (fI CDivW fun i j => .int (i / j)) (mVar 2) (mC (.int 3))) (mC (.int 16807)))) (mVar 1)) (mC (.int 65537))) mNil)) (mC (.int 2147483629))) (mgName 3))
    (mRet (m2 (fI (fun _ j => 0 < j) fun i j => .int (i % j)) (mN fInt (mCons (m2 fAdd (m2 fMul (mVar 3) (mC (.int 69621))) (m2 (fI CDivW fun i j => .int (i / j)) (mVar 2) (mC (.int 1024)))) mNil)) (mC (.int 2147483587)))))))
def m__law_store : MF := mDef 3 false
    ((mSeq (mAsg (mC (.int 7)) (mgName 1))
    (mSeq (mFor (miSq (mVar 0)) (mgName 2) (mAsg (mCall 2 m__law_mix [] (mCons (mVar 1) (mCons (m2 (fI (fun _ j => 0 < j) fun i j => .int (i % j)) (mN fInt (mCons (mVar 2) mNil)) (mC (.int 2147483647))) mNil))) (mgName 1)))
    (mRet (mDisp (((mC (.str "cells")), (mN fList (mCons (mVar 0) mNil))) :: (((mC (.str "cell")), (mC (.int 0))) :: (((mC (.str "rest")), (mC (.int 0))) :: (((mC (.str "small")), (mC (.int 0))) :: (((mC (.str "left")), (mC (.int 0))) :: (((mC (.str "turn")), (mC (.int 0))) :: (((mC (.str "seed")), (mVar 1)) :: []))))))))))))
def m__law_take : MF := mDef 8 false
    ((mSeq (mIfS (mTest (m2 (fI0 fun i j => .bl (decide (i < j))) (mVar 1) (mC (.int 2)))) (mRet (mC (.int 0))) mNext)
    (mSeq (mIfS (mAnd (mTest (m2 fEq (mDGet (mVar 0) (mC (.str "rest"))) (mC (.int 0)))) (mAnd (mTest (m2 fEq (mDGet (mVar 0) (mC (.str "left"))) (mC (.int 0)))) (mTest (m2 (fI0 fun i j => .bl (decide (i < j))) (mDGet (mVar 0) (mC (.str "cell"))) (mN fLen (mCons (mDGet (mVar 0) (mC (.str "cells"))) mNil)))))) (mSeq (mAsg (m2 fIx (mDGet (mVar 0) (mC (.str "cells"))) (mDGet (mVar 0) (mC (.str "cell")))) (mgName 2))
    (mSeq (mDPut (mVar 0) (mC (.str "cell")) (m2 fAdd (mDGet (mVar 0) (mC (.str "cell"))) (mC (.int 1))))
    (mIfS (mTest (m2 (fI0 fun i j => .bl (decide (j ≤ i))) (mN fAbs (mCons (mVar 2) mNil)) (m2 (fI CPow fun i j => .int (i ^ j.toNat)) (mC (.int 10)) (mC (.int 18))))) (mDPut (mVar 0) (mC (.str "rest")) (mN fAbs (mCons (mVar 2) mNil))) (mSeq (mDPut (mVar 0) (mC (.str "small")) (mVar 2))
    (mDPut (mVar 0) (mC (.str "left")) (mC (.int 2))))))) mNext)
    (mSeq (mIfS (mTest (m2 (fI0 fun i j => .bl (decide (j < i))) (mDGet (mVar 0) (mC (.str "rest"))) (mC (.int 0)))) (mSeq (mAsg (mDGet (mVar 0) (mC (.str "rest"))) (mgName 3))
    (mSeq (mDPut (mVar 0) (mC (.str "rest")) (m2 (fI CDivW fun i j => .int (i / j)) (mVar 3) (mVar 1)))
    (mRet (m2 (fI (fun _ j => 0 < j) fun i j => .int (i % j)) (mN fInt (mCons (mVar 3) mNil)) (mVar 1))))) mNext)
    (mSeq (mAsg (mDGet (mVar 0) (mC (.str "seed"))) (mgName 4))
    (mSeq (mIfS (mTest (m2 (fI0 fun i j => .bl (decide (j < i))) (mDGet (mVar 0) (mC (.str "left"))) (mC (.int 0)))) (mSeq (mDPut (mVar 0) (mC (.str "left")) (m2 (fI0 fun i j => .int (i - j)) (mDGet (mVar 0) (mC (.str "left"))) (mC (.int 1))))
    (mAsg (mDGet (mVar 0) (mC (.str "small"))) (mgName 4))) mNext)
    (mSeq (mAsg (mC (.int 0)) (mgName 5))
    (mSeq (mAsg (mC (.int 1)) (mgName 6))
    (mSeq (mIfS (mTest (m2 (fI0 fun i j => .bl (decide (j < i))) (mVar 1) (m2 (fI CPow fun i j => .int (i ^ j.toNat)) (mC (.int 10)) (mC (.int 8))))) (mAsg (mC (.int 6)) (mgName 6)) mNext)
    (mSeq (mFor (miRng f1R (mCons (mVar 6) mNil)) (mgName 7) (mSeq (mDPut (mVar 0) (mC (.str "turn")) (m2 fAdd (mDGet (mVar 0) (mC (.str "turn"))) (mC (.int 1))))
    (mAsg (m2 fAdd (m2 fMul (mVar 5) (mC (.int 2147483587))) (mCall 2 m__law_mix [] (mCons (mVar 4) (mCons (mDGet (mVar 0) (mC (.str "turn"))) mNil)))) (mgName 5))))
    (mRet (m2 (fI (fun _ j => 0 < j) fun i j => .int (i % j)) (mN fInt (mCons (mVar 5) mNil)) (mVar 1)))))))))))))
def m__law_pick : MF := mDef 2 false
    ((mRet (m2 fIx (mVar 1) (mCall 2 m__law_take [] (mCons (mVar 0) (mCons (mN fLen (mCons (mVar 1) mNil)) mNil))))))
def b__law_equal (z_self : MF) : MF := mDef 3 false
    ((mSeq (mIfS (mTest (mN fIsi (mCons (mVar 0) (mCons (mTup (mCons (mC (.ty "list")) (mCons (mC (.ty "tuple")) mNil))) mNil)))) (mSeq (mIfS (mOr (mTest (m2 fNe (mN fIsi (mCons (mVar 0) (mCons (mC (.ty "list")) mNil))) (mN fIsi (mCons (mVar 1) (mCons (mC (.ty "list")) mNil))))) (mTest (m2 fNe (mN fIsi (mCons (mVar 0) (mCons (mC (.ty "tuple")) mNil))) (mN fIsi (mCons (mVar 1) (mCons (mC (.ty "tuple")) mNil)))))) (mRet (mC (.bl false))) mNext)
    (mSeq (mIfS (mTest (m2 fNe (mN fLen (mCons (mVar 0) mNil)) (mN fLen (mCons (mVar 1) mNil)))) (mRet (mC (.bl false))) mNext)
    (mSeq (mFor (miRng f1R (mCons (mN fLen (mCons (mVar 0) mNil)) mNil)) (mgName 2) (mIfS (mNot (mTest (mCall 2 z_self [] (mCons (m2 fIx (mVar 0) (mVar 2)) (mCons (m2 fIx (mVar 1) (mVar 2)) mNil))))) (mRet (mC (.bl false))) mNext))
    (mRet (mC (.bl true)))))) mNext)
    (mSeq (mIfS (mTest (mN fIsi (mCons (mVar 1) (mCons (mTup (mCons (mC (.ty "list")) (mCons (mC (.ty "tuple")) mNil))) mNil)))) (mRet (mC (.bl false))) mNext)
    (mSeq (mIfS (mOr (mTest (m2 fIsN (mVar 0) (mC .non))) (mTest (m2 fIsN (mVar 1) (mC .non)))) (mRet (mAndV (m2 fIsN (mVar 0) (mC .non)) (m2 fIsN (mVar 1) (mC .non)))) mNext)
    (mSeq (mIfS (mOr (mTest (mN fIsi (mCons (mVar 0) (mCons (mC (.ty "bool")) mNil)))) (mTest (mN fIsi (mCons (mVar 1) (mCons (mC (.ty "bool")) mNil))))) (mRet (mAndV (mN fIsi (mCons (mVar 0) (mCons (mC (.ty "bool")) mNil))) (mAndV (mN fIsi (mCons (mVar 1) (mCons (mC (.ty "bool")) mNil))) (m2 fEq (mVar 0) (mVar 1))))) mNext)
    (mSeq (mIfS (mOr (mTest (mN fIsi (mCons (mVar 0) (mCons (mC (.ty "str")) mNil)))) (mTest (mN fIsi (mCons (mVar 1) (mCons (mC (.ty "str")) mNil))))) (mRet (mAndV (mN fIsi (mCons (mVar 0) (mCons (mC (.ty "str")) mNil))) (mAndV (mN fIsi (mCons (mVar 1) (mCons (mC (.ty "str")) mNil))) (m2 fEq (mVar 0) (mVar 1))))) mNext)
    (mRet (mAndV (mN fIsi (mCons (mVar 0) (mCons (mC (.ty "int")) mNil))) (mAndV (mN fIsi (mCons (mVar 1) (mCons (mC (.ty "int")) mNil))) (m2 fEq (mVar 0) (mVar 1)))))))))))
def m__law_equal : Nat → MF
  | 0 => fun _ _ _ _ => False
  | n + 1 => b__law_equal (m__law_equal n)
def m__law_span : MF := mDef 4 false
    ((mSeq (mAsg (mCall 2 m__law_take [] (mCons (mVar 0) (mCons (mC (.int 6)) mNil))) (mgName 3))
    (mSeq (mIfS (mOr (mTest (m2 fEq (mVar 3) (mC (.int 0)))) (mTest (m2 (fI0 fun i j => .bl (decide (i ≤ j))) (mVar 2) (mVar 1)))) (mRet (mVar 1)) mNext)
    (mSeq (mIfS (mTest (m2 fEq (mVar 3) (mC (.int 1)))) (mRet (mVar 2)) mNext)
    (mRet (m2 fAdd (mVar 1) (mCall 2 m__law_take [] (mCons (mVar 0) (mCons (m2 fAdd (m2 (fI0 fun i j => .int (i - j)) (mVar 2) (mVar 1)) (mC (.int 1))) mNil)))))))))
def m__law_count : MF := mDef 3 false
    ((mSeq (mIfS (mTest (m2 fEq (mCall 2 m__law_take [] (mCons (mVar 0) (mCons (mC (.int 12)) mNil))) (mC (.int 11)))) (mRet (mCall 3 m__law_span [] (mCons (mVar 0) (mCons (mC (.int 0)) (mCons (mVar 2) mNil))))) mNext)
    (mRet (mCall 2 m__law_take [] (mCons (mVar 0) (mCons (m2 fAdd (mVar 1) (mC (.int 1))) mNil))))))
def m__law_octet : MF := mDef 1 false
    ((mSeq (mIfS (mTest (m2 fEq (mCall 2 m__law_take [] (mCons (mVar 0) (mCons (mC (.int 2)) mNil))) (mC (.int 0)))) (mRet (mCall 2 m__law_pick [] (mCons (mVar 0) (mCons (mLst (mCons (mC (.int 0)) (mCons (mC (.int 1)) (mCons (mC (.int 2)) (mCons (mC (.int 31)) (mCons (mC (.int 32)) (mCons (mC (.int 63)) (mCons (mC (.int 64)) (mCons (mC (.int 127)) (mCons (mC (.int 128)) (mCons (mC (.int 129)) (mCons (mC (.int 130)) (mCons (mC (.int 132)) (mCons (mC (.int 133)) (mCons (mC (.int 159)) (mCons (mC (.int 160)) (mCons (mC (.int 223)) (mCons (mC (.int 254)) (mCons (mC (.int 255)) mNil))))))))))))))))))) mNil)))) mNext)
    (mRet (mCall 2 m__law_take [] (mCons (mVar 0) (mCons (mC (.int 256)) mNil))))))
def m__law_is_integer : MF := mDef 1 false
    ((mRet (mAndV (mN fIsi (mCons (mVar 0) (mCons (mC (.ty "int")) mNil))) (mNotV (mN fIsi (mCons (mVar 0) (mCons (mC (.ty "bool")) mNil)))))))
def m__law_is_row : MF := mDef 4 false
    ((mSeq (mIfS (mNot (mTest (mN fIsi (mCons (mVar 0) (mCons (mC (.ty "list")) mNil))))) (mRet (mC (.bl false))) mNext)
    (mSeq (mFor (miSq (mVar 0)) (mgName 3) (mIfS (mOr (mNot (mTest (mCall 1 m__law_is_integer [] (mCons (mVar 3) mNil)))) (mOr (mTest (m2 (fI0 fun i j => .bl (decide (i < j))) (mVar 3) (mVar 1))) (mTest (m2 (fI0 fun i j => .bl (decide (j < i))) (mVar 3) (mVar 2))))) (mRet (mC (.bl false))) mNext))
    (mRet (mC (.bl true))))))
end Pl

set_option Elab.async false
set_option linter.all false
set_option maxRecDepth 100000
set_option maxHeartbeats 100000
namespace Pl
open PySem PySem.Spec PyProof.Rows L2 Mp
theorem s_mix {hp : List O} {a b : Int} {R : S → List O → Prop} {Xp : MX} {t : Tg (m__law_mix, R, Xp)} (h : ∀ r : Int, R (.d (.int r)) hp) : mfH m__law_mix hp [.d (.int a), .d (.int b)] R Xp t := by
  refine mfH_of ?_
  unfold m__law_mix
  simp
  exact ⟨.inl (.inl ⟨by omega, by omega⟩), h _⟩
def sto (cs : List Int) (c r s l t sd : Int) : List (Key × D) := [(.inr "cells", .lst (iL cs)), (.inr "cell", .int c), (.inr "rest", .int r), (.inr "small", .int s), (.inr "left", .int l), (.inr "turn", .int t), (.inr "seed", .int sd)]
section
variable {cs : List Int} {c r s l t sd x : Int}
@[simp] theorem g1 : getK (sto cs c r s l t sd) (.inr "cells") = some (.lst (iL cs)) := rfl
@[simp] theorem g2 : getK (sto cs c r s l t sd) (.inr "cell") = some (.int c) := rfl
@[simp] theorem g3 : getK (sto cs c r s l t sd) (.inr "rest") = some (.int r) := rfl
@[simp] theorem g4 : getK (sto cs c r s l t sd) (.inr "small") = some (.int s) := rfl
@[simp] theorem g5 : getK (sto cs c r s l t sd) (.inr "left") = some (.int l) := rfl
@[simp] theorem g6 : getK (sto cs c r s l t sd) (.inr "turn") = some (.int t) := rfl
@[simp] theorem g7 : getK (sto cs c r s l t sd) (.inr "seed") = some (.int sd) := rfl
@[simp] theorem p2 : setK (sto cs c r s l t sd) (.inr "cell") (.int x) = sto cs x r s l t sd := rfl
@[simp] theorem p3 : setK (sto cs c r s l t sd) (.inr "rest") (.int x) = sto cs c x s l t sd := rfl
@[simp] theorem p4 : setK (sto cs c r s l t sd) (.inr "small") (.int x) = sto cs c r x l t sd := rfl
@[simp] theorem p5 : setK (sto cs c r s l t sd) (.inr "left") (.int x) = sto cs c r s x t sd := rfl
@[simp] theorem p6 : setK (sto cs c r s l t sd) (.inr "turn") (.int x) = sto cs c r s l x sd := rfl
@[simp] theorem sto_len : (sto cs c r s l t sd).length = 7 := rfl
@[simp] theorem sto_ok : ((sto cs c r s l t sd).length < sizeLine) = True := by simp [sizeLine]
end
/-- the store, as every law makes it -/
def St (o : O) : Prop := ∃ cs c r s l t sd, o = .dct (sto cs c r s l t sd) ∧ 0 ≤ c
theorem s_takeW {hp : List O} {n : Nat} {many : Int} {o : O} {R : S → List O → Prop} {Xp : MX} {tg : Tg (m__law_take, R, Xp)} (ho : hp[n]? = some o) (hs : St o) (hm : many < 2 ^ 250)
    (h : ∀ (r : Int) o', St o' → 0 ≤ r → (2 ≤ many → r < many) → (many < 2 → r = 0) → R (.d (.int r)) (hp.set n o')) : mfH m__law_take hp [.mu n, .d (.int many)] R Xp tg := by
  obtain ⟨cs, c, r, s, l, t, sd, rfl, hc⟩ := hs
  have hg := set_at ho
  refine mfH_of ?_
  unfold m__law_take
  simp only [x_def]
  refine seq_cut (fun hp' env' => hp = hp' ∧ [some (.mu n), some (.d (.int many)), none, none, none, none, none, none] = env' ∧ 2 ≤ many) (fun N hN => ?_) ?_
  · simp
    refine brH_of (fun hb => ?_) (fun hb => ?_)
    · simp at hb
      have := h 0 (.dct (sto cs c r s l t sd)) ⟨_, _, _, _, _, _, _, rfl, hc⟩ (by omega) (by omega) (by omega)
      rw [set_same ho] at this
      simpa using this
    · simp at hb
      simpa using hN _ _ ⟨rfl, rfl, hb⟩
  rintro hp' env' ⟨rfl, rfl, hm2⟩
  refine seq_cut (fun hp' env' => ∃ c r s l t sd x, hp' = hp.set n (.dct (sto cs c r s l t sd)) ∧ env' = [some (.mu n), some (.d (.int many)), x, none, none, none, none, none] ∧ 0 ≤ c) (fun N hN => ?_) ?_
  · have hN0 := hN _ _ ⟨c, r, s, l, t, sd, none, rfl, rfl, hc⟩
    rw [set_same ho] at hN0
    simp [ho]
    refine brH_of (fun hb => ?_) (fun hb => ?_)
    rotate_left
    · simpa using hN0
    simp [ho]
    refine brH_of (fun hb => ?_) (fun hb => ?_)
    rotate_left
    · simpa using hN0
    simp [ho]
    refine brH_of (fun hb => ?_) (fun hb => ?_)
    rotate_left
    · simpa using hN0
    simp at hb
    simp [ho, atI_nat hc hb]
    refine brH_of (fun hb => ?_) (fun hb => ?_)
    · simp [ho, hg]
      exact hN _ _ ⟨_, _, _, _, _, _, _, rfl, rfl, by omega⟩
    · simp [ho, hg]
      exact hN _ _ ⟨_, _, _, _, _, _, _, rfl, rfl, by omega⟩
  rintro _ _ ⟨c, r, s, l, t, sd, x, rfl, rfl, hc⟩
  refine seq_cut (fun hp' env' => hp.set n (.dct (sto cs c r s l t sd)) = hp' ∧ [some (.mu n), some (.d (.int many)), x, none, none, none, none, none] = env') (fun N hN => ?_) ?_
  · simp [hg]
    refine brH_of (fun hb => ?_) (fun hb => ?_)
    · have h1 : (0 : Int) < many := by omega
      have h2 : CDivW r many = True := eq_true (wide_div (b := 250) h1 (by omega) (by decide) (by decide))
      simp [hg, h1, h2, retP]
      exact h _ _ ⟨_, _, _, _, _, _, _, rfl, hc⟩ (Int.emod_nonneg _ (by omega)) (fun _ => Int.emod_lt_of_pos _ h1) (fun z => by omega)
    · simpa using hN _ _ ⟨rfl, rfl⟩
  rintro _ _ ⟨rfl, rfl⟩
  refine seq_cut (fun hp' env' => hp.set n (.dct (sto cs c r s l t sd)) = hp' ∧ [some (.mu n), some (.d (.int many)), x, none, some (.d (.int sd)), none, none, none] = env') (fun N hN => ?_) ?_
  · simpa [hg] using hN _ _ ⟨rfl, rfl⟩
  rintro _ _ ⟨rfl, rfl⟩
  refine seq_cut (fun hp' env' => ∃ l b, hp' = hp.set n (.dct (sto cs c r s l t sd)) ∧ env' = [some (.mu n), some (.d (.int many)), x, none, some (.d (.int b)), none, none, none]) (fun N hN => ?_) ?_
  · simp [hg]
    refine brH_of (fun hb => ?_) (fun hb => ?_)
    · simp [hg]
      exact hN _ _ ⟨_, _, rfl, rfl⟩
    · simpa using hN _ _ ⟨_, _, rfl, rfl⟩
  rintro _ _ ⟨l, b, rfl, rfl⟩
  simp only [x_seq, x_asg, x_c, x_gName]
  refine cut_nx (fun hp' env' => ∃ k : Nat, k ≤ 6 ∧ hp' = hp.set n (.dct (sto cs c r s l t sd)) ∧ env' = [some (.mu n), some (.d (.int many)), x, none, some (.d (.int b)), some (.d (.int 0)), some (.d (.int k)), none]) (fun N hN => ?_) ?_
  · simp
    refine brH_of (fun hb => ?_) (fun hb => ?_)
    · simpa using hN _ _ ⟨6, by omega, rfl, rfl⟩
    · simpa using hN _ _ ⟨1, by omega, rfl, rfl⟩
  rintro _ _ ⟨k, hk, rfl, rfl⟩
  have k1 : (k : Int) < 4611686018427387904 := by omega
  have k2 : (-4611686018427387904 : Int) ≤ k := by omega
  simp [k1, k2]
  refine forH_of (fun ds hp' env' => ∃ t tot y, hp' = hp.set n (.dct (sto cs c r s l t sd)) ∧ env' = [some (.mu n), some (.d (.int many)), x, none, some (.d (.int b)), some (.d (.int tot)), some (.d (.int k)), y]) ⟨_, _, _, rfl, rfl⟩ ?_ ?_
  · rintro d ds _ _ N ⟨t, tot, y, rfl, rfl⟩ hN
    simp [hg]
    refine s_mix fun z => ?_
    simp
    exact hN _ _ trivial ⟨_, _, _, rfl, rfl⟩
  · rintro _ _ ⟨t, tot, y, rfl, rfl⟩
    have h1 : (0 : Int) < many := by omega
    simp [h1]
    exact h _ _ ⟨_, _, _, _, _, _, _, rfl, hc⟩ (Int.emod_nonneg _ (by omega)) (fun _ => Int.emod_lt_of_pos _ h1) (fun z => by omega)
theorem s_take {hp : List O} {n : Nat} {many : Int} {o : O} {R : S → List O → Prop} {Xp : MX} {tg : Tg (m__law_take, R, Xp)} (ho : hp[n]? = some o) (hs : St o) (hm : many < 2 ^ 64)
    (h : ∀ (r : Int) o', St o' → 0 ≤ r → (2 ≤ many → r < many) → (many < 2 → r = 0) → R (.d (.int r)) (hp.set n o')) : mfH m__law_take hp [.mu n, .d (.int many)] R Xp tg :=
  s_takeW ho hs (Int.lt_trans hm (by decide)) h
end Pl

set_option Elab.async false
set_option linter.all false
set_option maxRecDepth 100000
set_option maxHeartbeats 100000
namespace Pl
open PySem PySem.Spec PyProof.Rows L2 Mp
variable {hp : List O} {n : Nat} {o : O} {R : S → List O → Prop} {Xp : MX}
theorem s_store {ns : List Int} {tg : Tg (m__law_store, R, Xp)} (hl : ns.length ≤ 63) (h : ∀ o', St o' → R (.mu hp.length) (hp ++ [o'])) : mfH m__law_store hp [.d (.fl (iL ns))] R Xp tg := by
  refine mfH_of ?_
  unfold m__law_store
  simp
  refine forH_of (fun ds hp' env' => (∃ ms : List Int, ds = iL ms) ∧ hp' = hp ∧ ∃ a y, env' = [some (.d (.fl (iL ns))), some (.d (.int a)), y]) ⟨⟨ns, rfl⟩, rfl, _, _, rfl⟩ ?_ ?_
  · rintro d ds _ _ N ⟨⟨ms, e⟩, rfl, a, y, rfl⟩ hN
    cases ms with
    | nil => cases e
    | cons m ms =>
      cases e
      simp
      refine s_mix fun z => ?_
      simp
      exact hN _ _ trivial ⟨⟨ms, rfl⟩, rfl, _, _, rfl⟩
  · rintro _ _ ⟨_, rfl, a, y, rfl⟩
    simp
    refine onH_of (x := sto ns 0 0 0 0 0 a) rfl ⟨by simp, ?_⟩
    rw [show mergeD [] (sto ns 0 0 0 0 0 a) = sto ns 0 0 0 0 0 a from rfl]
    simp
    exact h _ ⟨_, _, _, _, _, _, _, rfl, by omega⟩
theorem s_pick {xs : List D} {tg : Tg (m__law_pick, R, Xp)} (ho : hp[n]? = some o) (hs : St o) (h0 : 0 < xs.length) (h1 : xs.length < 2 ^ 60) (h : ∀ (i : Nat) (hi : i < xs.length) o', St o' → R (.d xs[i]) (hp.set n o')) : mfH m__law_pick hp [.mu n, .d (.lst xs)] R Xp tg := by
  refine mfH_of ?_
  unfold m__law_pick
  simp
  refine s_take ho hs (by omega) fun r o' hs' h0 h2 h3 => ?_
  have hr : r < xs.length := by
    by_cases z : (2 : Int) ≤ xs.length
    · exact h2 z
    · have := h3 (by omega); omega
  simp [atI_nat h0 hr]
  exact h _ _ _ hs'
theorem s_span {lo hi : Int} {tg : Tg (m__law_span, R, Xp)} (ho : hp[n]? = some o) (hs : St o) (hb : hi - lo < 2 ^ 59) (h : ∀ (r : Int) o', St o' → lo ≤ r → (r ≤ hi ∨ r = lo) → R (.d (.int r)) (hp.set n o')) : mfH m__law_span hp [.mu n, .d (.int lo), .d (.int hi)] R Xp tg := by
  have hg := set_at ho
  refine mfH_of ?_
  unfold m__law_span
  simp
  refine s_take ho hs (by omega) fun r o' hs' h0 h2 h3 => ?_
  simp
  refine brH_of (fun hb => ?_) (fun hb => ?_)
  · simp
    exact h _ _ hs' (by omega) (.inr rfl)
  simp
  refine brH_of (fun hb => ?_) (fun hb => ?_)
  · simp
    exact h _ _ hs' (by omega) (.inr rfl)
  simp at hb
  simp
  refine brH_of (fun hb => ?_) (fun hb => ?_)
  · simp
    exact h _ _ hs' (by omega) (.inl (by omega))
  simp
  refine s_take (hg _) hs' (by omega) fun r o' hs' h0 h2 h3 => ?_
  simp
  exact h _ _ hs' (by omega) (by omega)
theorem s_count {few many : Int} {tg : Tg (m__law_count, R, Xp)} (ho : hp[n]? = some o) (hs : St o) (h1 : few < 2 ^ 59) (h2 : many < 2 ^ 59) (h3 : 0 ≤ few) (h4 : 0 ≤ many) (h : ∀ (r : Int) o', St o' → 0 ≤ r → (r ≤ few ∨ r ≤ many) → R (.d (.int r)) (hp.set n o')) : mfH m__law_count hp [.mu n, .d (.int few), .d (.int many)] R Xp tg := by
  have hg := set_at ho
  refine mfH_of ?_
  unfold m__law_count
  simp
  refine s_take ho hs (by omega) fun r o' hs' h0 h2 h3 => ?_
  simp
  refine brH_of (fun hb => ?_) (fun hb => ?_)
  · simp
    refine s_span (hg _) hs' (by omega) fun r o' hs' h0 h2 => ?_
    simp
    exact h _ _ hs' h0 (by omega)
  simp
  refine s_take (hg _) hs' (by omega) fun r o' hs' h0 h2 h3 => ?_
  simp
  exact h _ _ hs' h0 (by omega)
theorem s_octet {tg : Tg (m__law_octet, R, Xp)} (ho : hp[n]? = some o) (hs : St o) (h : ∀ (r : Int) o', St o' → 0 ≤ r → r ≤ 255 → R (.d (.int r)) (hp.set n o')) : mfH m__law_octet hp [.mu n] R Xp tg := by
  have hg := set_at ho
  refine mfH_of ?_
  unfold m__law_octet
  simp
  refine s_take ho hs (by omega) fun r o' hs' h0 h2 h3 => ?_
  simp
  refine brH_of (fun hb => ?_) (fun hb => ?_)
  · simp
    refine s_pick (hg _) hs' (by simp) (by simp) fun i hi o' hs' => ?_
    simp at hi
    have : i = 0 ∨ i = 1 ∨ i = 2 ∨ i = 3 ∨ i = 4 ∨ i = 5 ∨ i = 6 ∨ i = 7 ∨ i = 8 ∨ i = 9 ∨ i = 10 ∨ i = 11 ∨ i = 12 ∨ i = 13 ∨ i = 14 ∨ i = 15 ∨ i = 16 ∨ i = 17 := by omega
    rcases this with rfl | rfl | rfl | rfl | rfl | rfl | rfl | rfl | rfl | rfl | rfl | rfl | rfl | rfl | rfl | rfl | rfl | rfl <;> (simp; exact h _ _ hs' (by omega) (by omega))
  simp
  refine s_take (hg _) hs' (by omega) fun r o' hs' h0 h2 h3 => ?_
  simp
  exact h _ _ hs' h0 (by omega)
theorem s_is_integer {i : Int} {tg : Tg (m__law_is_integer, R, Xp)} (h : R (.d (.bl true)) hp) : mfH m__law_is_integer hp [.d (.int i)] R Xp tg := by
  refine mfH_of ?_
  unfold m__law_is_integer
  simpa using h
theorem s_is_row {xs : List Int} {s : S} {lo hi : Int} {tg : Tg (m__law_is_row, R, Xp)} (hv : val hp s = some (.lst (iL xs))) (hb : ∀ x ∈ xs, lo ≤ x ∧ x ≤ hi) (h : R (.d (.bl true)) hp) : mfH m__law_is_row hp [s, .d (.int lo), .d (.int hi)] R Xp tg := by
  obtain ⟨v, hw, hst, hvl⟩ := walkO_of hv
  refine mfH_of ?_
  unfold m__law_is_row
  simp [hv, hw]
  refine forH_of (fun ds hp' env' => (∃ ms : List Int, ds = iL ms ∧ ∀ x ∈ ms, lo ≤ x ∧ x ≤ hi) ∧ hp' = hp ∧ ∃ y, env' = [some s, some (.d (.int lo)), some (.d (.int hi)), y]) ⟨⟨xs, rfl, hb⟩, rfl, _, rfl⟩ ?_ ?_
  · rintro d ds _ _ N ⟨⟨ms, e, hm⟩, rfl, y, rfl⟩ hN
    cases ms with
    | nil => cases e
    | cons m ms =>
      cases e
      simp at hm
      simp
      refine s_is_integer ?_
      have c1 : ¬ m < lo := by omega
      have c2 : ¬ hi < m := by omega
      simp [c1, c2]
      exact hN _ _ hst ⟨⟨ms, rfl, hm.2⟩, rfl, _, rfl⟩
  · rintro _ _ ⟨_, rfl, y, rfl⟩
    simpa using h
end Pl

set_option Elab.async false
set_option linter.all false
set_option maxRecDepth 100000
set_option maxHeartbeats 400000
namespace Pl
open PySem PySem.Spec PyProof.Rows L2 Mp
/-- plain data of a depth -/
def plD : Nat → D → Bool
  | 0, _ => false
  | _ + 1, .int _ => true
  | _ + 1, .bl _ => true
  | _ + 1, .str x => shD (.str x)
  | _ + 1, .non => true
  | k + 1, .tup ds => decide (ds.length ≤ 1000000) && ds.all (plD k)
  | k + 1, .lst ds => decide (ds.length ≤ 1000000) && ds.all (plD k)
  | k + 1, .fl ds => decide (ds.length ≤ 1000000) && ds.all (plD k)
  | _ + 1, .ty _ => false
theorem val_eq {hp : List O} {s : S} {d : D} (h : val hp s = some d) (n : ∀ ds, d ≠ .lst ds) : s = .d d := by
  cases s with
  | d x => cases h; rfl
  | mu m =>
    rw [val_O] at h
    cases g : hp[m]? with
    | none => rw [g] at h; cases h
    | some o =>
      rw [g] at h
      cases o with
      | lst es => cases h; exact absurd rfl (n _)
      | _ => cases h
  | ob m k =>
    rw [val_ob] at h
    cases g : nodeDs hp m k with
    | none => rw [g] at h; cases h
    | some ds => rw [g] at h; cases h; exact absurd rfl (n ds)
  | exn _ _ _ _ => cases h
theorem eq_pl : ∀ (k : Nat) (d : D), plD k d = true → ∀ {hp : List O} {s t : S} {R : S → List O → Prop} {Xp : MX} {tg : Tg (m__law_equal k, R, Xp)}, val hp s = some d → val hp t = some d → R (.d (.bl true)) hp → mfH (m__law_equal k) hp [s, t] R Xp tg
  | 0, _, z, _, _, _, _, _, _, _, _, _ => by cases z
  | k + 1, .int i, z, hp, s, t, R, Xp, tg, hv, hw, h => by
    rw [val_eq hv (fun _ => by simp), val_eq hw (fun _ => by simp)]
    refine mfH_of ?_
    show b__law_equal (m__law_equal k) hp _ R Xp
    unfold b__law_equal
    simp [isNon]
    exact h
  | k + 1, .bl i, z, hp, s, t, R, Xp, tg, hv, hw, h => by
    rw [val_eq hv (fun _ => by simp), val_eq hw (fun _ => by simp)]
    refine mfH_of ?_
    show b__law_equal (m__law_equal k) hp _ R Xp
    unfold b__law_equal
    simp [isNon]
    exact h
  | k + 1, .str i, z, hp, s, t, R, Xp, tg, hv, hw, h => by
    rw [val_eq hv (fun _ => by simp), val_eq hw (fun _ => by simp)]
    refine mfH_of ?_
    show b__law_equal (m__law_equal k) hp _ R Xp
    unfold b__law_equal
    simp [isNon]
    exact ⟨z, h⟩
  | k + 1, .non, z, hp, s, t, R, Xp, tg, hv, hw, h => by
    rw [val_eq hv (fun _ => by simp), val_eq hw (fun _ => by simp)]
    refine mfH_of ?_
    show b__law_equal (m__law_equal k) hp _ R Xp
    unfold b__law_equal
    simp [isNon]
    exact h
  | k + 1, .tup g, z, hp, s, t, R, Xp, tg, hv, hw, h => by
    obtain ⟨z1, z2⟩ := He.ba (show (decide (g.length ≤ 1000000) && g.all (plD k)) = true from z)
    have hl : g.length ≤ 1000000 := of_decide_eq_true z1
    have hr1 : (-4611686018427387904 : Int) ≤ g.length := by omega
    have hr2 : (g.length : Int) < 4611686018427387904 := by omega
    refine mfH_of ?_
    show b__law_equal (m__law_equal k) hp _ R Xp
    unfold b__law_equal
    simp [hv, hw, hr1, hr2]
    refine forH_rng (fun i hp' env' => hp = hp' ∧ ∃ y, env' = [some s, some t, y]) ⟨rfl, _, rfl⟩ ?_ ?_
    · rintro i _ _ N hi ⟨rfl, y, rfl⟩ hN
      have a1 : atI g (i : Int) = some g[i] := by rw [atI_nat (by omega) (by omega)]; simp
      simp [hv, hw, a1]
      refine eq_pl k g[i] (List.all_eq_true.mp z2 _ (List.getElem_mem _)) rfl rfl ?_
      simp
      exact hN _ _ ⟨rfl, _, rfl⟩
    · rintro _ _ ⟨rfl, y, rfl⟩
      simpa using h
  | k + 1, .lst g, z, hp, s, t, R, Xp, tg, hv, hw, h => by
    obtain ⟨z1, z2⟩ := He.ba (show (decide (g.length ≤ 1000000) && g.all (plD k)) = true from z)
    have hl : g.length ≤ 1000000 := of_decide_eq_true z1
    have hr1 : (-4611686018427387904 : Int) ≤ g.length := by omega
    have hr2 : (g.length : Int) < 4611686018427387904 := by omega
    refine mfH_of ?_
    show b__law_equal (m__law_equal k) hp _ R Xp
    unfold b__law_equal
    simp [hv, hw, hr1, hr2]
    refine forH_rng (fun i hp' env' => hp = hp' ∧ ∃ y, env' = [some s, some t, y]) ⟨rfl, _, rfl⟩ ?_ ?_
    · rintro i _ _ N hi ⟨rfl, y, rfl⟩ hN
      have a1 : atI g (i : Int) = some g[i] := by rw [atI_nat (by omega) (by omega)]; simp
      simp [hv, hw, a1]
      refine eq_pl k g[i] (List.all_eq_true.mp z2 _ (List.getElem_mem _)) rfl rfl ?_
      simp
      exact hN _ _ ⟨rfl, _, rfl⟩
    · rintro _ _ ⟨rfl, y, rfl⟩
      simpa using h
  | k + 1, .fl g, z, hp, s, t, R, Xp, tg, hv, hw, h => by
    obtain ⟨z1, z2⟩ := He.ba (show (decide (g.length ≤ 1000000) && g.all (plD k)) = true from z)
    have hl : g.length ≤ 1000000 := of_decide_eq_true z1
    have hr1 : (-4611686018427387904 : Int) ≤ g.length := by omega
    have hr2 : (g.length : Int) < 4611686018427387904 := by omega
    refine mfH_of ?_
    show b__law_equal (m__law_equal k) hp _ R Xp
    unfold b__law_equal
    simp [hv, hw, hr1, hr2]
    refine forH_rng (fun i hp' env' => hp = hp' ∧ ∃ y, env' = [some s, some t, y]) ⟨rfl, _, rfl⟩ ?_ ?_
    · rintro i _ _ N hi ⟨rfl, y, rfl⟩ hN
      have a1 : atI g (i : Int) = some g[i] := by rw [atI_nat (by omega) (by omega)]; simp
      simp [hv, hw, a1]
      refine eq_pl k g[i] (List.all_eq_true.mp z2 _ (List.getElem_mem _)) rfl rfl ?_
      simp
      exact hN _ _ ⟨rfl, _, rfl⟩
    · rintro _ _ ⟨rfl, y, rfl⟩
      simpa using h
  | k + 1, .ty n, z, _, _, _, _, _, _, _, _, _ => by cases z
section
variable {hp : List O} {n : Nat} {o : O} {R : S → List O → Prop} {Xp : MX}
theorem at_get {xs : List Int} {i : Int} (h0 : 0 ≤ i) (h1 : i < xs.length) : atI xs i = xs[i.toNat]? := by
  obtain ⟨k, rfl⟩ := Int.eq_ofNat_of_zero_le h0
  rw [atI_nat (by omega) (by omega)]
  simp
theorem pick_Bd {xs : List Int} {lo hi : Int} {tg : Tg (m__law_pick, R, Xp)} (ho : hp[n]? = some o) (hs : St o) (h0 : 0 < xs.length) (h1 : xs.length < 2 ^ 60) (hb : Bd lo hi xs) (h : ∀ (x : Int) o', St o' → lo ≤ x → x ≤ hi → R (.d (.int x)) (hp.set n o')) : mfH m__law_pick hp [.mu n, .d (.lst (iL xs))] R Xp tg :=
  s_pick ho hs (by simpa using h0) (by simpa using h1) fun i hi o' ho' => by
    have hi' : i < xs.length := by simpa using hi
    have e : (iL xs)[i] = .int xs[i] := by simp [iL]
    rw [e]
    have b := hb xs[i] (List.getElem_mem _)
    exact h _ _ ho' b.1 b.2
example : shD (.str "told") = true := by decide +kernel
end
end Pl

set_option Elab.async false
set_option linter.all false
set_option maxRecDepth 100000
set_option maxHeartbeats 4000000
namespace Pl
open PySem PySem.Spec PyProof.Rows L2 Mp
def m_is_integer : MF := mDef 1 false
    ((mRet (mAndV (mN fIsi (mCons (mVar 0) (mCons (mC (.ty "int")) mNil))) (mNotV (mN fIsi (mCons (mVar 0) (mCons (mC (.ty "bool")) mNil)))))))
def m__law_octet_row : MF := mDef 6 false
    ((mSeq (mAsg (mCall 3 m__law_count [] (mCons (mVar 0) (mCons (mVar 1) (mCons (mVar 2) mNil)))) (mgName 3))
    (mSeq (mIfS (mTest (m2 (fI0 fun i j => .bl (decide (j < i))) (mVar 3) (mC (.int 12)))) (mSeq (mAsg (mMulM (mLst (mCons (mCall 1 m__law_octet [] (mCons (mVar 0) mNil)) mNil)) (mVar 3)) (mgName 4))
    (mSeq (mAsg (mCall 1 m__law_octet [] (mCons (mVar 0) mNil)) (mgSub (mVar 4) (mCall 2 m__law_take [] (mCons (mVar 0) (mCons (mVar 3) mNil)))))
    (mRet (mVar 4)))) mNext)
    (mRet (mLc (miRng f1R (mCons (mVar 3) mNil)) (mgName 5) mYes (mCall 1 m__law_octet [] (mCons (mVar 0) mNil)) [5])))))
def m__law_near_row : MF := mDef 7 false
    ((mSeq (mAsg (mListM (mCons (mVar 1) mNil)) (mgName 3))
    (mSeq (mAsg (mCall 2 m__law_take [] (mCons (mVar 0) (mCons (mC (.int 7)) mNil))) (mgName 4))
    (mSeq (mAsg (mCall 2 m__law_take [] (mCons (mVar 0) (mCons (m2 fAdd (mN fLen (mCons (mVar 1) mNil)) (mC (.int 1))) mNil))) (mgName 5))
    (mSeq (mAsg (m2 (fI (fun _ j => 0 < j) fun i j => .int (i % j)) (mN fInt (mCons (mCall 1 m__law_octet [] (mCons (mVar 0) mNil)) mNil)) (m2 fAdd (mVar 2) (mC (.int 1)))) (mgName 6))
    (mSeq (mIfS (mAnd (mTest (m2 fEq (mVar 4) (mC (.int 0)))) (mTest (m2 (fI0 fun i j => .bl (decide (i < j))) (mVar 5) (mN fLen (mCons (mVar 3) mNil))))) (mAsg (mVar 6) (mgSub (mVar 3) (mVar 5))) mNext)
    (mSeq (mIfS (mAnd (mTest (m2 fEq (mVar 4) (mC (.int 1)))) (mTest (m2 (fI0 fun i j => .bl (decide (i < j))) (mVar 5) (mN fLen (mCons (mVar 3) mNil))))) (mAsg (m2 (fI (fun _ j => 0 < j) fun i j => .int (i % j)) (mN fInt (mCons (m2 fAdd (m2 fIx (mVar 3) (mVar 5)) (mC (.int 1))) mNil)) (m2 fAdd (mVar 2) (mC (.int 1)))) (mgSub (mVar 3) (mVar 5))) mNext)
    (mSeq (mIfS (mTest (m2 fEq (mVar 4) (mC (.int 2)))) (mAsg (mAddM (mSl (mVar 3) moNone (moSome (mVar 5))) (mSl (mVar 3) (moSome (m2 fAdd (mVar 5) (mC (.int 1)))) moNone)) (mgName 3)) mNext)
    (mSeq (mIfS (mTest (m2 fEq (mVar 4) (mC (.int 3)))) (mAsg (mAddM (m2 fAdd (mSl (mVar 3) moNone (moSome (mVar 5))) (mLst (mCons (mVar 6) mNil))) (mSl (mVar 3) (moSome (mVar 5)) moNone)) (mgName 3)) mNext)
    (mSeq (mIfS (mTest (m2 fEq (mVar 4) (mC (.int 4)))) (mAsg (mSlM (mVar 3) moNone (moSome (mVar 5))) (mgName 3)) mNext)
    (mSeq (mIfS (mTest (m2 fEq (mVar 4) (mC (.int 5)))) (mAsg (mAddM (mVar 3) (mLst (mCons (mVar 6) mNil))) (mgName 3)) mNext)
    (mSeq (mIfS (mAnd (mTest (m2 fEq (mVar 4) (mC (.int 6)))) (mTest (m2 (fI0 fun i j => .bl (decide (i < j))) (m2 fAdd (mVar 5) (mC (.int 1))) (mN fLen (mCons (mVar 3) mNil))))) (mAsg (mAddM (m2 fAdd (mSl (mVar 3) moNone (moSome (mVar 5))) (mLst (mCons (m2 fIx (mVar 3) (m2 fAdd (mVar 5) (mC (.int 1)))) (mCons (m2 fIx (mVar 3) (mVar 5)) mNil)))) (mSl (mVar 3) (moSome (m2 fAdd (mVar 5) (mC (.int 2)))) moNone)) (mgName 3)) mNext)
    (mRet (mVar 3))))))))))))))
def m__law_chain : MF := mDef 4 false
    ((mSeq (mAsg (mLst (mCons (m2 (fI (fun _ j => 0 < j) fun i j => .int (i % j)) (mN fInt (mCons (mVar 0) mNil)) (mC (.int 128))) mNil)) (mgName 1))
    (mSeq (mAsg (m2 (fI CDivW fun i j => .int (i / j)) (mVar 0) (mC (.int 128))) (mgName 2))
    (mSeq (mFor (miRng f1R (mCons (mC (.int 9)) mNil)) (mgName 3) (mSeq (mIfS (mTest (m2 fEq (mVar 2) (mC (.int 0)))) (mRet (mVar 1)) mNext)
    (mSeq (mAsg (m2 fAdd (mLst (mCons (m2 fAdd (mC (.int 128)) (m2 (fI (fun _ j => 0 < j) fun i j => .int (i % j)) (mN fInt (mCons (mVar 2) mNil)) (mC (.int 128)))) mNil)) (mVar 1)) (mgName 1))
    (mAsg (m2 (fI CDivW fun i j => .int (i / j)) (mVar 2) (mC (.int 128))) (mgName 2)))))
    (mRet (mVar 1))))))
def m_octet_at : MF := mDef 2 false
    ((mSeq (mIfS (mTest (m2 (fI0 fun i j => .bl (decide (j ≤ i))) (mVar 1) (mN fLen (mCons (mVar 0) mNil)))) (mRaise "Ended" (mN fLen (mCons (mVar 0) mNil))) mNext)
    (mRet (m2 fIx (mVar 0) (mVar 1)))))
def m_chain_octets : MF := mDef 3 false
    ((mSeq (mAsg (mLstM (mCons (m2 (fI0 fun i j => .int (Builtin.bitAnd i j)) (mVar 0) (mC (.int 127))) mNil)) (mgName 1))
    (mSeq (mAsg (m2 (fI (fun _ j => 0 ≤ j) fun i j => .int (i / 2 ^ j.toNat)) (mVar 0) (mC (.int 7))) (mgName 2))
    (mSeq (mWhile (mTest (m2 (fI0 fun i j => .bl (decide (j < i))) (mVar 2) (mC (.int 0)))) (mSeq (mDrop (mMeth false fAppend (mVar 1) (mCons (m2 fAdd (mC (.int 128)) (m2 (fI0 fun i j => .int (Builtin.bitAnd i j)) (mVar 2) (mC (.int 127)))) mNil)))
    (mAsg (m2 (fI (fun _ j => 0 ≤ j) fun i j => .int (i / 2 ^ j.toNat)) (mVar 2) (mC (.int 7))) (mgName 2))))
    (mRet (mRev (mVar 1)))))))
end Pl

set_option Elab.async false
set_option linter.all false
set_option maxRecDepth 100000
set_option maxHeartbeats 400000
namespace Pl
open PySem PySem.Spec PyProof.Rows L2 Mp
section
variable {hp : List O} {n : Nat} {o : O} {R : S → List O → Prop} {Xp : MX}
theorem drop_some {g : List Int} {i : Nat} (h : i < g.length) : g.drop i = g[i] :: g.drop (i + 1) := List.drop_eq_getElem_cons h
theorem drop_none {g : List Int} {i : Nat} (h : ¬ i < g.length) : g.drop i = [] := List.drop_eq_nil_of_le (by omega)
theorem lg {z : Nat} (h : z < 2 ^ 60) : z.log2 < 1920 := by
  by_cases e : z = 0
  · rw [e]; decide
  · exact Nat.lt_trans ((Nat.log2_lt e).mpr h) (by decide)
theorem sp_octet_at {s : S} {g : List Int} {p : Nat} {tg : Tg (m_octet_at, R, Xp)} (hv : val hp s = some (.lst (iL g))) (hl : g.length < 2 ^ 50)
    (h : if p < g.length then R (.d (.int (g[p]?.getD 0))) hp else Xp ⟨"Ended", [("place", .int g.length)]⟩ hp) : mfH m_octet_at hp [s, .d (.int p)] R Xp tg := by
  refine mfH_of ?_
  unfold m_octet_at
  simp [hv]
  refine brH_of (fun hz => ?_) (fun hz => ?_)
  · have hz := of_decide_eq_true hz
    rw [if_neg (by omega)] at h
    simp [hv]
    exact ⟨lg (by omega), h⟩
  · have hz := of_decide_eq_false hz
    rw [if_pos (by omega)] at h
    have a1 : atI g (p : Int) = some (g[p]?.getD 0) := by
      rw [atI_nat (by omega) (by omega)]
      have hp : p < g.length := by omega
      simp [hp]
    simp [hv, a1]
    exact h
def hiC : Nat → Int → List Int
  | 0, _ => []
  | f + 1, m => if m ≤ 0 then [] else hiC f (m / 128) ++ [128 + m % 128]
def chn (x : Int) : List Int := hiC 9 (x / 128) ++ [x % 128]
theorem hiC_zero (f : Nat) {m : Int} (h : m ≤ 0) : hiC f m = [] := by
  cases f with
  | zero => rfl
  | succ f => exact if_pos h
theorem hiC_succ {f : Nat} {m : Int} (h : 0 < m) : hiC (f + 1) m = hiC f (m / 128) ++ [128 + m % 128] := if_neg (by omega)
theorem hiC_bd : ∀ (f : Nat) (m : Int), Bd 128 255 (hiC f m)
  | 0, _ => Bd.nil
  | f + 1, m => by
    by_cases h : m ≤ 0
    · rw [hiC_zero _ h]; exact Bd.nil
    · rw [hiC_succ (by omega)]
      exact (hiC_bd f _).app (by omega) (by omega)
theorem hiC_len : ∀ (f : Nat) (m : Int) (k : Nat), m < 128 ^ k → (hiC f m).length ≤ k
  | 0, _, _, _ => Nat.zero_le _
  | f + 1, m, k, hk => by
    by_cases h : m ≤ 0
    · rw [hiC_zero _ h]; exact Nat.zero_le _
    · rw [hiC_succ (by omega), List.length_append, List.length_singleton]
      cases k with
      | zero => simp at hk; omega
      | succ k =>
        have := hiC_len f (m / 128) k (by rw [Int.pow_succ] at hk; omega)
        omega
theorem chn_bd {x : Int} : Bd 0 255 (chn x) := Bd.app (fun z hz => by have := hiC_bd 9 (x / 128) z hz; omega) (by omega) (by omega)
theorem chn_len {x : Int} (h1 : x < 2 ^ 63) : 1 ≤ (chn x).length ∧ (chn x).length ≤ 9 := by
  have b8 : x / 128 < 128 ^ 8 := by omega
  have hl := hiC_len 9 (x / 128) 8 b8
  unfold chn
  rw [List.length_append, List.length_singleton]
  omega
theorem sp_chain_octets {x : Int} {tg : Tg (m_chain_octets, R, Xp)} (h0 : 0 ≤ x) (h1 : x < 2 ^ 63) (h : R (.d (.lst (iL (chn x)))) hp) : mfH m_chain_octets hp [.d (.int x)] R Xp tg := by
  refine mfH_of ?_
  unfold m_chain_octets
  simp
  rw [bitAnd_m7]
  refine whileH_of (fun m hp' env' => ∃ (rest : Int) (ds : List Int), hp' = hp ++ [.lst (iL ds)] ∧ env' = [some (.d (.int x)), some (.mu hp.length), some (.d (.int rest))] ∧ hiC m rest ++ ds.reverse = chn x ∧ rest < 128 ^ m ∧ m + ds.length = 10) 9 ⟨x / 128, [x % 128], rfl, rfl, rfl, by omega, rfl⟩ ?_
  rintro m _ _ N ⟨rest, ds, rfl, rfl, e, hr, hm⟩ hN
  simp
  refine brH_of (fun hz => ?_) (fun hz => ?_)
  · have hz := of_decide_eq_true hz
    cases m with
    | zero => simp at hr; omega
    | succ m =>
      rw [hiC_succ (by omega)] at e
      simp
      refine ⟨by omega, hN m _ _ (by omega) ⟨rest / 128, ds ++ [128 + rest % 128], by rw [bitAnd_m7], rfl, ?_, ?_, by simp; omega⟩⟩
      · rw [← e]
        simp
      · rw [Int.pow_succ] at hr
        omega
  · have hz := of_decide_eq_false hz
    rw [hiC_zero _ (by omega)] at e
    simp
    rw [List.nil_append] at e
    rw [e]
    exact h
theorem sp_chain {x : Int} {tg : Tg (m__law_chain, R, Xp)} (h0 : 0 ≤ x) (h1 : x < 2 ^ 63) (h : R (.d (.lst (iL (chn x)))) hp) : mfH m__law_chain hp [.d (.int x)] R Xp tg := by
  refine mfH_of ?_
  unfold m__law_chain
  simp
  refine forH_rng (fun i hp' env' => hp = hp' ∧ ∃ (rest : Int) (row : List Int) (z : Option S), env' = [some (.d (.int x)), some (.d (.lst (iL row))), some (.d (.int rest)), z] ∧ hiC (9 - i) rest ++ row = chn x ∧ 0 ≤ rest ∧ rest < 128 ^ (8 - i) ∧ row.length = i + 1 ∧ i ≤ 8) ⟨rfl, x / 128, [x % 128], _, rfl, rfl, by omega, by omega, rfl, by omega⟩ ?_ ?_
  · rintro i _ _ N hi ⟨rfl, rest, row, z, rfl, e, hr0, hr, hlr, hi8⟩ hN
    simp
    refine brH_of (fun hz => ?_) (fun hz => ?_)
    · have hz := of_decide_eq_true hz
      rw [hiC_zero _ (by omega), List.nil_append] at e
      simp
      rw [e]
      exact h
    · have hz := of_decide_eq_false hz
      have hi7 : i < 8 := by
        by_cases c : i < 8
        · exact c
        · have e8 : 8 - i = 0 := by omega
          rw [e8] at hr
          simp at hr
          omega
      obtain ⟨m, hm⟩ : ∃ m, 8 - i = m + 1 := ⟨7 - i, by omega⟩
      rw [hm, Int.pow_succ] at hr
      rw [show 9 - i = (m + 1) + 1 by omega, hiC_succ (by omega)] at e
      simp
      refine ⟨by omega, hN _ _ ⟨rfl, rest / 128, (128 + rest % 128) :: row, _, rfl, ?_, by omega, ?_, by simp; omega, by omega⟩⟩
      · rw [show 9 - (i + 1) = m + 1 by omega, ← e]
        simp
      · rw [show 8 - (i + 1) = m by omega]
        omega
  · rintro _ _ ⟨rfl, rest, row, z, rfl, e, hr0, hr, hlr, hi8⟩
    exact absurd hi8 (by omega)
theorem rep_ints {x : Int} : ∀ k : Nat, (List.replicate k [D.int x]).flatten = iL (List.replicate k x)
  | 0 => rfl
  | k + 1 => by rw [List.replicate_succ, List.flatten_cons, rep_ints k]; rfl
theorem sp_octet_rowW {few many : Int} {tg : Tg (m__law_octet_row, R, Xp)} (ho : hp[n]? = some o) (hs : St o) (h1 : 0 ≤ few) (h2 : 0 ≤ many) (h3 : few ≤ 100000) (h4 : many ≤ 100000) (h : ∀ (g : List Int) o', St o' → Bd 0 255 g → ((g.length : Int) ≤ few ∨ (g.length : Int) ≤ many) → R (.d (.lst (iL g))) (hp.set n o')) : mfH m__law_octet_row hp [.mu n, .d (.int few), .d (.int many)] R Xp tg := by
  have hn : n < hp.length := (List.getElem?_eq_some_iff.mp ho).1
  refine mfH_of ?_
  unfold m__law_octet_row
  simp
  refine s_count ho hs (by omega) (by omega) h1 h2 fun r o1 ho1 r0 r1 => ?_
  simp
  refine brH_of (fun hz => ?_) (fun hz => ?_)
  · have hz := of_decide_eq_true hz
    have hr : r ≤ 100000 := by omega
    obtain ⟨k, rfl⟩ := Int.eq_ofNat_of_zero_le r0
    simp
    refine s_octet (List.getElem?_set_self hn) ho1 fun x o2 ho2 x0 x1 => ?_
    rw [List.set_set]
    have kb1 : (-9223372036854775808 : Int) ≤ k := by omega
    have kb2 : (k : Int) < 9223372036854775808 := by omega
    have kb3 : k ≤ 16777216 := by omega
    simp [kb1, kb2, kb3]
    have a3 : (hp.set n o2 ++ [O.lst (iL (List.replicate k x))])[n]? = some o2 := app_at3 hn
    refine s_octet a3 ho2 fun y o3 ho3 y0 y1 => ?_
    rw [app_set4 hn]
    simp
    have a4 : (hp.set n o3 ++ [O.lst (iL (List.replicate k x))])[n]? = some o3 := app_at3 hn
    refine s_take a4 ho3 (by omega) fun z o4 ho4 z0 z1 z2 => ?_
    rw [app_set4 hn]
    obtain ⟨z, rfl⟩ := Int.eq_ofNat_of_zero_le z0
    have hz1 : z < k := by omega
    have e1 : ixN k (z : Int) = some z := (ixN_nat (by omega) (by omega)).trans (by simp)
    simp [e1]
    refine h _ _ ho4 (fun w hw => ?_) (by simpa using r1)
    rcases List.mem_or_eq_of_mem_set hw with q | q
    · rw [List.eq_of_mem_replicate q]; exact ⟨x0, x1⟩
    · rw [q]; exact ⟨y0, y1⟩
  · have hz := of_decide_eq_false hz
    obtain ⟨k, rfl⟩ := Int.eq_ofNat_of_zero_le r0
    simp
    refine ⟨by omega, ?_⟩
    refine compH_of (ds := rng 0 1 k) (fun acc r hp' => ∃ o' g, hp' = hp.set n o' ∧ St o' ∧ acc = iL g ∧ Bd 0 255 g ∧ g.length + r.length = k) (by rw [rng_len]; show k ≤ 16777216; omega) ⟨o1, [], rfl, ho1, rfl, Bd.nil, by rw [rng_len]; simp⟩ ?_ ?_
    · rintro acc d r _ N ⟨o', g, rfl, ho', rfl, hb, hl⟩ hN
      simp
      refine s_octet (List.getElem?_set_self hn) ho' fun x o2 ho2 x0 x1 => ?_
      rw [List.set_set]
      simp
      refine hN _ _ trivial ⟨o2, g ++ [x], rfl, ho2, by simp [iL], hb.app x0 x1, by simp at hl ⊢; omega⟩
    · rintro acc _ ⟨o', g, rfl, ho', rfl, hb, hl⟩
      simp at hl
      simp
      exact h g o' ho' hb (by omega)
theorem sp_octet_row {few many : Int} {tg : Tg (m__law_octet_row, R, Xp)} (ho : hp[n]? = some o) (hs : St o) (h1 : 0 ≤ few) (h2 : 0 ≤ many) (h3 : few ≤ 300) (h4 : many ≤ 300) (h : ∀ (g : List Int) o', St o' → Bd 0 255 g → g.length ≤ 300 → R (.d (.lst (iL g))) (hp.set n o')) : mfH m__law_octet_row hp [.mu n, .d (.int few), .d (.int many)] R Xp tg :=
  sp_octet_rowW ho hs h1 h2 (by omega) (by omega) fun g o' q1 q2 q3 => h g o' q1 q2 (by omega)
theorem cut_ints (g : List Int) (lo hi : Option Int) : ∃ g' : List Int, cutD (iL g) lo hi = iL g' ∧ g'.length ≤ g.length ∧ ∀ a b, Bd a b g → Bd a b g' :=
  ⟨_, cutD_map, by rw [List.length_take, List.length_drop]; omega, fun a b h z hz => h z (List.mem_of_mem_drop (List.mem_of_mem_take hz))⟩
theorem bd_set {a b v : Int} {g : List Int} {k : Nat} (h : Bd a b g) (h1 : a ≤ v) (h2 : v ≤ b) : Bd a b (g.set k v) := fun z hz => by
  rcases List.mem_or_eq_of_mem_set hz with q | q
  · exact h z q
  · rw [q]; exact ⟨h1, h2⟩
theorem bd_app {a b : Int} {g g' : List Int} (h : Bd a b g) (h' : Bd a b g') : Bd a b (g ++ g') := fun z hz => (List.mem_append.mp hz).elim (h z) (h' z)
theorem ret2 {x : O} {ds : List D} {A : Prop} {t1 : Tg R} {B : Prop} {t2 : Tg (A, B)} (hB : B = retO hp.length R (hp.set n o ++ [x] ++ [.lst ds]) (hp.set n o ++ [x] ++ [.lst ds])[hp.length + 1]? t1) (h : R (.d (.lst ds)) (hp.set n o)) : brH (decide (hp.length + 1 < hp.length)) A B t2 := by
  subst hB
  refine brH_of (fun hz => absurd (of_decide_eq_true hz) (by omega)) (fun _ => ?_)
  have q : (hp.set n o ++ [x] ++ [O.lst ds])[hp.length + 1]? = some (O.lst ds) := by
    rw [List.getElem?_append_right (by simp)]
    simp
  rw [q]
  simp
  exact h
theorem sp_near_row {s : S} {g : List Int} {tg : Tg (m__law_near_row, R, Xp)} (ho : hp[n]? = some o) (hs : St o) (hv : val hp s = some (.lst (iL g))) (hv2 : ∀ o', val (hp.set n o') s = some (.lst (iL g))) (hl : g.length < 2 ^ 20) (hbd : Bd 0 255 g) (h : ∀ (g' : List Int) o', St o' → Bd 0 255 g' → g'.length ≤ 3 * g.length + 10 → R (.d (.lst (iL g'))) (hp.set n o')) : mfH m__law_near_row hp [.mu n, s, .d (.int 255)] R Xp tg := by
  have hn : n < hp.length := (List.getElem?_eq_some_iff.mp ho).1
  have a0 : ∀ (o' : O) (l : List O), (hp.set n o' ++ l)[n]? = some o' := fun o' l => app_at3 hn
  refine mfH_of ?_
  unfold m__law_near_row
  simp [-x_seq]
  rw [x_seq]
  simp [-x_seq, hv]
  rw [x_seq]
  simp [-x_seq]
  have a1 : (hp ++ [O.lst (iL g)])[n]? = some o := by rw [List.getElem?_append_left hn]; exact ho
  refine s_take a1 hs (by omega) fun d1 o1 ho1 d10 d11 _ => ?_
  rw [app_set3 hn]
  simp [-x_seq]
  rw [x_seq]
  have v1 : val (hp.set n o1 ++ [O.lst (iL g)]) s = some (.lst (iL g)) := val_app (hv2 _)
  simp [-x_seq, v1]
  refine s_take (a0 _ _) ho1 (by omega) fun d2 o2 ho2 d20 d21 _ => ?_
  rw [app_set4 hn]
  simp [-x_seq]
  rw [x_seq]
  simp [-x_seq]
  refine s_octet (a0 _ _) ho2 fun d3 o3 ho3 d30 d31 => ?_
  rw [app_set4 hn]
  simp [-x_seq]
  obtain ⟨p, rfl⟩ := Int.eq_ofNat_of_zero_le d20
  have hp1 : p ≤ g.length := by omega
  have fin : ∀ g' : List Int, Bd 0 255 g' → g'.length ≤ 3 * g.length + 10 → R (.d (.lst (iL g'))) (hp.set n o3) := fun g' => h g' o3 ho3
  have b1 : ∀ v : Int, Bd 0 255 [v % 256] := fun v z hz => by simp at hz; omega
  have h7 : d1 = 0 ∨ d1 = 1 ∨ d1 = 2 ∨ d1 = 3 ∨ d1 = 4 ∨ d1 = 5 ∨ d1 = 6 := by omega
  rcases h7 with rfl | rfl | rfl | rfl | rfl | rfl | rfl
  · by_cases c : p < g.length
    · have e1 : ixN g.length (p : Int) = some p := (ixN_nat (by omega) (by omega)).trans (by simp)
      simp [c, e1]
      exact fin _ (bd_set hbd (by omega) (by omega)) (by simp; omega)
    · simp [c]
      exact fin g hbd (by omega)
  · by_cases c : p < g.length
    · have e1 : ixN g.length (p : Int) = some p := (ixN_nat (by omega) (by omega)).trans (by simp)
      have e2 : atI g (p : Int) = some g[p] := by
        rw [atI_nat (by omega) (by omega)]
        simp only [Int.toNat_natCast]
      simp [c, e1, e2]
      exact fin _ (bd_set hbd (by omega) (by omega)) (by simp; omega)
    · simp [c]
      exact fin g hbd (by omega)
  · obtain ⟨g1, e1, l1, q1⟩ := cut_ints g none (some (p : Int))
    obtain ⟨g2, e2, l2, q2⟩ := cut_ints g (some ((p : Int) + 1)) none
    simp [e1, e2]
    refine ⟨by omega, ret2 rfl ?_⟩
    rw [e2, show iL g1 ++ iL g2 = iL (g1 ++ g2) by simp [iL]]
    exact fin _ (bd_app (q1 _ _ hbd) (q2 _ _ hbd)) (by simp; omega)
  · obtain ⟨g1, e1, l1, q1⟩ := cut_ints g none (some (p : Int))
    obtain ⟨g2, e2, l2, q2⟩ := cut_ints g (some (p : Int)) none
    simp [e1, e2]
    refine ⟨by omega, by omega, ret2 rfl ?_⟩
    rw [e2, show iL (g1 ++ [d3 % 256]) ++ iL g2 = iL (g1 ++ [d3 % 256] ++ g2) by simp [iL]]
    exact fin _ (bd_app (bd_app (q1 _ _ hbd) (b1 _)) (q2 _ _ hbd)) (by simp; omega)
  · obtain ⟨g1, e1, l1, q1⟩ := cut_ints g none (some (p : Int))
    simp [e1]
    refine ret2 rfl ?_
    rw [e1]
    exact fin g1 (q1 _ _ hbd) (by omega)
  · simp
    refine ⟨by omega, ret2 rfl ?_⟩
    rw [show iL g ++ [D.int (d3 % 256)] = iL (g ++ [d3 % 256]) by simp [iL]]
    exact fin _ (bd_app hbd (b1 _)) (by simp; omega)
  · by_cases c : p + 1 < g.length
    · obtain ⟨g1, e1, l1, q1⟩ := cut_ints g none (some (p : Int))
      obtain ⟨g2, e2, l2, q2⟩ := cut_ints g (some ((p : Int) + 2)) none
      have a2 : atI g (p : Int) = some g[p] := by
        rw [atI_nat (by omega) (by omega)]
        simp only [Int.toNat_natCast]
      have a3 : atI g ((p : Int) + 1) = some g[p + 1] := by
        rw [show (p : Int) + 1 = ((p + 1 : Nat) : Int) by omega, atI_nat (by omega) (by omega)]
        simp only [Int.toNat_natCast]
      have c2 : (p : Int) + 1 < g.length := by omega
      simp [c2, a2, a3, e1, e2]
      refine ⟨by omega, by omega, ret2 rfl ?_⟩
      rw [e2, show iL g1 ++ [D.int g[p + 1], D.int g[p]] ++ iL g2 = iL (g1 ++ [g[p + 1], g[p]] ++ g2) by simp [iL]]
      exact fin _ (bd_app (bd_app (q1 _ _ hbd) (fun z hz => by
        simp only [List.mem_cons, List.not_mem_nil, or_false] at hz
        rcases hz with rfl | rfl
        · exact hbd _ (List.getElem_mem _)
        · exact hbd _ (List.getElem_mem _))) (q2 _ _ hbd)) (by simp; omega)
    · have c2 : ¬ (p : Int) + 1 < g.length := by omega
      simp [c2]
      exact fin g hbd (by omega)
theorem pl_ints {k : Nat} {g : List Int} (h : g.length ≤ 1000000) : plD (k + 2) (.lst (iL g)) = true := by
  show (decide ((iL g).length ≤ 1000000) && (iL g).all (plD (k + 1))) = true
  rw [Bool.and_eq_true]
  refine ⟨decide_eq_true (by simpa using h), List.all_eq_true.mpr fun d hd => ?_⟩
  obtain ⟨z, _, rfl⟩ := List.mem_map.mp hd
  rfl
theorem cut_take {g : List Int} {k : Nat} (h : k ≤ g.length) : Mp.cutD (iL g) none (some (k : Int)) = iL (g.take k) := by
  rw [cutD_map, sIx_at (by omega)]
  simp [Nat.min_eq_left h]
end
end Pl

set_option Elab.async false
set_option linter.all false
set_option maxRecDepth 100000
set_option maxHeartbeats 400000
namespace Pl
open PySem PySem.Spec PyProof.Rows L2 Mp
section
variable {hp : List O} {n : Nat} {o : O} {R : S → List O → Prop} {Xp : MX}
def isI : D → Bool
  | .int _ => true
  | _ => false
def noTy : D → Bool
  | .ty _ => false
  | _ => true
theorem sp_is_integer {s : S} {d : D} {tg : Tg (m_is_integer, R, Xp)} (hv : val hp s = some d) (hd : noTy d = true) (h : R (.d (.bl (isI d))) hp) : mfH m_is_integer hp [s] R Xp tg := by
  refine mfH_of ?_
  unfold m_is_integer
  cases d <;> first | (simp [hv]; exact h) | cases hd
/-- short chains -/
theorem chn2 {v : Int} (h0 : 0 ≤ v) (h1 : v ≤ 16383) : chn v = if v < 128 then [v] else [128 + v / 128, v % 128] := by
  unfold chn
  by_cases c : v < 128
  · rw [if_pos c, hiC_zero _ (by omega), List.nil_append, show v % 128 = v by omega]
  · rw [if_neg c, hiC_succ (by omega), hiC_zero _ (by omega), show v / 128 % 128 = v / 128 by omega]
    rfl
theorem atx {g : List Int} {a k : Nat} (h : a + k < g.length) : atI g ((a : Int) + k) = some g[a + k] := by
  rw [show (a : Int) + k = ((a + k : Nat) : Int) by omega, atI_nat (by omega) (by omega)]
  simp only [Int.toNat_natCast]
theorem at0 {g : List Int} {a : Nat} (h : a < g.length) : atI g (a : Int) = some g[a] := by
  rw [atI_nat (by omega) (by omega)]
  simp only [Int.toNat_natCast]
theorem cut_mid {g : List Int} {a b : Nat} : Mp.cutD (iL g) (some (a : Int)) (some (b : Int)) = iL ((g.drop a).take (b - a)) := by
  rw [cutD_map, sIx_at (by omega), sIx_at (by omega)]
  congr 1
  simp only [Int.toNat_natCast]
  by_cases h : a < g.length
  · rw [show min a g.length = a by omega]
    refine List.take_eq_take_iff.mpr ?_
    rw [List.length_drop]
    omega
  · rw [show min a g.length = g.length by omega, List.drop_length, List.drop_eq_nil_of_le (by omega)]
    simp
theorem cut_from {g : List Int} {a : Nat} : Mp.cutD (iL g) (some (a : Int)) none = iL (g.drop a) := by
  rw [cutD_map, sIx_at (by omega), sIx_none]
  congr 1
  simp only [Int.toNat_natCast]
  by_cases h : a < g.length
  · rw [show min a g.length = a by omega]
    rw [List.take_of_length_le (by rw [List.length_drop]; omega)]
  · rw [show min a g.length = g.length by omega, List.drop_length, List.drop_eq_nil_of_le (by omega)]
    simp
theorem at_last {τ : Type} {xs : List τ} {y : τ} : atI (xs ++ [y]) (-1) = some y := by
  unfold atI
  rw [ixN_last (by simp)]
  simp
theorem retN {m k : Nat} {A : Prop} {hp1 : List O} {X : Option O} {t1 : Tg R} {t2 : Tg (A, retO m R hp1 X t1)} {ds : List D} (hk : ¬ k < m) (q : X = some (.lst ds)) (h : R (.d (.lst ds)) (hp1.take m)) : brH (decide (k < m)) A (retO m R hp1 X t1) t2 := by
  subst q
  exact brH_of (fun hz => absurd (of_decide_eq_true hz) hk) fun _ => h
theorem pick_memD {xs : List D} {tg : Tg (m__law_pick, R, Xp)} (ho : hp[n]? = some o) (hs : St o) (h0 : 0 < xs.length) (h1 : xs.length < 2 ^ 60) (h : ∀ (d : D) o', St o' → d ∈ xs → R (.d d) (hp.set n o')) : mfH m__law_pick hp [.mu n, .d (.lst xs)] R Xp tg :=
  s_pick ho hs h0 h1 fun i hi o' ho' => h _ _ ho' (List.getElem_mem _)
theorem pick_mem {xs : List Int} {tg : Tg (m__law_pick, R, Xp)} (ho : hp[n]? = some o) (hs : St o) (h0 : 0 < xs.length) (h1 : xs.length < 2 ^ 60) (h : ∀ (x : Int) o', St o' → x ∈ xs → R (.d (.int x)) (hp.set n o')) : mfH m__law_pick hp [.mu n, .d (.lst (iL xs))] R Xp tg :=
  pick_memD ho hs (by simpa using h0) (by simpa using h1) fun d o' ho' hd => by
    obtain ⟨x, hx, rfl⟩ := List.mem_map.mp hd
    exact h x o' ho' hx
end
end Pl

set_option Elab.async false
set_option linter.all false
set_option maxRecDepth 100000
set_option maxHeartbeats 4000000
namespace Pl
open PySem PySem.Spec PyProof.Rows L2 Mp
def m__law_tag : MF := mDef 4 false
    ((mSeq (mAsg (mCall 2 m__law_take [] (mCons (mVar 0) (mCons (mC (.int 3)) mNil))) (mgName 1))
    (mSeq (mAsg (mCall 2 m__law_take [] (mCons (mVar 0) (mCons (mC (.int 4)) mNil))) (mgName 2))
    (mSeq (mAsg (mCall 2 m__law_take [] (mCons (mVar 0) (mCons (mC (.int 40)) mNil))) (mgName 3))
    (mSeq (mIfS (mTest (m2 fEq (mVar 1) (mC (.int 1)))) (mAsg (mCall 2 m__law_pick [] (mCons (mVar 0) (mCons (mLst (mCons (mC (.int 0)) (mCons (mC (.int 1)) (mCons (mC (.int 29)) (mCons (mC (.int 30)) (mCons (mC (.int 31)) (mCons (mC (.int 32)) (mCons (mC (.int 126)) (mCons (mC (.int 127)) (mCons (mC (.int 128)) (mCons (mC (.int 129)) (mCons (mC (.int 16382)) (mCons (mC (.int 16383)) mNil))))))))))))) mNil))) (mgName 3)) mNext)
    (mSeq (mIfS (mTest (m2 fEq (mVar 1) (mC (.int 2)))) (mAsg (mCall 2 m__law_take [] (mCons (mVar 0) (mCons (mC (.int 16384)) mNil))) (mgName 3)) mNext)
    (mSeq (mIfS (mAnd (mTest (m2 fEq (mVar 2) (mC (.int 0)))) (mTest (m2 fEq (mVar 3) (mC (.int 0))))) (mRet (mTup (mCons (mC (.int 0)) (mCons (mC (.int 1)) mNil)))) mNext)
    (mRet (mTup (mCons (mVar 2) (mCons (mVar 3) mNil)))))))))))
def b__law_plan (z_self : MF) : MF := mDef 8 false
    ((mSeq (mAsg (mCall 1 m__law_tag [] (mCons (mVar 0) mNil)) (mgName 3))
    (mSeq (mIfS (mOr (mTest (m2 (fI0 fun i j => .bl (decide (i < j))) (mVar 1) (mC (.int 1)))) (mTest (m2 fEq (mCall 2 m__law_take [] (mCons (mVar 0) (mCons (mC (.int 5)) mNil))) (mC (.int 0))))) (mSeq (mAsg (mCall 2 m__law_take [] (mCons (mVar 0) (mCons (mC (.int 4)) mNil))) (mgName 4))
    (mSeq (mIfS (mTest (m2 fEq (mCall 2 m__law_take [] (mCons (mVar 0) (mCons (mC (.int 8)) mNil))) (mC (.int 7)))) (mAsg (mCall 2 m__law_pick [] (mCons (mVar 0) (mCons (mLst (mCons (mC (.int 126)) (mCons (mC (.int 127)) (mCons (mC (.int 128)) (mCons (mC (.int 129)) (mCons (mC (.int 255)) (mCons (mC (.int 256)) (mCons (mC (.int 257)) (mCons (mVar 2) mNil))))))))) mNil))) (mgName 4)) mNext)
    (mSeq (mAsg (mN (fMM (fun i j => if j > i then j else i)) (mCons (mC (.int 0)) (mCons (mN (fMM (fun i j => if j < i then j else i)) (mCons (mVar 4) (mCons (mVar 2) mNil))) mNil))) (mgName 4))
    (mSeq (mAsg (mMulM (mLst (mCons (mCall 1 m__law_octet [] (mCons (mVar 0) mNil)) mNil)) (mVar 4)) (mgName 5))
    (mSeq (mIfS (mTest (m2 (fI0 fun i j => .bl (decide (j < i))) (mVar 4) (mC (.int 0)))) (mAsg (mCall 1 m__law_octet [] (mCons (mVar 0) mNil)) (mgSub (mVar 5) (mCall 2 m__law_take [] (mCons (mVar 0) (mCons (mVar 4) mNil))))) mNext)
    (mRet (mTup (mCons (mC (.str "plain")) (mCons (mVar 3) (mCons (mN fTuple (mCons (mVar 5) mNil)) (mCons (mCall 2 m__law_take [] (mCons (mVar 0) (mCons (mC (.int 5)) mNil))) mNil))))))))))) mNext)
    (mSeq (mAsg (mLstM mNil) (mgName 6))
    (mSeq (mFor (miRng f1R (mCons (mCall 2 m__law_take [] (mCons (mVar 0) (mCons (mC (.int 4)) mNil))) mNil)) (mgName 7) (mDrop (mMeth false fAppend (mVar 6) (mCons (mCall 3 z_self [] (mCons (mVar 0) (mCons (m2 (fI0 fun i j => .int (i - j)) (mVar 1) (mC (.int 1))) (mCons (m2 (fI CDivW fun i j => .int (i / j)) (mVar 2) (mC (.int 4))) mNil)))) mNil))))
    (mRet (mTup (mCons (mC (.str "built")) (mCons (mVar 3) (mCons (mN fTuple (mCons (mVar 6) mNil)) (mCons (mCall 2 m__law_take [] (mCons (mVar 0) (mCons (mC (.int 6)) mNil))) mNil)))))))))))
def m__law_plan : Nat → MF
  | 0 => fun _ _ _ _ => False
  | n + 1 => b__law_plan (m__law_plan n)
def m__law_deep_plan : MF := mDef 8 false
    ((mSeq (mAsg (mCall 2 m__law_take [] (mCons (mVar 0) (mCons (mC (.int 2)) mNil))) (mgName 2))
    (mSeq (mAsg (mLst (mCons (mCall 2 m__law_take [] (mCons (mVar 0) (mCons (m2 fAdd (mVar 1) (mC (.int 1))) mNil))) (mCons (mCall 2 m__law_take [] (mCons (mVar 0) (mCons (m2 fAdd (mVar 1) (mC (.int 1))) mNil))) mNil))) (mgName 3))
    (mSeq (mAsg (mTup (mCons (mC (.str "plain")) (mCons (mCall 1 m__law_tag [] (mCons (mVar 0) mNil)) (mCons (mCall 2 m__law_pick [] (mCons (mVar 0) (mCons (mLst (mCons (mTup mNil) (mCons (mTup (mCons (mC (.int 5)) mNil)) (mCons (mTup (mCons (mC (.int 5)) (mCons (mC (.int 0)) mNil))) mNil)))) mNil))) (mCons (mC (.int 0)) mNil))))) (mgName 4))
    (mSeq (mFor (miRng f1R (mCons (mVar 1) mNil)) (mgName 5) (mSeq (mAsg (mTup (mCons (mVar 4) mNil)) (mgName 6))
    (mSeq (mIfS (mAnd (mTest (m2 fEq (mVar 5) (mC (.int 0)))) (mTest (m2 fEq (mCall 2 m__law_take [] (mCons (mVar 0) (mCons (mC (.int 3)) mNil))) (mC (.int 0))))) (mAsg (mTup mNil) (mgName 6)) mNext)
    (mSeq (mIfS (mTest (m2 (fIn false) (mVar 5) (mVar 3))) (mAsg (m2 fAdd (mTup (mCons (mTup (mCons (mC (.str "plain")) (mCons (mCall 1 m__law_tag [] (mCons (mVar 0) mNil)) (mCons (mTup (mCons (mC (.int 7)) mNil)) (mCons (mC (.int 0)) mNil))))) mNil)) (mVar 6)) (mgName 6)) mNext)
    (mSeq (mAsg (mC (.int 0)) (mgName 7))
    (mSeq (mIfS (mTest (m2 fEq (mVar 2) (mC (.int 1)))) (mAsg (mCall 2 m__law_pick [] (mCons (mVar 0) (mCons (mLst (mCons (mC (.int 0)) (mCons (mC (.int 0)) (mCons (mC (.int 1)) (mCons (mC (.int 2)) (mCons (mC (.int 3)) (mCons (mC (.int 5)) mNil))))))) mNil))) (mgName 7)) mNext)
    (mAsg (mTup (mCons (mC (.str "built")) (mCons (mCall 1 m__law_tag [] (mCons (mVar 0) mNil)) (mCons (mVar 6) (mCons (mVar 7) mNil))))) (mgName 4))))))))
    (mRet (mVar 4)))))))
def b__law_strict_plan (z_self : MF) : MF := mDef 2 false
    ((mSeq (mIfS (mTest (m2 fEq (m2 fIx (mVar 0) (mC (.int 0))) (mC (.str "plain")))) (mRet (mTup (mCons (mC (.str "plain")) (mCons (m2 fIx (mVar 0) (mC (.int 1))) (mCons (m2 fIx (mVar 0) (mC (.int 2))) (mCons (mC (.int 0)) mNil)))))) mNext)
    (mRet (mTup (mCons (mC (.str "built")) (mCons (m2 fIx (mVar 0) (mC (.int 1))) (mCons (mN fTuple (mCons (mLc (miSq (m2 fIx (mVar 0) (mC (.int 2)))) (mgName 1) mYes (mCall 1 z_self [] (mCons (mVar 1) mNil)) [1]) mNil)) (mCons (mC (.int 0)) mNil))))))))
def m__law_strict_plan : Nat → MF
  | 0 => fun _ _ _ _ => False
  | n + 1 => b__law_strict_plan (m__law_strict_plan n)
def m__law_length_row : MF := mDef 5 false
    ((mSeq (mAsg (mLst mNil) (mgName 2))
    (mSeq (mAsg (mVar 0) (mgName 3))
    (mSeq (mFor (miRng f1R (mCons (mVar 1) mNil)) (mgName 4) (mSeq (mAsg (m2 fAdd (mLst (mCons (m2 (fI (fun _ j => 0 < j) fun i j => .int (i % j)) (mN fInt (mCons (mVar 3) mNil)) (mC (.int 256))) mNil)) (mVar 2)) (mgName 2))
    (mAsg (m2 (fI CDivW fun i j => .int (i / j)) (mVar 3) (mC (.int 256))) (mgName 3))))
    (mSeq (mIfS (mAnd (mTest (m2 (fI0 fun i j => .bl (decide (j < i))) (mVar 1) (mC (.int 0)))) (mTest (m2 fEq (mVar 3) (mC (.int 0))))) (mRet (m2 fAdd (mLst (mCons (m2 fAdd (mC (.int 128)) (mVar 1)) mNil)) (mVar 2))) mNext)
    (mSeq (mIfS (mTest (m2 (fI0 fun i j => .bl (decide (i < j))) (mVar 0) (mC (.int 128)))) (mRet (mLst (mCons (mVar 0) mNil))) mNext)
    (mSeq (mIfS (mTest (m2 (fI0 fun i j => .bl (decide (i < j))) (mVar 0) (mC (.int 256)))) (mRet (mLst (mCons (mC (.int 129)) (mCons (mVar 0) mNil)))) mNext)
    (mRet (mLst (mCons (mC (.int 130)) (mCons (m2 (fI CDivW fun i j => .int (i / j)) (mVar 0) (mC (.int 256))) (mCons (m2 (fI (fun _ j => 0 < j) fun i j => .int (i % j)) (mN fInt (mCons (mVar 0) mNil)) (mC (.int 256))) mNil))))))))))))
def m__law_identifier : MF := mDef 3 false
    ((mSeq (mAsg (m2 fAdd (m2 fMul (m2 fIx (mVar 0) (mC (.int 0))) (mC (.int 64))) (m2 fMul (mC (.int 32)) (mN fInt (mCons (mVar 1) mNil)))) (mgName 2))
    (mSeq (mIfS (mTest (m2 (fI0 fun i j => .bl (decide (i ≤ j))) (m2 fIx (mVar 0) (mC (.int 1))) (mC (.int 30)))) (mRet (mLst (mCons (m2 fAdd (mVar 2) (m2 fIx (mVar 0) (mC (.int 1)))) mNil))) mNext)
    (mRet (m2 fAdd (mLst (mCons (m2 fAdd (mVar 2) (mC (.int 31))) mNil)) (mCall 1 m__law_chain [] (mCons (m2 fIx (mVar 0) (mC (.int 1))) mNil)))))))
def b__law_plan_octets (z_self : MF) : MF := mDef 4 true
    ((mSeq (mIfS (mTest (m2 fEq (m2 fIx (mVar 0) (mC (.int 0))) (mC (.str "plain")))) (mSeq (mAsg (m2 fAdd (mCall 2 m__law_identifier [] (mCons (m2 fIx (mVar 0) (mC (.int 1))) (mCons (mC (.bl false)) mNil))) (mCall 2 m__law_length_row [] (mCons (mN fLen (mCons (m2 fIx (mVar 0) (mC (.int 2))) mNil)) (mCons (m2 fIx (mVar 0) (mC (.int 3))) mNil)))) (mgName 1))
    (mRet (mAddM (mVar 1) (mN fList (mCons (m2 fIx (mVar 0) (mC (.int 2))) mNil))))) mNext)
    (mSeq (mAsg (mLst mNil) (mgName 2))
    (mSeq (mFor (miSq (m2 fIx (mVar 0) (mC (.int 2)))) (mgName 3) (mAsg (m2 fAdd (mVar 2) (mCall 1 z_self [] (mCons (mVar 3) mNil))) (mgName 2)))
    (mSeq (mAsg (mCall 2 m__law_identifier [] (mCons (m2 fIx (mVar 0) (mC (.int 1))) (mCons (mC (.bl true)) mNil))) (mgName 1))
    (mSeq (mIfS (mOr (mTest (m2 fEq (m2 fIx (mVar 0) (mC (.int 3))) (mC (.int 0)))) (mTest (m2 (fI0 fun i j => .bl (decide (j < i))) (mN fLen (mCons (mVar 2) mNil)) (mC (.int 65535))))) (mRet (mAddM (m2 fAdd (m2 fAdd (mVar 1) (mLst (mCons (mC (.int 128)) mNil))) (mVar 2)) (mLst (mCons (mC (.int 0)) mNil)))) mNext)
    (mRet (mAddM (m2 fAdd (mVar 1) (mCall 2 m__law_length_row [] (mCons (mN fLen (mCons (mVar 2) mNil)) (mCons (m2 (fI0 fun i j => .int (i - j)) (m2 fIx (mVar 0) (mC (.int 3))) (mC (.int 1))) mNil)))) (mVar 2)))))))))
def m__law_plan_octets : Nat → MF
  | 0 => fun _ _ _ _ => False
  | n + 1 => b__law_plan_octets (m__law_plan_octets n)
def b__law_plan_tree (z_self : MF) : MF := mDef 8 false
    ((mSeq (mAsg (m2 fAdd (mVar 1) (mN fLen (mCons (mCall 1 (m__law_plan_octets 22) [] (mCons (mVar 0) mNil)) mNil))) (mgName 2))
    (mSeq (mIfS (mTest (m2 fEq (m2 fIx (mVar 0) (mC (.int 0))) (mC (.str "plain")))) (mRet (mTup (mCons (mC (.str "plain")) (mCons (m2 fIx (mVar 0) (mC (.int 1))) (mCons (mN fTuple (mCons (m2 fIx (mVar 0) (mC (.int 2))) mNil)) (mCons (mVar 1) (mCons (mVar 2) mNil))))))) mNext)
    (mSeq (mAsg (mC (.int 0)) (mgName 3))
    (mSeq (mFor (miSq (m2 fIx (mVar 0) (mC (.int 2)))) (mgName 4) (mAsg (m2 fAdd (mVar 3) (mN fLen (mCons (mCall 1 (m__law_plan_octets 22) [] (mCons (mVar 4) mNil)) mNil))) (mgName 3)))
    (mSeq (mAsg (m2 (fI0 fun i j => .int (i - j)) (mVar 2) (mVar 3)) (mgName 5))
    (mSeq (mIfS (mOr (mTest (m2 fEq (m2 fIx (mVar 0) (mC (.int 3))) (mC (.int 0)))) (mTest (m2 (fI0 fun i j => .bl (decide (j < i))) (mVar 3) (mC (.int 65535))))) (mAsg (m2 (fI0 fun i j => .int (i - j)) (mVar 5) (mC (.int 1))) (mgName 5)) mNext)
    (mSeq (mAsg (mLstM mNil) (mgName 6))
    (mSeq (mFor (miSq (m2 fIx (mVar 0) (mC (.int 2)))) (mgName 4) (mSeq (mAsg (mCall 2 z_self [] (mCons (mVar 4) (mCons (mVar 5) mNil))) (mgName 7))
    (mSeq (mAsg (m2 fIx (mVar 7) (mC (.int 4))) (mgName 5))
    (mDrop (mMeth false fAppend (mVar 6) (mCons (mVar 7) mNil))))))
    (mRet (mTup (mCons (mC (.str "built")) (mCons (m2 fIx (mVar 0) (mC (.int 1))) (mCons (mN fTuple (mCons (mVar 6) mNil)) (mCons (mVar 1) (mCons (mVar 2) mNil))))))))))))))))
def m__law_plan_tree : Nat → MF
  | 0 => fun _ _ _ _ => False
  | n + 1 => b__law_plan_tree (m__law_plan_tree n)
def m_ItemReader___init__ : MF := mDef 2 false
    ((mSeq (mSetF "ItemReader" "only_strict" (mVar 0) (mVar 1))
    (mSeq (mSetF "ItemReader" "place" (mVar 0) (mC (.int 0)))
    (mSeq (mSetF "ItemReader" "spoilt_by" (mVar 0) (mC (.str "")))
    (mSeq (mSetF "ItemReader" "stage" (mVar 0) (mC (.str "item")))
    (mSeq (mSetF "ItemReader" "open_items" (mVar 0) (mLstM mNil))
    (mSeq (mSetF "ItemReader" "head_octets" (mVar 0) (mLstM mNil))
    (mSeq (mSetF "ItemReader" "head_place" (mVar 0) (mC (.int 0)))
    (mSeq (mSetF "ItemReader" "head_tag" (mVar 0) (mC .non))
    (mSeq (mSetF "ItemReader" "head_built" (mVar 0) (mC (.bl false)))
    (mSeq (mSetF "ItemReader" "length_so_far" (mVar 0) (mC (.int 0)))
    (mSeq (mSetF "ItemReader" "digits_all" (mVar 0) (mC (.int 0)))
    (mSeq (mSetF "ItemReader" "digits_read" (mVar 0) (mC (.int 0)))
    (mSeq (mSetF "ItemReader" "content_so_far" (mVar 0) (mLstM mNil))
    (mSeq (mSetF "ItemReader" "content_due" (mVar 0) (mC (.int 0)))
    (mSetF "ItemReader" "whole_item" (mVar 0) (mC .non)))))))))))))))))
def m_ItemReader_raise_spoilt : MF := mDef 1 false
    ((mSeq (mIfS (mTest (m2 fEq (mFldG "ItemReader" "spoilt_by" (mVar 0)) (mC (.str "refused")))) (mRaise "Refused" (mFldG "ItemReader" "place" (mVar 0))) mNext)
    (mIfS (mTest (m2 fEq (mFldG "ItemReader" "spoilt_by" (mVar 0)) (mC (.str "deep")))) (mRaise "Deep" (mFldG "ItemReader" "place" (mVar 0))) mNext)))
def m_ItemReader_room_left : MF := mDef 1 false
    ((mSeq (mIfS (mOr (mTest (m2 fEq (mLenG (mFldG "ItemReader" "open_items" (mVar 0))) (mC (.int 0)))) (mTest (m2 fIsN (mFldG "OpenItem" "room_end" (mIxG (mFldG "ItemReader" "open_items" (mVar 0)) (m1 (fU fun i => .int (-i)) (mC (.int 1))))) (mC .non)))) (mRet (mC .non)) mNext)
    (mRet (m2 (fI0 fun i j => .int (i - j)) (mFldG "OpenItem" "room_end" (mIxG (mFldG "ItemReader" "open_items" (mVar 0)) (m1 (fU fun i => .int (-i)) (mC (.int 1))))) (mFldG "ItemReader" "place" (mVar 0))))))
def m_ItemReader_allows_begin : MF := mDef 3 false
    ((mSeq (mIfS (mTest (m2 fEq (mVar 1) (mC (.int 0)))) (mRet (mAndV (m2 (fI0 fun i j => .bl (decide (j < i))) (mLenG (mFldG "ItemReader" "open_items" (mVar 0))) (mC (.int 0))) (m2 fIsN (mFldG "OpenItem" "end_place" (mIxG (mFldG "ItemReader" "open_items" (mVar 0)) (m1 (fU fun i => .int (-i)) (mC (.int 1))))) (mC .non)))) mNext)
    (mSeq (mIfS (mTest (m2 fEq (mVar 1) (mC (.int 32)))) (mRet (mC (.bl false))) mNext)
    (mSeq (mAsg (mMe "ItemReader" "room_left" 1 m_ItemReader_room_left [] (mVar 0) mNil) (mgName 2))
    (mRet (mOrV (m2 fIsN (mVar 2) (mC .non)) (m2 (fI0 fun i j => .bl (decide (j ≤ i))) (mVar 2) (mIf (mTest (m2 fEq (m2 (fI0 fun i j => .int (Builtin.bitAnd i j)) (mVar 1) (mC (.int 31))) (mC (.int 31)))) (mC (.int 3)) (mC (.int 2))))))))))
def m_ItemReader_allows_chain : MF := mDef 3 false
    ((mSeq (mIfS (mTest (m2 (fI0 fun i j => .bl (decide (j < i))) (mLenG (mFldG "ItemReader" "head_octets" (mVar 0))) (mC (.int 1)))) (mRet (m2 (fI0 fun i j => .bl (decide (i < j))) (mVar 1) (mC (.int 128)))) mNext)
    (mSeq (mIfS (mOr (mTest (m2 (fI0 fun i j => .bl (decide (i < j))) (mVar 1) (mC (.int 31)))) (mTest (m2 fEq (mVar 1) (mC (.int 128))))) (mRet (mC (.bl false))) mNext)
    (mSeq (mAsg (mMe "ItemReader" "room_left" 1 m_ItemReader_room_left [] (mVar 0) mNil) (mgName 2))
    (mRet (mOrV (m2 fIsN (mVar 2) (mC .non)) (m2 (fI0 fun i j => .bl (decide (j ≤ i))) (mVar 2) (mIf (mTest (m2 (fI0 fun i j => .bl (decide (j < i))) (mVar 1) (mC (.int 128)))) (mC (.int 3)) (mC (.int 2))))))))))
def m_fills : MF := mDef 4 false
    ((mSeq (mIfS (mAnd (mTest (mVar 3)) (mTest (m2 fEq (mVar 2) (mC (.int 1))))) (mRet (mC (.bl false))) mNext)
    (mSeq (mIfS (mOr (mTest (m2 fIsN (mVar 0) (mC .non))) (mTest (m2 (fI0 fun i j => .bl (decide (i ≤ j))) (mVar 1) (m2 (fI0 fun i j => .int (i - j)) (mVar 0) (mC (.int 2)))))) (mRet (mC (.bl true))) mNext)
    (mRet (mAndV (mChain (fI0 fun i j => .bl (decide (i ≤ j))) (fI0 fun i j => .bl (decide (i ≤ j))) (mVar 1) (mVar 0) (mVar 2)) (mNotV (mAndV (mVar 3) (m2 fEq (mVar 0) (mC (.int 1))))))))))
def m_length_fills : MF := mDef 6 false
    ((mSeq (mAsg (m2 (fI CPow fun i j => .int (i * 2 ^ j.toNat)) (mVar 1) (m2 fMul (mC (.int 8)) (mVar 2))) (mgName 4))
    (mSeq (mIfS (mTest (m2 (fI0 fun i j => .bl (decide (j < i))) (mVar 4) (mC (.int (65535))))) (mRet (mC (.bl false))) mNext)
    (mSeq (mAsg (mN (fMM (fun i j => if j < i then j else i)) (mCons (m2 (fI0 fun i j => .int (i - j)) (m2 fAdd (mVar 4) (m2 (fI CPow fun i j => .int (i * 2 ^ j.toNat)) (mC (.int 1)) (m2 fMul (mC (.int 8)) (mVar 2)))) (mC (.int 1))) (mCons (mC (.int (65535))) mNil))) (mgName 5))
    (mRet (mCall 4 m_fills [] (mCons (mIf (mTest (m2 fIsN (mVar 0) (mC .non))) (mC .non) (m2 (fI0 fun i j => .int (i - j)) (mVar 0) (mVar 2))) (mCons (mVar 4) (mCons (mVar 5) (mCons (mVar 3) mNil))))))))))
def m_ItemReader_allows_length : MF := mDef 4 false
    ((mSeq (mAsg (mMe "ItemReader" "room_left" 1 m_ItemReader_room_left [] (mVar 0) mNil) (mgName 2))
    (mSeq (mIfS (mTest (m2 fEq (mVar 1) (mC (.int 128)))) (mRet (mAndV (mFldG "ItemReader" "head_built" (mVar 0)) (mOrV (m2 fIsN (mVar 2) (mC .non)) (mOrV (m2 fEq (mVar 2) (mC (.int 2))) (m2 (fI0 fun i j => .bl (decide (j ≤ i))) (mVar 2) (mC (.int 4))))))) mNext)
    (mSeq (mIfS (mAnd (mTest (mFldG "ItemReader" "only_strict" (mVar 0))) (mTest (mFldG "ItemReader" "head_built" (mVar 0)))) (mRet (mC (.bl false))) mNext)
    (mSeq (mAsg (mIf (mTest (m2 fIsN (mVar 2) (mC .non))) (mC .non) (m2 (fI0 fun i j => .int (i - j)) (mVar 2) (mC (.int 1)))) (mgName 3))
    (mSeq (mIfS (mTest (m2 (fI0 fun i j => .bl (decide (i < j))) (mVar 1) (mC (.int 128)))) (mRet (mCall 4 m_length_fills [] (mCons (mVar 3) (mCons (mVar 1) (mCons (mC (.int 0)) (mCons (mFldG "ItemReader" "head_built" (mVar 0)) mNil)))))) mNext)
    (mSeq (mIfS (mTest (m2 (fI0 fun i j => .bl (decide (j < i))) (m2 (fI0 fun i j => .int (i - j)) (mVar 1) (mC (.int 128))) (mIf (mTest (mFldG "ItemReader" "only_strict" (mVar 0))) (mC (.int 2)) (mC (.int 4))))) (mRet (mC (.bl false))) mNext)
    (mRet (mCall 4 m_length_fills [] (mCons (mVar 3) (mCons (mC (.int 0)) (mCons (m2 (fI0 fun i j => .int (i - j)) (mVar 1) (mC (.int 128))) (mCons (mFldG "ItemReader" "head_built" (mVar 0)) mNil)))))))))))))
def m_bad_length_digit : MF := mDef 4 false
    ((mSeq (mIfS (mNot (mTest (mVar 3))) (mRet (mAndV (m2 (fI0 fun i j => .bl (decide (i < j))) (mVar 1) (m2 (fI0 fun i j => .int (i - j)) (mVar 0) (mC (.int 2)))) (m2 fNe (mVar 2) (mC (.int 0))))) mNext)
    (mSeq (mIfS (mTest (m2 (fI0 fun i j => .bl (decide (j < i))) (mVar 1) (mC (.int 0)))) (mRet (mC (.bl false))) mNext)
    (mSeq (mIfS (mTest (m2 fEq (mVar 0) (mC (.int 1)))) (mRet (m2 (fI0 fun i j => .bl (decide (i < j))) (mVar 2) (mC (.int 128)))) mNext)
    (mRet (m2 fEq (mVar 2) (mC (.int 0))))))))
def m_ItemReader_allows_digit : MF := mDef 5 false
    ((mSeq (mIfS (mTest (mCall 4 m_bad_length_digit [] (mCons (mFldG "ItemReader" "digits_all" (mVar 0)) (mCons (mFldG "ItemReader" "digits_read" (mVar 0)) (mCons (mVar 1) (mCons (mFldG "ItemReader" "only_strict" (mVar 0)) mNil)))))) (mRet (mC (.bl false))) mNext)
    (mSeq (mAsg (mMe "ItemReader" "room_left" 1 m_ItemReader_room_left [] (mVar 0) mNil) (mgName 2))
    (mSeq (mAsg (mIf (mTest (m2 fIsN (mVar 2) (mC .non))) (mC .non) (m2 (fI0 fun i j => .int (i - j)) (mVar 2) (mC (.int 1)))) (mgName 3))
    (mSeq (mAsg (m2 (fI0 fun i j => .int (i - j)) (m2 (fI0 fun i j => .int (i - j)) (mFldG "ItemReader" "digits_all" (mVar 0)) (mFldG "ItemReader" "digits_read" (mVar 0))) (mC (.int 1))) (mgName 4))
    (mRet (mCall 4 m_length_fills [] (mCons (mVar 3) (mCons (m2 fAdd (m2 fMul (mFldG "ItemReader" "length_so_far" (mVar 0)) (mC (.int 256))) (mVar 1)) (mCons (mVar 4) (mCons (mFldG "ItemReader" "head_built" (mVar 0)) mNil)))))))))))
def m_ItemReader_allows_octet : MF := mDef 2 false
    ((mSeq (mIfS (mTest (m2 fEq (mFldG "ItemReader" "stage" (mVar 0)) (mC (.str "item")))) (mRet (mMe "ItemReader" "allows_begin" 2 m_ItemReader_allows_begin [] (mVar 0) (mCons (mVar 1) mNil))) mNext)
    (mSeq (mIfS (mTest (m2 fEq (mFldG "ItemReader" "stage" (mVar 0)) (mC (.str "chain")))) (mRet (mMe "ItemReader" "allows_chain" 2 m_ItemReader_allows_chain [] (mVar 0) (mCons (mVar 1) mNil))) mNext)
    (mSeq (mIfS (mTest (m2 fEq (mFldG "ItemReader" "stage" (mVar 0)) (mC (.str "length")))) (mRet (mMe "ItemReader" "allows_length" 2 m_ItemReader_allows_length [] (mVar 0) (mCons (mVar 1) mNil))) mNext)
    (mSeq (mIfS (mTest (m2 fEq (mFldG "ItemReader" "stage" (mVar 0)) (mC (.str "digit")))) (mRet (mMe "ItemReader" "allows_digit" 2 m_ItemReader_allows_digit [] (mVar 0) (mCons (mVar 1) mNil))) mNext)
    (mRet (m2 fEq (mFldG "ItemReader" "stage" (mVar 0)) (mC (.str "content")))))))))
def m_ItemReader_is_too_deep : MF := mDef 2 false
    ((mSeq (mIfS (mTest (m2 (fI0 fun i j => .bl (decide (i < j))) (mLenG (mFldG "ItemReader" "open_items" (mVar 0))) (mC (.int (20))))) (mRet (mC (.bl false))) mNext)
    (mSeq (mIfS (mTest (m2 fEq (mFldG "ItemReader" "stage" (mVar 0)) (mC (.str "item")))) (mRet (mAndV (m2 fNe (m2 (fI0 fun i j => .int (Builtin.bitAnd i j)) (mVar 1) (mC (.int 32))) (mC (.int 0))) (m2 fNe (m2 (fI0 fun i j => .int (Builtin.bitAnd i j)) (mVar 1) (mC (.int 31))) (mC (.int 31))))) mNext)
    (mRet (mAndV (m2 fEq (mFldG "ItemReader" "stage" (mVar 0)) (mC (.str "chain"))) (mAndV (m2 (fI0 fun i j => .bl (decide (i < j))) (mVar 1) (mC (.int 128))) (m2 fNe (m2 (fI0 fun i j => .int (Builtin.bitAnd i j)) (m2 fIx (mFldG "ItemReader" "head_octets" (mVar 0)) (mC (.int 0))) (mC (.int 32))) (mC (.int 0)))))))))
def m_read_identifier : MF := mDef 8 false
    ((mSeq (mAsg (mCall 2 m_octet_at [] (mCons (mVar 0) (mCons (mVar 1) mNil))) (mgName 2))
    (mSeq (mAsg (m2 (fI (fun _ j => 0 ≤ j) fun i j => .int (i / 2 ^ j.toNat)) (mVar 2) (mC (.int 6))) (mgName 3))
    (mSeq (mAsg (m2 fNe (m2 (fI0 fun i j => .int (Builtin.bitAnd i j)) (mVar 2) (mC (.int 32))) (mC (.int 0))) (mgName 4))
    (mSeq (mAsg (m2 (fI0 fun i j => .int (Builtin.bitAnd i j)) (mVar 2) (mC (.int 31))) (mgName 5))
    (mSeq (mIfS (mTest (m2 (fI0 fun i j => .bl (decide (i < j))) (mVar 5) (mC (.int 31)))) (mSeq (mIfS (mAnd (mTest (m2 fEq (mVar 3) (mC (.int 0)))) (mTest (m2 fEq (mVar 5) (mC (.int 0))))) (mRaise "Refused" (mVar 1)) mNext)
    (mRet (mTup (mCons (mTup (mCons (mVar 3) (mCons (mVar 5) mNil))) (mCons (mVar 4) (mCons (mC (.int 1)) mNil)))))) mNext)
    (mSeq (mAsg (mCall 2 m_octet_at [] (mCons (mVar 0) (mCons (m2 fAdd (mVar 1) (mC (.int 1))) mNil))) (mgName 6))
    (mSeq (mIfS (mOr (mTest (m2 (fI0 fun i j => .bl (decide (i < j))) (mVar 6) (mC (.int 31)))) (mTest (m2 fEq (mVar 6) (mC (.int 128))))) (mRaise "Refused" (m2 fAdd (mVar 1) (mC (.int 1)))) mNext)
    (mSeq (mIfS (mTest (m2 (fI0 fun i j => .bl (decide (i < j))) (mVar 6) (mC (.int 128)))) (mRet (mTup (mCons (mTup (mCons (mVar 3) (mCons (mVar 6) mNil))) (mCons (mVar 4) (mCons (mC (.int 2)) mNil))))) mNext)
    (mSeq (mAsg (mCall 2 m_octet_at [] (mCons (mVar 0) (mCons (m2 fAdd (mVar 1) (mC (.int 2))) mNil))) (mgName 7))
    (mSeq (mIfS (mTest (m2 (fI0 fun i j => .bl (decide (j ≤ i))) (mVar 7) (mC (.int 128)))) (mRaise "Refused" (m2 fAdd (mVar 1) (mC (.int 2)))) mNext)
    (mRet (mTup (mCons (mTup (mCons (mVar 3) (mCons (m2 fAdd (m2 fMul (m2 (fI0 fun i j => .int (i - j)) (mVar 6) (mC (.int 128))) (mC (.int 128))) (mVar 7)) mNil))) (mCons (mVar 4) (mCons (mC (.int 3)) mNil))))))))))))))))
def m_ItemReader_end_identifier : MF := mDef 2 false
    ((mSeq (mAsg (mCall 2 m_read_identifier [.int (0)] (mCons (mFldG "ItemReader" "head_octets" (mVar 0)) mNil)) (mgTup 3 (mgsCons (mgFld "ItemReader" "head_tag" (mVar 0)) (mgsCons (mgFld "ItemReader" "head_built" (mVar 0)) (mgsCons (mgName 1) mgsNil)))))
    (mSetF "ItemReader" "stage" (mVar 0) (mC (.str "length")))))
def m_ItemReader_close_item : MF := mDef 2 false
    ((mSeq (mAsg (mPopG (mFldG "ItemReader" "open_items" (mVar 0))) (mgName 1))
    (mRet (mTup (mCons (mC (.str "built")) (mCons (mFldG "OpenItem" "tag_pair" (mVar 1)) (mCons (mN fTuple (mCons (mFldG "OpenItem" "inner_items" (mVar 1)) mNil)) (mCons (mFldG "OpenItem" "first_place" (mVar 1)) (mCons (mFldG "ItemReader" "place" (mVar 0)) mNil)))))))))
def m_ItemReader_put_item : MF := mDef 4 false
    ((mSeq (mAsg (mVar 1) (mgName 2))
    (mSeq (mWhile (mTest (m2 (fI0 fun i j => .bl (decide (j < i))) (mLenG (mFldG "ItemReader" "open_items" (mVar 0))) (mC (.int 0)))) (mSeq (mAsg (mIxG (mFldG "ItemReader" "open_items" (mVar 0)) (m1 (fU fun i => .int (-i)) (mC (.int 1)))) (mgName 3))
    (mSeq (mDrop (mMethG false fAppend (mFldG "OpenItem" "inner_items" (mVar 3)) (mCons (mVar 2) mNil)))
    (mSeq (mIfS (mOr (mTest (m2 fIsN (mFldG "OpenItem" "end_place" (mVar 3)) (mC .non))) (mTest (m2 (fI0 fun i j => .bl (decide (j < i))) (mFldG "OpenItem" "end_place" (mVar 3)) (mFldG "ItemReader" "place" (mVar 0))))) (mSeq (mSetF "ItemReader" "stage" (mVar 0) (mC (.str "item")))
    mRetN) mNext)
    (mAsg (mMe "ItemReader" "close_item" 1 m_ItemReader_close_item [] (mVar 0) mNil) (mgName 2))))))
    (mSeq (mSetF "ItemReader" "whole_item" (mVar 0) (mVar 2))
    (mSetF "ItemReader" "stage" (mVar 0) (mC (.str "end")))))))
def m_ItemReader_accept_begin : MF := mDef 2 false
    ((mSeq (mIfS (mTest (m2 fEq (mVar 1) (mC (.int 0)))) (mSeq (mDrop (mMe "ItemReader" "put_item" 2 m_ItemReader_put_item [] (mVar 0) (mCons (mMe "ItemReader" "close_item" 1 m_ItemReader_close_item [] (mVar 0) mNil) mNil)))
    mRetN) mNext)
    (mSeq (mSetF "ItemReader" "head_octets" (mVar 0) (mLstM (mCons (mVar 1) mNil)))
    (mSeq (mSetF "ItemReader" "head_place" (mVar 0) (m2 (fI0 fun i j => .int (i - j)) (mFldG "ItemReader" "place" (mVar 0)) (mC (.int 1))))
    (mIfS (mTest (m2 fEq (m2 (fI0 fun i j => .int (Builtin.bitAnd i j)) (mVar 1) (mC (.int 31))) (mC (.int 31)))) (mSetF "ItemReader" "stage" (mVar 0) (mC (.str "chain"))) (mDrop (mMe "ItemReader" "end_identifier" 1 m_ItemReader_end_identifier [] (mVar 0) mNil)))))))
def m_OpenItem___init__ : MF := mDef 5 false
    ((mSeq (mSetF "OpenItem" "tag_pair" (mVar 0) (mVar 1))
    (mSeq (mSetF "OpenItem" "first_place" (mVar 0) (mVar 2))
    (mSeq (mSetF "OpenItem" "end_place" (mVar 0) (mVar 3))
    (mSeq (mSetF "OpenItem" "room_end" (mVar 0) (mVar 4))
    (mSetF "OpenItem" "inner_items" (mVar 0) (mLstM mNil)))))))
def m_ItemReader_end_plain : MF := mDef 1 false
    ((mDrop (mMe "ItemReader" "put_item" 2 m_ItemReader_put_item [] (mVar 0) (mCons (mTup (mCons (mC (.str "plain")) (mCons (mFldG "ItemReader" "head_tag" (mVar 0)) (mCons (mN fTuple (mCons (mFldG "ItemReader" "content_so_far" (mVar 0)) mNil)) (mCons (mFldG "ItemReader" "head_place" (mVar 0)) (mCons (mFldG "ItemReader" "place" (mVar 0)) mNil)))))) mNil))))
def m_ItemReader_begin_contents : MF := mDef 3 false
    ((mIfS (mTest (mFldG "ItemReader" "head_built" (mVar 0))) (mSeq (mAsg (m2 fAdd (mFldG "ItemReader" "place" (mVar 0)) (mVar 1)) (mgName 2))
    (mSeq (mDrop (mAppG (mFldG "ItemReader" "open_items" (mVar 0)) (mMake "OpenItem" 5 m_OpenItem___init__ [] (mCons (mFldG "ItemReader" "head_tag" (mVar 0)) (mCons (mFldG "ItemReader" "head_place" (mVar 0)) (mCons (mVar 2) (mCons (mVar 2) mNil)))))))
    (mSeq (mSetF "ItemReader" "stage" (mVar 0) (mC (.str "item")))
    (mIfS (mTest (m2 fEq (mVar 1) (mC (.int 0)))) (mDrop (mMe "ItemReader" "put_item" 2 m_ItemReader_put_item [] (mVar 0) (mCons (mMe "ItemReader" "close_item" 1 m_ItemReader_close_item [] (mVar 0) mNil) mNil))) mNext)))) (mSeq (mSetF "ItemReader" "content_so_far" (mVar 0) (mLstM mNil))
    (mSeq (mSetF "ItemReader" "content_due" (mVar 0) (mVar 1))
    (mSeq (mSetF "ItemReader" "stage" (mVar 0) (mC (.str "content")))
    (mIfS (mTest (m2 fEq (mVar 1) (mC (.int 0)))) (mDrop (mMe "ItemReader" "end_plain" 1 m_ItemReader_end_plain [] (mVar 0) mNil)) mNext))))))
def m_ItemReader_accept_length : MF := mDef 4 false
    ((mIfS (mTest (m2 (fI0 fun i j => .bl (decide (i < j))) (mVar 1) (mC (.int 128)))) (mDrop (mMe "ItemReader" "begin_contents" 2 m_ItemReader_begin_contents [] (mVar 0) (mCons (mVar 1) mNil))) (mIfS (mTest (m2 (fI0 fun i j => .bl (decide (j < i))) (mVar 1) (mC (.int 128)))) (mSeq (mSetF "ItemReader" "length_so_far" (mVar 0) (mC (.int 0)))
    (mSeq (mSetF "ItemReader" "digits_all" (mVar 0) (m2 (fI0 fun i j => .int (i - j)) (mVar 1) (mC (.int 128))))
    (mSeq (mSetF "ItemReader" "digits_read" (mVar 0) (mC (.int 0)))
    (mSetF "ItemReader" "stage" (mVar 0) (mC (.str "digit")))))) (mSeq (mAsg (mMe "ItemReader" "room_left" 1 m_ItemReader_room_left [] (mVar 0) mNil) (mgName 2))
    (mSeq (mAsg (mIf (mTest (m2 fIsN (mVar 2) (mC .non))) (mC .non) (m2 (fI0 fun i j => .int (i - j)) (m2 fAdd (mFldG "ItemReader" "place" (mVar 0)) (mVar 2)) (mC (.int 1)))) (mgName 3))
    (mSeq (mDrop (mAppG (mFldG "ItemReader" "open_items" (mVar 0)) (mMake "OpenItem" 5 m_OpenItem___init__ [] (mCons (mFldG "ItemReader" "head_tag" (mVar 0)) (mCons (mFldG "ItemReader" "head_place" (mVar 0)) (mCons (mC .non) (mCons (mVar 3) mNil)))))))
    (mSetF "ItemReader" "stage" (mVar 0) (mC (.str "item")))))))))
def m_ItemReader_accept_octet : MF := mDef 2 false
    ((mSeq (mAugF "ItemReader" "place" (fI0 fun i j => .int (i + j)) (mVar 0) (mC (.int 1)))
    (mIfS (mTest (m2 fEq (mFldG "ItemReader" "stage" (mVar 0)) (mC (.str "item")))) (mDrop (mMe "ItemReader" "accept_begin" 2 m_ItemReader_accept_begin [] (mVar 0) (mCons (mVar 1) mNil))) (mIfS (mTest (m2 fEq (mFldG "ItemReader" "stage" (mVar 0)) (mC (.str "chain")))) (mSeq (mDrop (mMethG false fAppend (mFldG "ItemReader" "head_octets" (mVar 0)) (mCons (mVar 1) mNil)))
    (mIfS (mTest (m2 (fI0 fun i j => .bl (decide (i < j))) (mVar 1) (mC (.int 128)))) (mDrop (mMe "ItemReader" "end_identifier" 1 m_ItemReader_end_identifier [] (mVar 0) mNil)) mNext)) (mIfS (mTest (m2 fEq (mFldG "ItemReader" "stage" (mVar 0)) (mC (.str "length")))) (mDrop (mMe "ItemReader" "accept_length" 2 m_ItemReader_accept_length [] (mVar 0) (mCons (mVar 1) mNil))) (mIfS (mTest (m2 fEq (mFldG "ItemReader" "stage" (mVar 0)) (mC (.str "digit")))) (mSeq (mSetF "ItemReader" "length_so_far" (mVar 0) (m2 fAdd (m2 fMul (mFldG "ItemReader" "length_so_far" (mVar 0)) (mC (.int 256))) (mVar 1)))
    (mSeq (mAugF "ItemReader" "digits_read" (fI0 fun i j => .int (i + j)) (mVar 0) (mC (.int 1)))
    (mIfS (mTest (m2 fEq (mFldG "ItemReader" "digits_read" (mVar 0)) (mFldG "ItemReader" "digits_all" (mVar 0)))) (mDrop (mMe "ItemReader" "begin_contents" 2 m_ItemReader_begin_contents [] (mVar 0) (mCons (mFldG "ItemReader" "length_so_far" (mVar 0)) mNil))) mNext))) (mSeq (mDrop (mMethG false fAppend (mFldG "ItemReader" "content_so_far" (mVar 0)) (mCons (mVar 1) mNil)))
    (mSeq (mAugF "ItemReader" "content_due" (fI0 fun i j => .int (i - j)) (mVar 0) (mC (.int 1)))
    (mIfS (mTest (m2 fEq (mFldG "ItemReader" "content_due" (mVar 0)) (mC (.int 0)))) (mDrop (mMe "ItemReader" "end_plain" 1 m_ItemReader_end_plain [] (mVar 0) mNil)) mNext)))))))))
def m_ItemReader_push : MF := mDef 3 false
    ((mSeq (mDrop (mMe "ItemReader" "raise_spoilt" 1 m_ItemReader_raise_spoilt [] (mVar 0) mNil))
    (mSeq (mFor (miSq (mVar 1)) (mgName 2) (mSeq (mIfS (mNot (mTest (mMe "ItemReader" "allows_octet" 2 m_ItemReader_allows_octet [] (mVar 0) (mCons (mVar 2) mNil)))) (mSetF "ItemReader" "spoilt_by" (mVar 0) (mC (.str "refused"))) (mIfS (mTest (mMe "ItemReader" "is_too_deep" 2 m_ItemReader_is_too_deep [] (mVar 0) (mCons (mVar 2) mNil))) (mSetF "ItemReader" "spoilt_by" (mVar 0) (mC (.str "deep"))) mNext))
    (mSeq (mIfS (mTest (m2 fNe (mFldG "ItemReader" "spoilt_by" (mVar 0)) (mC (.str "")))) mBreak mNext)
    (mDrop (mMe "ItemReader" "accept_octet" 2 m_ItemReader_accept_octet [] (mVar 0) (mCons (mVar 2) mNil))))))
    (mDrop (mMe "ItemReader" "raise_spoilt" 1 m_ItemReader_raise_spoilt [] (mVar 0) mNil)))))
def m_ItemReader_finish : MF := mDef 1 false
    ((mSeq (mDrop (mMe "ItemReader" "raise_spoilt" 1 m_ItemReader_raise_spoilt [] (mVar 0) mNil))
    (mSeq (mIfS (mTest (m2 fNe (mFldG "ItemReader" "stage" (mVar 0)) (mC (.str "end")))) (mRaise "Ended" (mFldG "ItemReader" "place" (mVar 0))) mNext)
    (mRet (mFldG "ItemReader" "whole_item" (mVar 0))))))
def m_read_item : MF := mDef 3 false
    ((mSeq (mAsg (mMakeK "ItemReader" 2 0 1 m_ItemReader___init__ [] [] mNil (mCons (mVar 1) mNil)) (mgName 2))
    (mSeq (mDrop (mMe "ItemReader" "push" 2 m_ItemReader_push [] (mVar 2) (mCons (mVar 0) mNil)))
    (mRet (mMe "ItemReader" "finish" 1 m_ItemReader_finish [] (mVar 2) mNil)))))
end Pl

set_option Elab.async false
set_option linter.all false
set_option maxRecDepth 100000
set_option maxHeartbeats 4000000
namespace Qk07
open PySem PySem.Spec PyProof.Rows L2 Mp Pl
def top (i : Nat) : Stmt := PySem.Challenge.pw_tagoctets_k07_trees_of_items.main.body.getD i (.Pass ⟨0, 0, 0, 0⟩)
abbrev n__law_mix : List Str := ["_law_first", "_law_second", "_law_once", "_law_twice"]
abbrev s__law_mix : Stmt := top 25
abbrev n__law_store : List Str := ["_law_script", "_law_seed", "_law_cell"]
abbrev s__law_store : Stmt := top 26
abbrev n__law_take : List Str := ["_law_store_here", "_law_many", "_law_cell", "_law_rest", "_law_base", "_law_total", "_law_rounds", "_law_k"]
abbrev s__law_take : Stmt := top 27
abbrev n__law_pick : List Str := ["_law_store_here", "_law_row"]
abbrev s__law_pick : Stmt := top 28
abbrev n__law_equal : List Str := ["_law_first", "_law_second", "_law_k"]
abbrev s__law_equal : Stmt := top 29
abbrev n__law_is_integer : List Str := ["_law_thing"]
abbrev s__law_is_integer : Stmt := top 30
abbrev n__law_tag : List Str := ["_law_store_here", "_law_side", "_law_part", "_law_number"]
abbrev s__law_tag : Stmt := top 31
abbrev n__law_octet : List Str := ["_law_store_here"]
abbrev s__law_octet : Stmt := top 32
abbrev n__law_plan : List Str := ["_law_store_here", "_law_depth", "_law_long", "_law_tag_here", "_law_size", "_law_content", "_law_inner", "_law_k"]
abbrev s__law_plan : Stmt := top 36
abbrev n__law_deep_plan : List Str := ["_law_store_here", "_law_many", "_law_mixed", "_law_spots", "_law_plan_here", "_law_k", "_law_inner", "_law_form"]
abbrev s__law_deep_plan : Stmt := top 37
abbrev n__law_strict_plan : List Str := ["_law_plan_here", "_law_inner"]
abbrev s__law_strict_plan : Stmt := top 38
abbrev n__law_length_row : List Str := ["_law_length", "_law_form", "_law_tail", "_law_rest", "_law_k"]
abbrev s__law_length_row : Stmt := top 34
abbrev n__law_chain : List Str := ["_law_number", "_law_row", "_law_rest", "_law_k"]
abbrev s__law_chain : Stmt := top 33
abbrev n__law_identifier : List Str := ["_law_tag_here", "_law_built", "_law_head"]
abbrev s__law_identifier : Stmt := top 35
abbrev n__law_plan_octets : List Str := ["_law_plan_here", "_law_head", "_law_inside", "_law_inner"]
abbrev s__law_plan_octets : Stmt := top 39
abbrev n__law_plan_tree : List Str := ["_law_plan_here", "_law_begin", "_law_behind", "_law_inside", "_law_inner", "_law_spot", "_law_trees", "_law_tree"]
abbrev s__law_plan_tree : Stmt := top 40
abbrev n_ItemReader___init__ : List Str := ["self", "strict"]
abbrev s_ItemReader___init__ : Stmt := inClass (top 22) 0
abbrev n_ItemReader_raise_spoilt : List Str := ["self"]
abbrev s_ItemReader_raise_spoilt : Stmt := inClass (top 22) 5
abbrev n_ItemReader_room_left : List Str := ["self"]
abbrev s_ItemReader_room_left : Stmt := inClass (top 22) 6
abbrev n_ItemReader_allows_begin : List Str := ["self", "octet", "room"]
abbrev s_ItemReader_allows_begin : Stmt := inClass (top 22) 8
abbrev n_ItemReader_allows_chain : List Str := ["self", "octet", "room"]
abbrev s_ItemReader_allows_chain : Stmt := inClass (top 22) 9
abbrev n_fills : List Str := ["room", "low", "high", "built"]
abbrev s_fills : Stmt := top 19
abbrev n_length_fills : List Str := ["room", "number", "rest", "built", "low", "high"]
abbrev s_length_fills : Stmt := top 20
abbrev n_ItemReader_allows_length : List Str := ["self", "octet", "room", "behind"]
abbrev s_ItemReader_allows_length : Stmt := inClass (top 22) 10
abbrev n_bad_length_digit : List Str := ["width", "index", "octet", "least"]
abbrev s_bad_length_digit : Stmt := top 10
abbrev n_ItemReader_allows_digit : List Str := ["self", "octet", "room", "behind", "rest"]
abbrev s_ItemReader_allows_digit : Stmt := inClass (top 22) 11
abbrev n_ItemReader_allows_octet : List Str := ["self", "octet"]
abbrev s_ItemReader_allows_octet : Stmt := inClass (top 22) 7
abbrev n_ItemReader_is_too_deep : List Str := ["self", "octet"]
abbrev s_ItemReader_is_too_deep : Stmt := inClass (top 22) 12
abbrev n_octet_at : List Str := ["octets", "place"]
abbrev s_octet_at : Stmt := top 9
abbrev n_read_identifier : List Str := ["octets", "at", "first", "group", "built", "number", "high", "low"]
abbrev s_read_identifier : Stmt := top 11
abbrev n_ItemReader_end_identifier : List Str := ["self", "spare"]
abbrev s_ItemReader_end_identifier : Stmt := inClass (top 22) 15
abbrev n_ItemReader_close_item : List Str := ["self", "ended"]
abbrev s_ItemReader_close_item : Stmt := inClass (top 22) 19
abbrev n_ItemReader_put_item : List Str := ["self", "tree", "item", "around"]
abbrev s_ItemReader_put_item : Stmt := inClass (top 22) 20
abbrev n_ItemReader_accept_begin : List Str := ["self", "octet"]
abbrev s_ItemReader_accept_begin : Stmt := inClass (top 22) 14
abbrev n_OpenItem___init__ : List Str := ["self", "tag_pair", "first_place", "end_place", "room_end"]
abbrev s_OpenItem___init__ : Stmt := inClass (top 21) 0
abbrev n_ItemReader_end_plain : List Str := ["self"]
abbrev s_ItemReader_end_plain : Stmt := inClass (top 22) 18
abbrev n_ItemReader_begin_contents : List Str := ["self", "length", "end"]
abbrev s_ItemReader_begin_contents : Stmt := inClass (top 22) 17
abbrev n_ItemReader_accept_length : List Str := ["self", "octet", "room", "room_end"]
abbrev s_ItemReader_accept_length : Stmt := inClass (top 22) 16
abbrev n_ItemReader_accept_octet : List Str := ["self", "octet"]
abbrev s_ItemReader_accept_octet : Stmt := inClass (top 22) 13
abbrev n_ItemReader_push : List Str := ["self", "octets", "octet"]
abbrev s_ItemReader_push : Stmt := inClass (top 22) 1
abbrev n_ItemReader_finish : List Str := ["self"]
abbrev s_ItemReader_finish : Stmt := inClass (top 22) 2
abbrev n_read_item : List Str := ["octets", "strict", "reader"]
abbrev s_read_item : Stmt := top 23
abbrev n__law_read : List Str := ["_law_row", "_law_flag", "e", "_law_kin"]
abbrev s__law_read : Stmt := top 41
abbrev n__law_plan_reads : List Str := ["_law_plan_here", "_law_flag", "_law_row", "_law_kept", "_law_due"]
abbrev s__law_plan_reads : Stmt := top 42
abbrev n__law_ends : List Str := ["_law_store_here", "_law_row", "_law_flag", "_law_spot", "_law_octet_here"]
abbrev s__law_ends : Stmt := top 43
abbrev n_law : List Str := ["_law_script", "_law_store_here", "_law_plan_here", "_law_plain", "_law_short", "_law_row", "_law_tight", "_law_told"]
abbrev s_law : Stmt := top 44
theorem sc__law_mix : FnScope n__law_mix ["_law_first", "_law_second"] (defScope s__law_mix) := ⟨rfl, rfl, rfl, by decide +kernel, rfl, by decide +kernel, by decide +kernel⟩
theorem sc__law_store : FnScope n__law_store ["_law_script"] (defScope s__law_store) := ⟨rfl, rfl, rfl, by decide +kernel, rfl, by decide +kernel, by decide +kernel⟩
theorem sc__law_take : FnScope n__law_take ["_law_store_here", "_law_many"] (defScope s__law_take) := ⟨rfl, rfl, rfl, by decide +kernel, rfl, by decide +kernel, by decide +kernel⟩
theorem sc__law_pick : FnScope n__law_pick ["_law_store_here", "_law_row"] (defScope s__law_pick) := ⟨rfl, rfl, rfl, by decide +kernel, rfl, by decide +kernel, by decide +kernel⟩
theorem sc__law_equal : FnScope n__law_equal ["_law_first", "_law_second"] (defScope s__law_equal) := ⟨rfl, rfl, rfl, by decide +kernel, rfl, by decide +kernel, by decide +kernel⟩
theorem sc__law_is_integer : FnScope n__law_is_integer ["_law_thing"] (defScope s__law_is_integer) := ⟨rfl, rfl, rfl, by decide +kernel, rfl, by decide +kernel, by decide +kernel⟩
theorem sc__law_tag : FnScope n__law_tag ["_law_store_here"] (defScope s__law_tag) := ⟨rfl, rfl, rfl, by decide +kernel, rfl, by decide +kernel, by decide +kernel⟩
theorem sc__law_octet : FnScope n__law_octet ["_law_store_here"] (defScope s__law_octet) := ⟨rfl, rfl, rfl, by decide +kernel, rfl, by decide +kernel, by decide +kernel⟩
theorem sc__law_plan : FnScope n__law_plan ["_law_store_here", "_law_depth", "_law_long"] (defScope s__law_plan) := ⟨rfl, rfl, rfl, by decide +kernel, rfl, by decide +kernel, by decide +kernel⟩
theorem sc__law_deep_plan : FnScope n__law_deep_plan ["_law_store_here", "_law_many"] (defScope s__law_deep_plan) := ⟨rfl, rfl, rfl, by decide +kernel, rfl, by decide +kernel, by decide +kernel⟩
theorem sc__law_strict_plan : FnScope n__law_strict_plan ["_law_plan_here"] (defScope s__law_strict_plan) := ⟨rfl, rfl, rfl, by decide +kernel, rfl, by decide +kernel, by decide +kernel⟩
theorem sc__law_length_row : FnScope n__law_length_row ["_law_length", "_law_form"] (defScope s__law_length_row) := ⟨rfl, rfl, rfl, by decide +kernel, rfl, by decide +kernel, by decide +kernel⟩
theorem sc__law_chain : FnScope n__law_chain ["_law_number"] (defScope s__law_chain) := ⟨rfl, rfl, rfl, by decide +kernel, rfl, by decide +kernel, by decide +kernel⟩
theorem sc__law_identifier : FnScope n__law_identifier ["_law_tag_here", "_law_built"] (defScope s__law_identifier) := ⟨rfl, rfl, rfl, by decide +kernel, rfl, by decide +kernel, by decide +kernel⟩
theorem sc__law_plan_octets : FnScope n__law_plan_octets ["_law_plan_here"] (defScope s__law_plan_octets) := ⟨rfl, rfl, rfl, by decide +kernel, rfl, by decide +kernel, by decide +kernel⟩
theorem sc__law_plan_tree : FnScope n__law_plan_tree ["_law_plan_here", "_law_begin"] (defScope s__law_plan_tree) := ⟨rfl, rfl, rfl, by decide +kernel, rfl, by decide +kernel, by decide +kernel⟩
theorem sc_ItemReader___init__ : FnScope n_ItemReader___init__ ["self", "strict"] (defScope s_ItemReader___init__) := ⟨rfl, rfl, rfl, by decide +kernel, rfl, by decide +kernel, by decide +kernel⟩
theorem sc_ItemReader_raise_spoilt : FnScope n_ItemReader_raise_spoilt ["self"] (defScope s_ItemReader_raise_spoilt) := ⟨rfl, rfl, rfl, by decide +kernel, rfl, by decide +kernel, by decide +kernel⟩
theorem sc_ItemReader_room_left : FnScope n_ItemReader_room_left ["self"] (defScope s_ItemReader_room_left) := ⟨rfl, rfl, rfl, by decide +kernel, rfl, by decide +kernel, by decide +kernel⟩
theorem sc_ItemReader_allows_begin : FnScope n_ItemReader_allows_begin ["self", "octet"] (defScope s_ItemReader_allows_begin) := ⟨rfl, rfl, rfl, by decide +kernel, rfl, by decide +kernel, by decide +kernel⟩
theorem sc_ItemReader_allows_chain : FnScope n_ItemReader_allows_chain ["self", "octet"] (defScope s_ItemReader_allows_chain) := ⟨rfl, rfl, rfl, by decide +kernel, rfl, by decide +kernel, by decide +kernel⟩
theorem sc_fills : FnScope n_fills ["room", "low", "high", "built"] (defScope s_fills) := ⟨rfl, rfl, rfl, by decide +kernel, rfl, by decide +kernel, by decide +kernel⟩
theorem sc_length_fills : FnScope n_length_fills ["room", "number", "rest", "built"] (defScope s_length_fills) := ⟨rfl, rfl, rfl, by decide +kernel, rfl, by decide +kernel, by decide +kernel⟩
theorem sc_ItemReader_allows_length : FnScope n_ItemReader_allows_length ["self", "octet"] (defScope s_ItemReader_allows_length) := ⟨rfl, rfl, rfl, by decide +kernel, rfl, by decide +kernel, by decide +kernel⟩
theorem sc_bad_length_digit : FnScope n_bad_length_digit ["width", "index", "octet", "least"] (defScope s_bad_length_digit) := ⟨rfl, rfl, rfl, by decide +kernel, rfl, by decide +kernel, by decide +kernel⟩
theorem sc_ItemReader_allows_digit : FnScope n_ItemReader_allows_digit ["self", "octet"] (defScope s_ItemReader_allows_digit) := ⟨rfl, rfl, rfl, by decide +kernel, rfl, by decide +kernel, by decide +kernel⟩
theorem sc_ItemReader_allows_octet : FnScope n_ItemReader_allows_octet ["self", "octet"] (defScope s_ItemReader_allows_octet) := ⟨rfl, rfl, rfl, by decide +kernel, rfl, by decide +kernel, by decide +kernel⟩
theorem sc_ItemReader_is_too_deep : FnScope n_ItemReader_is_too_deep ["self", "octet"] (defScope s_ItemReader_is_too_deep) := ⟨rfl, rfl, rfl, by decide +kernel, rfl, by decide +kernel, by decide +kernel⟩
theorem sc_octet_at : FnScope n_octet_at ["octets", "place"] (defScope s_octet_at) := ⟨rfl, rfl, rfl, by decide +kernel, rfl, by decide +kernel, by decide +kernel⟩
theorem sc_read_identifier : FnScope n_read_identifier ["octets", "at"] (defScope s_read_identifier) := ⟨rfl, rfl, rfl, by decide +kernel, rfl, by decide +kernel, by decide +kernel⟩
theorem sc_ItemReader_end_identifier : FnScope n_ItemReader_end_identifier ["self"] (defScope s_ItemReader_end_identifier) := ⟨rfl, rfl, rfl, by decide +kernel, rfl, by decide +kernel, by decide +kernel⟩
theorem sc_ItemReader_close_item : FnScope n_ItemReader_close_item ["self"] (defScope s_ItemReader_close_item) := ⟨rfl, rfl, rfl, by decide +kernel, rfl, by decide +kernel, by decide +kernel⟩
theorem sc_ItemReader_put_item : FnScope n_ItemReader_put_item ["self", "tree"] (defScope s_ItemReader_put_item) := ⟨rfl, rfl, rfl, by decide +kernel, rfl, by decide +kernel, by decide +kernel⟩
theorem sc_ItemReader_accept_begin : FnScope n_ItemReader_accept_begin ["self", "octet"] (defScope s_ItemReader_accept_begin) := ⟨rfl, rfl, rfl, by decide +kernel, rfl, by decide +kernel, by decide +kernel⟩
theorem sc_OpenItem___init__ : FnScope n_OpenItem___init__ ["self", "tag_pair", "first_place", "end_place", "room_end"] (defScope s_OpenItem___init__) := ⟨rfl, rfl, rfl, by decide +kernel, rfl, by decide +kernel, by decide +kernel⟩
theorem sc_ItemReader_end_plain : FnScope n_ItemReader_end_plain ["self"] (defScope s_ItemReader_end_plain) := ⟨rfl, rfl, rfl, by decide +kernel, rfl, by decide +kernel, by decide +kernel⟩
theorem sc_ItemReader_begin_contents : FnScope n_ItemReader_begin_contents ["self", "length"] (defScope s_ItemReader_begin_contents) := ⟨rfl, rfl, rfl, by decide +kernel, rfl, by decide +kernel, by decide +kernel⟩
theorem sc_ItemReader_accept_length : FnScope n_ItemReader_accept_length ["self", "octet"] (defScope s_ItemReader_accept_length) := ⟨rfl, rfl, rfl, by decide +kernel, rfl, by decide +kernel, by decide +kernel⟩
theorem sc_ItemReader_accept_octet : FnScope n_ItemReader_accept_octet ["self", "octet"] (defScope s_ItemReader_accept_octet) := ⟨rfl, rfl, rfl, by decide +kernel, rfl, by decide +kernel, by decide +kernel⟩
theorem sc_ItemReader_push : FnScope n_ItemReader_push ["self", "octets"] (defScope s_ItemReader_push) := ⟨rfl, rfl, rfl, by decide +kernel, rfl, by decide +kernel, by decide +kernel⟩
theorem sc_ItemReader_finish : FnScope n_ItemReader_finish ["self"] (defScope s_ItemReader_finish) := ⟨rfl, rfl, rfl, by decide +kernel, rfl, by decide +kernel, by decide +kernel⟩
theorem sc_read_item : FnScope n_read_item ["octets", "strict"] (defScope s_read_item) := ⟨rfl, rfl, rfl, by decide +kernel, rfl, by decide +kernel, by decide +kernel⟩
theorem sc__law_read : FnScope n__law_read ["_law_row", "_law_flag"] (defScope s__law_read) := ⟨rfl, rfl, rfl, by decide +kernel, rfl, by decide +kernel, by decide +kernel⟩
theorem sc__law_plan_reads : FnScope n__law_plan_reads ["_law_plan_here", "_law_flag"] (defScope s__law_plan_reads) := ⟨rfl, rfl, rfl, by decide +kernel, rfl, by decide +kernel, by decide +kernel⟩
theorem sc__law_ends : FnScope n__law_ends ["_law_store_here", "_law_row", "_law_flag"] (defScope s__law_ends) := ⟨rfl, rfl, rfl, by decide +kernel, rfl, by decide +kernel, by decide +kernel⟩
theorem sc_law : FnScope n_law ["_law_script"] (defScope s_law) := ⟨rfl, rfl, rfl, by decide +kernel, rfl, by decide +kernel, by decide +kernel⟩
abbrev P : Program := (PySem.Challenge.rw_tagoctets_k07_trees_of_items).prog
abbrev FnP (K : PySem.W.Frag) (x : Str) (st : Stmt) (f : Addr) (fd : FuncData) (dvs : List V := []) (kws : List (Str × V) := []) : Prop := FunD K x x (defArgs st) (defBody st) (defScope st) dvs kws f fd
def t_0 : List (Str × Bool) := [("Refused", false), ("Ended", false), ("Deep", true)]
@[simp] theorem t_0_Refused : List.lookup ("Refused" : Str) t_0 = some false := by rfl
@[simp] theorem t_0_Ended : List.lookup ("Ended" : Str) t_0 = some false := by rfl
@[simp] theorem t_0_Deep : List.lookup ("Deep" : Str) t_0 = some true := by rfl
def t_1 : List (Str × Bool) := [("Refused", false), ("Ended", true), ("Deep", false)]
@[simp] theorem t_1_Refused : List.lookup ("Refused" : Str) t_1 = some false := by rfl
@[simp] theorem t_1_Ended : List.lookup ("Ended" : Str) t_1 = some true := by rfl
@[simp] theorem t_1_Deep : List.lookup ("Deep" : Str) t_1 = some false := by rfl
def t_2 : List (Str × Bool) := [("Refused", true), ("Ended", true), ("Deep", true)]
@[simp] theorem t_2_Refused : List.lookup ("Refused" : Str) t_2 = some true := by rfl
@[simp] theorem t_2_Ended : List.lookup ("Ended" : Str) t_2 = some true := by rfl
@[simp] theorem t_2_Deep : List.lookup ("Deep" : Str) t_2 = some true := by rfl
def t_3 : List (Str × Bool) := [("Refused", true), ("Ended", true), ("Deep", true)]
@[simp] theorem t_3_Refused : List.lookup ("Refused" : Str) t_3 = some true := by rfl
@[simp] theorem t_3_Ended : List.lookup ("Ended" : Str) t_3 = some true := by rfl
@[simp] theorem t_3_Deep : List.lookup ("Deep" : Str) t_3 = some true := by rfl
def t_4 : List (Str × Bool) := [("Refused", true), ("Ended", false), ("Deep", true)]
@[simp] theorem t_4_Refused : List.lookup ("Refused" : Str) t_4 = some true := by rfl
@[simp] theorem t_4_Ended : List.lookup ("Ended" : Str) t_4 = some false := by rfl
@[simp] theorem t_4_Deep : List.lookup ("Deep" : Str) t_4 = some true := by rfl
def t_5 : List (Str × Bool) := [("Refused", true), ("Ended", false), ("Deep", false)]
@[simp] theorem t_5_Refused : List.lookup ("Refused" : Str) t_5 = some true := by rfl
@[simp] theorem t_5_Ended : List.lookup ("Ended" : Str) t_5 = some false := by rfl
@[simp] theorem t_5_Deep : List.lookup ("Deep" : Str) t_5 = some false := by rfl
def t_6 : List (Str × Bool) := [("Refused", false), ("Ended", true), ("Deep", true)]
@[simp] theorem t_6_Refused : List.lookup ("Refused" : Str) t_6 = some false := by rfl
@[simp] theorem t_6_Ended : List.lookup ("Ended" : Str) t_6 = some true := by rfl
@[simp] theorem t_6_Deep : List.lookup ("Deep" : Str) t_6 = some true := by rfl
def dx_Refused : XcD := ⟨"Refused", "Refused.__init__", inClass (top 3) 0⟩
def dx_Ended : XcD := ⟨"Ended", "Ended.__init__", inClass (top 4) 0⟩
def dx_Deep : XcD := ⟨"Deep", "Deep.__init__", inClass (top 5) 0⟩
def xs : List XcD := [dx_Refused, dx_Ended, dx_Deep]
def bs : List (PySem.W.Frag → Bool) := [exT "Deep" t_0, exT "Ended" t_1, isT [.own "TagoctetsError"] t_2, isT [.ty "ValueError"] t_3, isT [.own "Refused", .own "Deep"] t_4, exT "Refused" t_5, isT [.own "Ended", .own "Deep"] t_6]
def m__law_read : MF := mDef 4 false
    ((mTry 4 (⟨t_5, 2, fun xa xc xd => (mSeq (mAsg (mAndV (mIsX 2 xa xc xd t_2) (mAndV (mIsX 2 xa xc xd t_3) (mNotV (mIsX 2 xa xc xd t_6)))) (mgName 3))
    (mRet (mTup (mCons (mC (.str "refused")) (mCons (mXf 2 xa xc xd ["Refused", "Ended", "Deep"] "place") (mCons (mVar 3) mNil))))))⟩ :: (⟨t_1, 2, fun xa xc xd => (mSeq (mAsg (mAndV (mIsX 2 xa xc xd t_2) (mAndV (mIsX 2 xa xc xd t_3) (mNotV (mIsX 2 xa xc xd t_4)))) (mgName 3))
    (mRet (mTup (mCons (mC (.str "ended")) (mCons (mXf 2 xa xc xd ["Refused", "Ended", "Deep"] "place") (mCons (mVar 3) mNil))))))⟩ :: (⟨t_0, 2, fun xa xc xd => (mRet (mTup (mCons (mC (.str "deep")) (mCons (mXf 2 xa xc xd ["Refused", "Ended", "Deep"] "place") (mCons (mC (.bl true)) mNil)))))⟩ :: []))) (mSeq (mIfS (mTest (mVar 1)) (mRet (mTup (mCons (mC (.str "told")) (mCons (mCallK 2 1 1 m_read_item [] [] (mCons (mVar 0) mNil) (mCons (mC (.bl true)) mNil)) mNil)))) mNext)
    (mRet (mTup (mCons (mC (.str "told")) (mCons (mCall 2 m_read_item [.bl false] (mCons (mVar 0) mNil)) mNil)))))))
def m__law_plan_reads : MF := mDef 5 false
    ((mSeq (mAsg (mCallM 1 (m__law_plan_octets 22) [] (mCons (mVar 0) mNil)) (mgName 2))
    (mSeq (mAsg (mN fList (mCons (mVar 2) mNil)) (mgName 3))
    (mSeq (mAsg (mTup (mCons (mC (.str "told")) (mCons (mCall 2 (m__law_plan_tree 22) [] (mCons (mVar 0) (mCons (mC (.int 0)) mNil))) mNil))) (mgName 4))
    (mSeq (mIfS (mOr (mNot (mTest (mCall 2 (m__law_equal 48) [] (mCons (mCall 2 m__law_read [] (mCons (mVar 2) (mCons (mVar 1) mNil))) (mCons (mVar 4) mNil))))) (mTest (m2 fNe (mVar 2) (mVar 3)))) (mRet (mC (.bl false))) mNext)
    (mSeq (mAsg (mC (.int 0)) (mgSub (mVar 2) (mC (.int 0))))
    (mSeq (mIfS (mNot (mTest (mCall 2 (m__law_equal 48) [] (mCons (mCall 2 m__law_read [] (mCons (mVar 2) (mCons (mVar 1) mNil))) (mCons (mTup (mCons (mC (.str "refused")) (mCons (mC (.int 0)) (mCons (mC (.bl true)) mNil)))) mNil))))) (mRet (mC (.bl false))) mNext)
    (mSeq (mAsg (m2 fIx (mVar 3) (mC (.int 0))) (mgSub (mVar 2) (mC (.int 0))))
    (mRet (mAndV (mCall 2 (m__law_equal 48) [] (mCons (mCall 2 m__law_read [] (mCons (mVar 2) (mCons (mVar 1) mNil))) (mCons (mVar 4) mNil))) (mCall 2 (m__law_equal 48) [] (mCons (mTup (mCons (mC (.str "told")) (mCons (mCallK 2 1 1 m_read_item [] [] (mCons (mVar 3) mNil) (mCons (mVar 1) mNil)) mNil))) (mCons (mVar 4) mNil)))))))))))))
def m__law_ends : MF := mDef 5 false
    ((mSeq (mFor (miSq (mLst (mCons (mC (.int 0)) (mCons (m2 (fI0 fun i j => .int (i - j)) (mN fLen (mCons (mVar 1) mNil)) (mC (.int 1))) (mCons (mCall 2 m__law_take [] (mCons (mVar 0) (mCons (mN fLen (mCons (mVar 1) mNil)) mNil))) (mCons (mCall 2 m__law_take [] (mCons (mVar 0) (mCons (mN fLen (mCons (mVar 1) mNil)) mNil))) mNil)))))) (mgName 3) (mIfS (mNot (mTest (mCall 2 (m__law_equal 48) [] (mCons (mCall 2 m__law_read [] (mCons (mSl (mVar 1) moNone (moSome (mVar 3))) (mCons (mVar 2) mNil))) (mCons (mTup (mCons (mC (.str "ended")) (mCons (mVar 3) (mCons (mC (.bl true)) mNil)))) mNil))))) (mRet (mC (.bl false))) mNext))
    (mSeq (mFor (miSq (mLst (mCons (mC (.int 0)) (mCons (mC (.int 1)) (mCons (mC (.int 128)) (mCons (mCall 2 m__law_take [] (mCons (mVar 0) (mCons (mC (.int 256)) mNil))) mNil)))))) (mgName 4) (mIfS (mNot (mTest (mCall 2 (m__law_equal 48) [] (mCons (mCall 2 m__law_read [] (mCons (m2 fAdd (mVar 1) (mLst (mCons (mVar 4) mNil))) (mCons (mVar 2) mNil))) (mCons (mTup (mCons (mC (.str "refused")) (mCons (mN fLen (mCons (mVar 1) mNil)) (mCons (mC (.bl true)) mNil)))) mNil))))) (mRet (mC (.bl false))) mNext))
    (mRet (mC (.bl true))))))
def m_law : MF := mDef 8 false
    ((mSeq (mAsg (mCall 1 m__law_store [] (mCons (mVar 0) mNil)) (mgName 1))
    (mSeq (mAsg (mCall 3 (m__law_plan 5) [] (mCons (mVar 1) (mCons (mCall 2 m__law_take [] (mCons (mVar 1) (mCons (mC (.int 5)) mNil))) (mCons (mCall 2 m__law_pick [] (mCons (mVar 1) (mCons (mLst (mCons (mC (.int 3)) (mCons (mC (.int 3)) (mCons (mC (.int 40)) (mCons (mC (.int 300)) (mCons (mC (.int 1500)) mNil)))))) mNil))) mNil)))) (mgName 2))
    (mSeq (mIfS (mTest (m2 fEq (mCall 2 m__law_take [] (mCons (mVar 1) (mCons (mC (.int 4)) mNil))) (mC (.int 3)))) (mAsg (mCall 2 m__law_deep_plan [] (mCons (mVar 1) (mCons (mCall 2 m__law_pick [] (mCons (mVar 1) (mCons (mLst (mCons (mC (.int 20)) (mCons (mC (.int 20)) (mCons (mC (.int 19)) (mCons (mCall 2 m__law_take [] (mCons (mVar 1) (mCons (mC (.int 21)) mNil))) mNil))))) mNil))) mNil))) (mgName 2)) mNext)
    (mSeq (mAsg (mTup (mCons (mC (.str "plain")) (mCons (mCall 1 m__law_tag [] (mCons (mVar 1) mNil)) (mCons (mTup (mCons (mCall 2 m__law_take [] (mCons (mVar 1) (mCons (mC (.int 256)) mNil))) mNil)) (mCons (mCall 2 m__law_take [] (mCons (mVar 1) (mCons (mC (.int 5)) mNil))) mNil))))) (mgName 3))
    (mSeq (mAsg (mCall 1 (m__law_strict_plan 22) [] (mCons (mVar 2) mNil)) (mgName 4))
    (mSeq (mIfS (mOr (mNot (mTest (mCall 2 m__law_plan_reads [] (mCons (mVar 2) (mCons (mC (.bl false)) mNil))))) (mNot (mTest (mCall 2 m__law_plan_reads [] (mCons (mVar 3) (mCons (mC (.bl false)) mNil)))))) (mRet (mC (.bl false))) mNext)
    (mSeq (mIfS (mOr (mNot (mTest (mCall 2 m__law_plan_reads [] (mCons (mVar 4) (mCons (mC (.bl true)) mNil))))) (mNot (mTest (mCall 2 m__law_plan_reads [] (mCons (mVar 4) (mCons (mC (.bl false)) mNil)))))) (mRet (mC (.bl false))) mNext)
    (mSeq (mAsg (mCall 1 (m__law_plan_octets 22) [] (mCons (mVar 2) mNil)) (mgName 5))
    (mSeq (mAsg (mCall 1 (m__law_plan_octets 22) [] (mCons (mVar 4) mNil)) (mgName 6))
    (mSeq (mIfS (mOr (mNot (mTest (mCall 3 m__law_ends [] (mCons (mVar 1) (mCons (mVar 5) (mCons (mC (.bl false)) mNil)))))) (mNot (mTest (mCall 3 m__law_ends [] (mCons (mVar 1) (mCons (mVar 6) (mCons (mC (.bl true)) mNil))))))) (mRet (mC (.bl false))) mNext)
    (mSeq (mAsg (mCall 2 m__law_read [] (mCons (mVar 5) (mCons (mC (.bl true)) mNil))) (mgName 7))
    (mSeq (mIfS (mTest (m2 fEq (mVar 5) (mVar 6))) (mRet (mCall 2 (m__law_equal 48) [] (mCons (mVar 7) (mCons (mTup (mCons (mC (.str "told")) (mCons (mCall 2 (m__law_plan_tree 22) [] (mCons (mVar 2) (mCons (mC (.int 0)) mNil))) mNil))) mNil)))) mNext)
    (mRet (mAndV (m2 fEq (m2 fIx (mVar 7) (mC (.int 0))) (mC (.str "refused"))) (mAndV (mCall 1 m__law_is_integer [] (mCons (m2 fIx (mVar 7) (mC (.int 1))) mNil)) (mAndV (m2 (fI0 fun i j => .bl (decide (i < j))) (mC (.int 0)) (m2 fIx (mVar 7) (mC (.int 1)))) (mAndV (m2 (fI0 fun i j => .bl (decide (i < j))) (m2 fIx (mVar 7) (mC (.int 1))) (mN fLen (mCons (mVar 5) mNil))) (m2 fIx (mVar 7) (mC (.int 2)))))))))))))))))))))
structure Zs (K : PySem.W.Frag) (mg : Str → Option Value) where
  f__law_mix : Addr
  fd__law_mix : FuncData
  F__law_mix : FnP K "_law_mix" s__law_mix f__law_mix fd__law_mix
  g__law_mix : mg "_law_mix" = some (.ref f__law_mix)
  b__law_mix : Binds K fd__law_mix ["_law_first", "_law_second"] []
  f__law_store : Addr
  fd__law_store : FuncData
  F__law_store : FnP K "_law_store" s__law_store f__law_store fd__law_store
  g__law_store : mg "_law_store" = some (.ref f__law_store)
  b__law_store : Binds K fd__law_store ["_law_script"] []
  f__law_take : Addr
  fd__law_take : FuncData
  F__law_take : FnP K "_law_take" s__law_take f__law_take fd__law_take
  g__law_take : mg "_law_take" = some (.ref f__law_take)
  b__law_take : Binds K fd__law_take ["_law_store_here", "_law_many"] []
  f__law_pick : Addr
  fd__law_pick : FuncData
  F__law_pick : FnP K "_law_pick" s__law_pick f__law_pick fd__law_pick
  g__law_pick : mg "_law_pick" = some (.ref f__law_pick)
  b__law_pick : Binds K fd__law_pick ["_law_store_here", "_law_row"] []
  f__law_equal : Addr
  fd__law_equal : FuncData
  F__law_equal : FnP K "_law_equal" s__law_equal f__law_equal fd__law_equal
  g__law_equal : mg "_law_equal" = some (.ref f__law_equal)
  b__law_equal : Binds K fd__law_equal ["_law_first", "_law_second"] []
  f__law_is_integer : Addr
  fd__law_is_integer : FuncData
  F__law_is_integer : FnP K "_law_is_integer" s__law_is_integer f__law_is_integer fd__law_is_integer
  g__law_is_integer : mg "_law_is_integer" = some (.ref f__law_is_integer)
  b__law_is_integer : Binds K fd__law_is_integer ["_law_thing"] []
  f__law_tag : Addr
  fd__law_tag : FuncData
  F__law_tag : FnP K "_law_tag" s__law_tag f__law_tag fd__law_tag
  g__law_tag : mg "_law_tag" = some (.ref f__law_tag)
  b__law_tag : Binds K fd__law_tag ["_law_store_here"] []
  f__law_octet : Addr
  fd__law_octet : FuncData
  F__law_octet : FnP K "_law_octet" s__law_octet f__law_octet fd__law_octet
  g__law_octet : mg "_law_octet" = some (.ref f__law_octet)
  b__law_octet : Binds K fd__law_octet ["_law_store_here"] []
  f__law_plan : Addr
  fd__law_plan : FuncData
  F__law_plan : FnP K "_law_plan" s__law_plan f__law_plan fd__law_plan
  g__law_plan : mg "_law_plan" = some (.ref f__law_plan)
  b__law_plan : Binds K fd__law_plan ["_law_store_here", "_law_depth", "_law_long"] []
  f__law_deep_plan : Addr
  fd__law_deep_plan : FuncData
  F__law_deep_plan : FnP K "_law_deep_plan" s__law_deep_plan f__law_deep_plan fd__law_deep_plan
  g__law_deep_plan : mg "_law_deep_plan" = some (.ref f__law_deep_plan)
  b__law_deep_plan : Binds K fd__law_deep_plan ["_law_store_here", "_law_many"] []
  f__law_strict_plan : Addr
  fd__law_strict_plan : FuncData
  F__law_strict_plan : FnP K "_law_strict_plan" s__law_strict_plan f__law_strict_plan fd__law_strict_plan
  g__law_strict_plan : mg "_law_strict_plan" = some (.ref f__law_strict_plan)
  b__law_strict_plan : Binds K fd__law_strict_plan ["_law_plan_here"] []
  f__law_length_row : Addr
  fd__law_length_row : FuncData
  F__law_length_row : FnP K "_law_length_row" s__law_length_row f__law_length_row fd__law_length_row
  g__law_length_row : mg "_law_length_row" = some (.ref f__law_length_row)
  b__law_length_row : Binds K fd__law_length_row ["_law_length", "_law_form"] []
  f__law_chain : Addr
  fd__law_chain : FuncData
  F__law_chain : FnP K "_law_chain" s__law_chain f__law_chain fd__law_chain
  g__law_chain : mg "_law_chain" = some (.ref f__law_chain)
  b__law_chain : Binds K fd__law_chain ["_law_number"] []
  f__law_identifier : Addr
  fd__law_identifier : FuncData
  F__law_identifier : FnP K "_law_identifier" s__law_identifier f__law_identifier fd__law_identifier
  g__law_identifier : mg "_law_identifier" = some (.ref f__law_identifier)
  b__law_identifier : Binds K fd__law_identifier ["_law_tag_here", "_law_built"] []
  f__law_plan_octets : Addr
  fd__law_plan_octets : FuncData
  F__law_plan_octets : FnP K "_law_plan_octets" s__law_plan_octets f__law_plan_octets fd__law_plan_octets
  g__law_plan_octets : mg "_law_plan_octets" = some (.ref f__law_plan_octets)
  b__law_plan_octets : Binds K fd__law_plan_octets ["_law_plan_here"] []
  f__law_plan_tree : Addr
  fd__law_plan_tree : FuncData
  F__law_plan_tree : FnP K "_law_plan_tree" s__law_plan_tree f__law_plan_tree fd__law_plan_tree
  g__law_plan_tree : mg "_law_plan_tree" = some (.ref f__law_plan_tree)
  b__law_plan_tree : Binds K fd__law_plan_tree ["_law_plan_here", "_law_begin"] []
  f_ItemReader___init__ : Addr
  fd_ItemReader___init__ : FuncData
  F_ItemReader___init__ : FunD K "__init__" "ItemReader.__init__" (defArgs s_ItemReader___init__) (defBody s_ItemReader___init__) (defScope s_ItemReader___init__) [] [("strict", .bl false)] f_ItemReader___init__ fd_ItemReader___init__
  kb_ItemReader___init___1_1 : ∃ g, KBn K fd_ItemReader___init__ ["self", "strict"] 1 ["strict"] g (gVK [] [])
  f_ItemReader_raise_spoilt : Addr
  fd_ItemReader_raise_spoilt : FuncData
  F_ItemReader_raise_spoilt : FunD K "raise_spoilt" "ItemReader.raise_spoilt" (defArgs s_ItemReader_raise_spoilt) (defBody s_ItemReader_raise_spoilt) (defScope s_ItemReader_raise_spoilt) [] [] f_ItemReader_raise_spoilt fd_ItemReader_raise_spoilt
  b_ItemReader_raise_spoilt : Binds K fd_ItemReader_raise_spoilt ["self"] []
  me_ItemReader_raise_spoilt : Meth K (He.ga K "ItemReader") "raise_spoilt" f_ItemReader_raise_spoilt
  f_ItemReader_room_left : Addr
  fd_ItemReader_room_left : FuncData
  F_ItemReader_room_left : FunD K "room_left" "ItemReader.room_left" (defArgs s_ItemReader_room_left) (defBody s_ItemReader_room_left) (defScope s_ItemReader_room_left) [] [] f_ItemReader_room_left fd_ItemReader_room_left
  b_ItemReader_room_left : Binds K fd_ItemReader_room_left ["self"] []
  me_ItemReader_room_left : Meth K (He.ga K "ItemReader") "room_left" f_ItemReader_room_left
  f_ItemReader_allows_begin : Addr
  fd_ItemReader_allows_begin : FuncData
  F_ItemReader_allows_begin : FunD K "allows_begin" "ItemReader.allows_begin" (defArgs s_ItemReader_allows_begin) (defBody s_ItemReader_allows_begin) (defScope s_ItemReader_allows_begin) [] [] f_ItemReader_allows_begin fd_ItemReader_allows_begin
  b_ItemReader_allows_begin : Binds K fd_ItemReader_allows_begin ["self", "octet"] []
  me_ItemReader_allows_begin : Meth K (He.ga K "ItemReader") "allows_begin" f_ItemReader_allows_begin
  f_ItemReader_allows_chain : Addr
  fd_ItemReader_allows_chain : FuncData
  F_ItemReader_allows_chain : FunD K "allows_chain" "ItemReader.allows_chain" (defArgs s_ItemReader_allows_chain) (defBody s_ItemReader_allows_chain) (defScope s_ItemReader_allows_chain) [] [] f_ItemReader_allows_chain fd_ItemReader_allows_chain
  b_ItemReader_allows_chain : Binds K fd_ItemReader_allows_chain ["self", "octet"] []
  me_ItemReader_allows_chain : Meth K (He.ga K "ItemReader") "allows_chain" f_ItemReader_allows_chain
  f_fills : Addr
  fd_fills : FuncData
  F_fills : FnP K "fills" s_fills f_fills fd_fills
  g_fills : mg "fills" = some (.ref f_fills)
  b_fills : Binds K fd_fills ["room", "low", "high", "built"] []
  f_length_fills : Addr
  fd_length_fills : FuncData
  F_length_fills : FnP K "length_fills" s_length_fills f_length_fills fd_length_fills
  g_length_fills : mg "length_fills" = some (.ref f_length_fills)
  b_length_fills : Binds K fd_length_fills ["room", "number", "rest", "built"] []
  f_ItemReader_allows_length : Addr
  fd_ItemReader_allows_length : FuncData
  F_ItemReader_allows_length : FunD K "allows_length" "ItemReader.allows_length" (defArgs s_ItemReader_allows_length) (defBody s_ItemReader_allows_length) (defScope s_ItemReader_allows_length) [] [] f_ItemReader_allows_length fd_ItemReader_allows_length
  b_ItemReader_allows_length : Binds K fd_ItemReader_allows_length ["self", "octet"] []
  me_ItemReader_allows_length : Meth K (He.ga K "ItemReader") "allows_length" f_ItemReader_allows_length
  f_bad_length_digit : Addr
  fd_bad_length_digit : FuncData
  F_bad_length_digit : FnP K "bad_length_digit" s_bad_length_digit f_bad_length_digit fd_bad_length_digit
  g_bad_length_digit : mg "bad_length_digit" = some (.ref f_bad_length_digit)
  b_bad_length_digit : Binds K fd_bad_length_digit ["width", "index", "octet", "least"] []
  f_ItemReader_allows_digit : Addr
  fd_ItemReader_allows_digit : FuncData
  F_ItemReader_allows_digit : FunD K "allows_digit" "ItemReader.allows_digit" (defArgs s_ItemReader_allows_digit) (defBody s_ItemReader_allows_digit) (defScope s_ItemReader_allows_digit) [] [] f_ItemReader_allows_digit fd_ItemReader_allows_digit
  b_ItemReader_allows_digit : Binds K fd_ItemReader_allows_digit ["self", "octet"] []
  me_ItemReader_allows_digit : Meth K (He.ga K "ItemReader") "allows_digit" f_ItemReader_allows_digit
  f_ItemReader_allows_octet : Addr
  fd_ItemReader_allows_octet : FuncData
  F_ItemReader_allows_octet : FunD K "allows_octet" "ItemReader.allows_octet" (defArgs s_ItemReader_allows_octet) (defBody s_ItemReader_allows_octet) (defScope s_ItemReader_allows_octet) [] [] f_ItemReader_allows_octet fd_ItemReader_allows_octet
  b_ItemReader_allows_octet : Binds K fd_ItemReader_allows_octet ["self", "octet"] []
  me_ItemReader_allows_octet : Meth K (He.ga K "ItemReader") "allows_octet" f_ItemReader_allows_octet
  f_ItemReader_is_too_deep : Addr
  fd_ItemReader_is_too_deep : FuncData
  F_ItemReader_is_too_deep : FunD K "is_too_deep" "ItemReader.is_too_deep" (defArgs s_ItemReader_is_too_deep) (defBody s_ItemReader_is_too_deep) (defScope s_ItemReader_is_too_deep) [] [] f_ItemReader_is_too_deep fd_ItemReader_is_too_deep
  b_ItemReader_is_too_deep : Binds K fd_ItemReader_is_too_deep ["self", "octet"] []
  me_ItemReader_is_too_deep : Meth K (He.ga K "ItemReader") "is_too_deep" f_ItemReader_is_too_deep
  f_octet_at : Addr
  fd_octet_at : FuncData
  F_octet_at : FnP K "octet_at" s_octet_at f_octet_at fd_octet_at
  g_octet_at : mg "octet_at" = some (.ref f_octet_at)
  b_octet_at : Binds K fd_octet_at ["octets", "place"] []
  f_read_identifier : Addr
  fd_read_identifier : FuncData
  F_read_identifier : FnP K "read_identifier" s_read_identifier f_read_identifier fd_read_identifier [.int (0)] []
  g_read_identifier : mg "read_identifier" = some (.ref f_read_identifier)
  b_read_identifier_1 : ∃ zs, Vals ([.int (0)] : List V) zs ∧ Binds K fd_read_identifier ["octets", "at"] zs
  f_ItemReader_end_identifier : Addr
  fd_ItemReader_end_identifier : FuncData
  F_ItemReader_end_identifier : FunD K "end_identifier" "ItemReader.end_identifier" (defArgs s_ItemReader_end_identifier) (defBody s_ItemReader_end_identifier) (defScope s_ItemReader_end_identifier) [] [] f_ItemReader_end_identifier fd_ItemReader_end_identifier
  b_ItemReader_end_identifier : Binds K fd_ItemReader_end_identifier ["self"] []
  me_ItemReader_end_identifier : Meth K (He.ga K "ItemReader") "end_identifier" f_ItemReader_end_identifier
  f_ItemReader_close_item : Addr
  fd_ItemReader_close_item : FuncData
  F_ItemReader_close_item : FunD K "close_item" "ItemReader.close_item" (defArgs s_ItemReader_close_item) (defBody s_ItemReader_close_item) (defScope s_ItemReader_close_item) [] [] f_ItemReader_close_item fd_ItemReader_close_item
  b_ItemReader_close_item : Binds K fd_ItemReader_close_item ["self"] []
  me_ItemReader_close_item : Meth K (He.ga K "ItemReader") "close_item" f_ItemReader_close_item
  f_ItemReader_put_item : Addr
  fd_ItemReader_put_item : FuncData
  F_ItemReader_put_item : FunD K "put_item" "ItemReader.put_item" (defArgs s_ItemReader_put_item) (defBody s_ItemReader_put_item) (defScope s_ItemReader_put_item) [] [] f_ItemReader_put_item fd_ItemReader_put_item
  b_ItemReader_put_item : Binds K fd_ItemReader_put_item ["self", "tree"] []
  me_ItemReader_put_item : Meth K (He.ga K "ItemReader") "put_item" f_ItemReader_put_item
  f_ItemReader_accept_begin : Addr
  fd_ItemReader_accept_begin : FuncData
  F_ItemReader_accept_begin : FunD K "accept_begin" "ItemReader.accept_begin" (defArgs s_ItemReader_accept_begin) (defBody s_ItemReader_accept_begin) (defScope s_ItemReader_accept_begin) [] [] f_ItemReader_accept_begin fd_ItemReader_accept_begin
  b_ItemReader_accept_begin : Binds K fd_ItemReader_accept_begin ["self", "octet"] []
  me_ItemReader_accept_begin : Meth K (He.ga K "ItemReader") "accept_begin" f_ItemReader_accept_begin
  f_OpenItem___init__ : Addr
  fd_OpenItem___init__ : FuncData
  F_OpenItem___init__ : FunD K "__init__" "OpenItem.__init__" (defArgs s_OpenItem___init__) (defBody s_OpenItem___init__) (defScope s_OpenItem___init__) [] [] f_OpenItem___init__ fd_OpenItem___init__
  b_OpenItem___init__ : Binds K fd_OpenItem___init__ ["self", "tag_pair", "first_place", "end_place", "room_end"] []
  f_ItemReader_end_plain : Addr
  fd_ItemReader_end_plain : FuncData
  F_ItemReader_end_plain : FunD K "end_plain" "ItemReader.end_plain" (defArgs s_ItemReader_end_plain) (defBody s_ItemReader_end_plain) (defScope s_ItemReader_end_plain) [] [] f_ItemReader_end_plain fd_ItemReader_end_plain
  b_ItemReader_end_plain : Binds K fd_ItemReader_end_plain ["self"] []
  me_ItemReader_end_plain : Meth K (He.ga K "ItemReader") "end_plain" f_ItemReader_end_plain
  f_ItemReader_begin_contents : Addr
  fd_ItemReader_begin_contents : FuncData
  F_ItemReader_begin_contents : FunD K "begin_contents" "ItemReader.begin_contents" (defArgs s_ItemReader_begin_contents) (defBody s_ItemReader_begin_contents) (defScope s_ItemReader_begin_contents) [] [] f_ItemReader_begin_contents fd_ItemReader_begin_contents
  b_ItemReader_begin_contents : Binds K fd_ItemReader_begin_contents ["self", "length"] []
  me_ItemReader_begin_contents : Meth K (He.ga K "ItemReader") "begin_contents" f_ItemReader_begin_contents
  f_ItemReader_accept_length : Addr
  fd_ItemReader_accept_length : FuncData
  F_ItemReader_accept_length : FunD K "accept_length" "ItemReader.accept_length" (defArgs s_ItemReader_accept_length) (defBody s_ItemReader_accept_length) (defScope s_ItemReader_accept_length) [] [] f_ItemReader_accept_length fd_ItemReader_accept_length
  b_ItemReader_accept_length : Binds K fd_ItemReader_accept_length ["self", "octet"] []
  me_ItemReader_accept_length : Meth K (He.ga K "ItemReader") "accept_length" f_ItemReader_accept_length
  f_ItemReader_accept_octet : Addr
  fd_ItemReader_accept_octet : FuncData
  F_ItemReader_accept_octet : FunD K "accept_octet" "ItemReader.accept_octet" (defArgs s_ItemReader_accept_octet) (defBody s_ItemReader_accept_octet) (defScope s_ItemReader_accept_octet) [] [] f_ItemReader_accept_octet fd_ItemReader_accept_octet
  b_ItemReader_accept_octet : Binds K fd_ItemReader_accept_octet ["self", "octet"] []
  me_ItemReader_accept_octet : Meth K (He.ga K "ItemReader") "accept_octet" f_ItemReader_accept_octet
  f_ItemReader_push : Addr
  fd_ItemReader_push : FuncData
  F_ItemReader_push : FunD K "push" "ItemReader.push" (defArgs s_ItemReader_push) (defBody s_ItemReader_push) (defScope s_ItemReader_push) [] [] f_ItemReader_push fd_ItemReader_push
  b_ItemReader_push : Binds K fd_ItemReader_push ["self", "octets"] []
  me_ItemReader_push : Meth K (He.ga K "ItemReader") "push" f_ItemReader_push
  f_ItemReader_finish : Addr
  fd_ItemReader_finish : FuncData
  F_ItemReader_finish : FunD K "finish" "ItemReader.finish" (defArgs s_ItemReader_finish) (defBody s_ItemReader_finish) (defScope s_ItemReader_finish) [] [] f_ItemReader_finish fd_ItemReader_finish
  b_ItemReader_finish : Binds K fd_ItemReader_finish ["self"] []
  me_ItemReader_finish : Meth K (He.ga K "ItemReader") "finish" f_ItemReader_finish
  f_read_item : Addr
  fd_read_item : FuncData
  F_read_item : FnP K "read_item" s_read_item f_read_item fd_read_item [] [("strict", .bl false)]
  g_read_item : mg "read_item" = some (.ref f_read_item)
  b_read_item_1 : ∃ zs, Vals ([.bl false] : List V) zs ∧ Binds K fd_read_item ["octets", "strict"] zs
  kb_read_item_1_1 : ∃ g, KBn K fd_read_item ["octets", "strict"] 1 ["strict"] g (gVK [] [])
  f__law_read : Addr
  fd__law_read : FuncData
  F__law_read : FnP K "_law_read" s__law_read f__law_read fd__law_read
  g__law_read : mg "_law_read" = some (.ref f__law_read)
  b__law_read : Binds K fd__law_read ["_law_row", "_law_flag"] []
  f__law_plan_reads : Addr
  fd__law_plan_reads : FuncData
  F__law_plan_reads : FnP K "_law_plan_reads" s__law_plan_reads f__law_plan_reads fd__law_plan_reads
  g__law_plan_reads : mg "_law_plan_reads" = some (.ref f__law_plan_reads)
  b__law_plan_reads : Binds K fd__law_plan_reads ["_law_plan_here", "_law_flag"] []
  f__law_ends : Addr
  fd__law_ends : FuncData
  F__law_ends : FnP K "_law_ends" s__law_ends f__law_ends fd__law_ends
  g__law_ends : mg "_law_ends" = some (.ref f__law_ends)
  b__law_ends : Binds K fd__law_ends ["_law_store_here", "_law_row", "_law_flag"] []
  f_law : Addr
  fd_law : FuncData
  F_law : FnP K "law" s_law f_law fd_law
  g_law : mg "law" = some (.ref f_law)
  b_law : Binds K fd_law ["_law_script"] []
  g_ItemReader : mg "ItemReader" = some (.ref (He.ga K "ItemReader"))
  mk_ItemReader : Mk K (He.ga K "ItemReader") f_ItemReader___init__
  g_OpenItem : mg "OpenItem" = some (.ref (He.ga K "OpenItem"))
  mk_OpenItem : Mk K (He.ga K "OpenItem") f_OpenItem___init__
  c_ItemReader : Cls K (He.ga K "ItemReader")
  c_OpenItem : Cls K (He.ga K "OpenItem")
  na_OpenItem_tag_pair : NoAttr K (He.ga K "OpenItem") "tag_pair"
  na_OpenItem_first_place : NoAttr K (He.ga K "OpenItem") "first_place"
  na_OpenItem_end_place : NoAttr K (He.ga K "OpenItem") "end_place"
  na_OpenItem_room_end : NoAttr K (He.ga K "OpenItem") "room_end"
  na_OpenItem_inner_items : NoAttr K (He.ga K "OpenItem") "inner_items"
  na_ItemReader_only_strict : NoAttr K (He.ga K "ItemReader") "only_strict"
  na_ItemReader_place : NoAttr K (He.ga K "ItemReader") "place"
  na_ItemReader_spoilt_by : NoAttr K (He.ga K "ItemReader") "spoilt_by"
  na_ItemReader_stage : NoAttr K (He.ga K "ItemReader") "stage"
  na_ItemReader_open_items : NoAttr K (He.ga K "ItemReader") "open_items"
  na_ItemReader_head_octets : NoAttr K (He.ga K "ItemReader") "head_octets"
  na_ItemReader_head_place : NoAttr K (He.ga K "ItemReader") "head_place"
  na_ItemReader_head_tag : NoAttr K (He.ga K "ItemReader") "head_tag"
  na_ItemReader_head_built : NoAttr K (He.ga K "ItemReader") "head_built"
  na_ItemReader_length_so_far : NoAttr K (He.ga K "ItemReader") "length_so_far"
  na_ItemReader_digits_all : NoAttr K (He.ga K "ItemReader") "digits_all"
  na_ItemReader_digits_read : NoAttr K (He.ga K "ItemReader") "digits_read"
  na_ItemReader_content_so_far : NoAttr K (He.ga K "ItemReader") "content_so_far"
  na_ItemReader_content_due : NoAttr K (He.ga K "ItemReader") "content_due"
  na_ItemReader_whole_item : NoAttr K (He.ga K "ItemReader") "whole_item"
  z_len : mg "len" = none
  z_min : mg "min" = none
  z_int : mg "int" = none
  z_list : mg "list" = none
  z_abs : mg "abs" = none
  z_range : mg "range" = none
  z_isinstance : mg "isinstance" = none
  z_tuple : mg "tuple" = none
  z_bool : mg "bool" = none
  z_str : mg "str" = none
  z_max : mg "max" = none
  z_ValueError : mg "ValueError" = none
  g_LENGTH_MOST : ∃ t, mg "LENGTH_MOST" = some (.int (65535) t)
  g_AT_ITEM : ∃ t, mg "AT_ITEM" = some (.str "item" t)
  g_AT_END : ∃ t, mg "AT_END" = some (.str "end" t)
  g_AT_CHAIN : ∃ t, mg "AT_CHAIN" = some (.str "chain" t)
  g_AT_LENGTH : ∃ t, mg "AT_LENGTH" = some (.str "length" t)
  g_AT_DIGIT : ∃ t, mg "AT_DIGIT" = some (.str "digit" t)
  g_AT_CONTENT : ∃ t, mg "AT_CONTENT" = some (.str "content" t)
  g_DEPTH : ∃ t, mg "DEPTH" = some (.int (20) t)
  x_Refused : ∀ (w : World) (base : Heap), XcF P w K mg base "Refused"
  x_Ended : ∀ (w : World) (base : Heap), XcF P w K mg base "Ended"
  x_Deep : ∀ (w : World) (base : Heap), XcF P w K mg base "Deep"
  gx_Deep : mg "Deep" = some (.ref (He.ga K "Deep"))
  gx_TagoctetsError : mg "TagoctetsError" = some (.ref (He.ga K "TagoctetsError"))
  gx_Refused : mg "Refused" = some (.ref (He.ga K "Refused"))
  gx_Ended : mg "Ended" = some (.ref (He.ga K "Ended"))
  xf : ∀ z ∈ (["Refused", "Ended", "Deep"] : List Str), XfC K (He.ga K z) ∧ PySem.W.findIn K (.ref (He.ga K z)) "place" = some none
  t_0 : ∀ c b, t_0.lookup c = some b → PySem.W.exmOne K (.ref (He.ga K c)) (.ref (He.ga K "Deep")) = some b
  t_1 : ∀ c b, t_1.lookup c = some b → PySem.W.exmOne K (.ref (He.ga K c)) (.ref (He.ga K "Ended")) = some b
  t_2 : IsT K [.ref (He.ga K "TagoctetsError")] t_2
  t_3 : IsT K [.type "ValueError"] t_3
  t_4 : IsT K [.ref (He.ga K "Refused"), .ref (He.ga K "Deep")] t_4
  t_5 : ∀ c b, t_5.lookup c = some b → PySem.W.exmOne K (.ref (He.ga K c)) (.ref (He.ga K "Refused")) = some b
  t_6 : IsT K [.ref (He.ga K "Ended"), .ref (He.ga K "Deep")] t_6
section
variable {w : World} {K : PySem.W.Frag} {mg : Str → Option Value} {base : Heap}
theorem ok__law_mix (Z : Zs K mg) : FnOk P w K mg base (L2.CX P w) 1 Z.f__law_mix Z.fd__law_mix ["_law_first", "_law_second"] (spM K 2 false m__law_mix) := fn_ok Z.F__law_mix sc__law_mix rfl 4 rfl fun cdv A outer s H E hr => ⟨_,
    (dss_cons (ds_set 2 sc__law_mix.nd (de_op op_mod (sim_I fun _ _ _ _ => rfl) (de_callTy call_int1 sim_int rfl Z.z_int (by decide +kernel) (da_cons (de_op (op_addK K) sim_add (de_op (op_addK K) sim_add (de_op op_mulA sim_mul (de_var 0) de_int) (de_op op_mulA sim_mul (de_var 1) de_int)) de_int) da_nil)) de_int))
    (dss_cons (ds_set 3 sc__law_mix.nd (de_op op_mod (sim_I fun _ _ _ _ => rfl) (de_callTy call_int1 sim_int rfl Z.z_int (by decide +kernel) (da_cons (de_op (op_addK K) sim_add (de_op (op_addK K) sim_add (de_op (op_addK K) sim_add (de_op op_mulA sim_mul (de_var 2) (de_var 2)) (de_op op_mulA sim_mul (de_op op_fdivW (sim_I fun _ _ _ _ => rfl) (de_var 2) de_int) de_int)) (de_var 1)) de_int) da_nil)) de_int))
    (dss_one (ds_ret (de_op op_mod (sim_I fun _ _ _ _ => rfl) (de_callTy call_int1 sim_int rfl Z.z_int (by decide +kernel) (da_cons (de_op (op_addK K) sim_add (de_op op_mulA sim_mul (de_var 3) de_int) (de_op op_fdivW (sim_I fun _ _ _ _ => rfl) (de_var 2) de_int)) da_nil)) de_int)))))⟩
theorem ok__law_store (Z : Zs K mg) : FnOk P w K mg base (L2.CX P w) 2 Z.f__law_store Z.fd__law_store ["_law_script"] (spM K 1 false m__law_store) := fn_ok Z.F__law_store sc__law_store rfl 3 rfl fun cdv A outer s H E hr => ⟨_,
    (dss_cons (ds_set 1 sc__law_store.nd de_int)
    (dss_cons (ds_for (passes_of rfl) rfl (di_sq K (de_var 0)) (dg_name 2 sc__law_store.nd) (dss_one (ds_set 1 sc__law_store.nd (de_call K (ok__law_mix Z) (takes_of rfl rfl rfl rfl) (hr.mono (by decide)) rfl Z.g__law_mix Z.F__law_mix.kp Z.b__law_mix .nil (fun _ _ => rfl) (da_cons (de_var 1) (da_cons (de_op op_mod (sim_I fun _ _ _ _ => rfl) (de_callTy call_int1 sim_int rfl Z.z_int (by decide +kernel) (da_cons (de_var 2) da_nil)) de_int) da_nil))))))
    (dss_one (ds_ret (de_disp (DPs.cons de_str (de_callTy (call_listK K) sim_list rfl Z.z_list (by decide +kernel) (da_cons (de_var 0) da_nil)) (DPs.cons de_str de_int (DPs.cons de_str de_int (DPs.cons de_str de_int (DPs.cons de_str de_int (DPs.cons de_str de_int (DPs.cons de_str (de_var 1) DPs.nil))))))))))))⟩
theorem ok__law_take (Z : Zs K mg) : FnOk P w K mg base (L2.CX P w) 2 Z.f__law_take Z.fd__law_take ["_law_store_here", "_law_many"] (spM K 2 false m__law_take) := fn_ok Z.F__law_take sc__law_take rfl 8 rfl fun cdv A outer s H E hr => ⟨_,
    (dss_cons (ds_if (dt_cmp op_lt (sim_I0 fun _ _ _ _ => rfl) (de_var 1) de_int (nomark _)) (dss_one (ds_ret de_int)) dss_nil)
    (dss_cons (ds_if (dt_w (dw_and (dt_cmp (op_eqK K hr) sim_eq (de_dget (u1 hr) (de_var 0) de_str) de_int (nomark _)) (dw_and (dt_cmp (op_eqK K hr) sim_eq (de_dget (u1 hr) (de_var 0) de_str) de_int (nomark _)) (dw_and1 (dt_cmp op_lt (sim_I0 fun _ _ _ _ => rfl) (de_dget (u1 hr) (de_var 0) de_str) (de_callB (call_lenK K) sim_len rfl Z.z_len (by decide +kernel) (da_cons (de_dget (u1 hr) (de_var 0) de_str) da_nil)) (nomark _)))))) (dss_cons (ds_set 2 sc__law_take.nd (de_ix K (de_dget (u1 hr) (de_var 0) de_str) (de_dget (u1 hr) (de_var 0) de_str)))
    (dss_cons (ds_dput (u1 hr) (de_var 0) de_str (de_op (op_addK K) sim_add (de_dget (u1 hr) (de_var 0) de_str) de_int))
    (dss_one (ds_if (dt_cmp op_ge (sim_I0 fun _ _ _ _ => rfl) (de_callB call_abs sim_abs rfl Z.z_abs (by decide +kernel) (da_cons (de_var 2) da_nil)) (de_op op_pow (sim_I fun _ _ _ _ => rfl) de_int de_int) (nomark _)) (dss_one (ds_dput (u1 hr) (de_var 0) de_str (de_callB call_abs sim_abs rfl Z.z_abs (by decide +kernel) (da_cons (de_var 2) da_nil)))) (dss_cons (ds_dput (u1 hr) (de_var 0) de_str (de_var 2))
    (dss_one (ds_dput (u1 hr) (de_var 0) de_str de_int))))))) dss_nil)
    (dss_cons (ds_if (dt_cmp op_gt (sim_I0 fun _ _ _ _ => rfl) (de_dget (u1 hr) (de_var 0) de_str) de_int (nomark _)) (dss_cons (ds_set 3 sc__law_take.nd (de_dget (u1 hr) (de_var 0) de_str))
    (dss_cons (ds_dput (u1 hr) (de_var 0) de_str (de_op op_fdivW (sim_I fun _ _ _ _ => rfl) (de_var 3) (de_var 1)))
    (dss_one (ds_ret (de_op op_mod (sim_I fun _ _ _ _ => rfl) (de_callTy call_int1 sim_int rfl Z.z_int (by decide +kernel) (da_cons (de_var 3) da_nil)) (de_var 1)))))) dss_nil)
    (dss_cons (ds_set 4 sc__law_take.nd (de_dget (u1 hr) (de_var 0) de_str))
    (dss_cons (ds_if (dt_cmp op_gt (sim_I0 fun _ _ _ _ => rfl) (de_dget (u1 hr) (de_var 0) de_str) de_int (nomark _)) (dss_cons (ds_dput (u1 hr) (de_var 0) de_str (de_op op_sub (sim_I0 fun _ _ _ _ => rfl) (de_dget (u1 hr) (de_var 0) de_str) de_int))
    (dss_one (ds_set 4 sc__law_take.nd (de_dget (u1 hr) (de_var 0) de_str)))) dss_nil)
    (dss_cons (ds_set 5 sc__law_take.nd de_int)
    (dss_cons (ds_set 6 sc__law_take.nd de_int)
    (dss_cons (ds_if (dt_cmp op_gt (sim_I0 fun _ _ _ _ => rfl) (de_var 1) (de_op op_pow (sim_I fun _ _ _ _ => rfl) de_int de_int) (nomark _)) (dss_one (ds_set 6 sc__law_take.nd de_int)) dss_nil)
    (dss_cons (ds_for (passes_of rfl) rfl (di_r1 rfl Z.z_range (da_cons (de_var 6) da_nil)) (dg_name 7 sc__law_take.nd) (dss_cons (ds_dput (u1 hr) (de_var 0) de_str (de_op (op_addK K) sim_add (de_dget (u1 hr) (de_var 0) de_str) de_int))
    (dss_one (ds_set 5 sc__law_take.nd (de_op (op_addK K) sim_add (de_op op_mulA sim_mul (de_var 5) de_int) (de_call K (ok__law_mix Z) (takes_of rfl rfl rfl rfl) (hr.mono (by decide)) rfl Z.g__law_mix Z.F__law_mix.kp Z.b__law_mix .nil (fun _ _ => rfl) (da_cons (de_var 4) (da_cons (de_dget (u1 hr) (de_var 0) de_str) da_nil))))))))
    (dss_one (ds_ret (de_op op_mod (sim_I fun _ _ _ _ => rfl) (de_callTy call_int1 sim_int rfl Z.z_int (by decide +kernel) (da_cons (de_var 5) da_nil)) (de_var 1)))))))))))))⟩
theorem ok__law_pick (Z : Zs K mg) : FnOk P w K mg base (L2.CX P w) 3 Z.f__law_pick Z.fd__law_pick ["_law_store_here", "_law_row"] (spM K 2 false m__law_pick) := fn_ok Z.F__law_pick sc__law_pick rfl 2 rfl fun cdv A outer s H E hr => ⟨_,
    (dss_one (ds_ret (de_ix K (de_var 1) (de_call K (ok__law_take Z) (takes_of rfl rfl rfl rfl) (hr.mono (by decide)) rfl Z.g__law_take Z.F__law_take.kp Z.b__law_take .nil (fun _ _ => rfl) (da_cons (de_var 0) (da_cons (de_callB (call_lenK K) sim_len rfl Z.z_len (by decide +kernel) (da_cons (de_var 1) da_nil)) da_nil))))))⟩
theorem ok__law_equal (Z : Zs K mg) : ∀ n : Nat, FnOk P w K mg base (L2.CX P w) (1 + n) Z.f__law_equal Z.fd__law_equal ["_law_first", "_law_second"] (spM K 2 false (m__law_equal n))
  | 0 => FunD.ok Z.F__law_equal sc__law_equal (fun vs H Q E z => z.1) (fun cdv A outer s H vs Q E hr z => by obtain ⟨_, α, hp, ss, R, Xp, _, _, m, _⟩ := z; exact m.elim)
  | n + 1 => fn_ok (k := 1 + n) Z.F__law_equal sc__law_equal rfl 3 rfl fun cdv A outer s H E hr => ⟨_,
    (dss_cons (ds_if (dt_val (de_callB (call_isiK' K) sim_isi rfl Z.z_isinstance (by decide +kernel) (da_cons (de_var 0) (da_cons (de_tup (da_cons (de_ty rfl Z.z_list (by decide +kernel)) (da_cons (de_ty rfl Z.z_tuple (by decide +kernel)) da_nil))) da_nil)))) (dss_cons (ds_if (dt_w (dw_or (dt_cmp (op_neK K hr) sim_ne (de_callB (call_isiK' K) sim_isi rfl Z.z_isinstance (by decide +kernel) (da_cons (de_var 0) (da_cons (de_ty rfl Z.z_list (by decide +kernel)) da_nil))) (de_callB (call_isiK' K) sim_isi rfl Z.z_isinstance (by decide +kernel) (da_cons (de_var 1) (da_cons (de_ty rfl Z.z_list (by decide +kernel)) da_nil))) (nomark _)) (dw_or1 (dt_cmp (op_neK K hr) sim_ne (de_callB (call_isiK' K) sim_isi rfl Z.z_isinstance (by decide +kernel) (da_cons (de_var 0) (da_cons (de_ty rfl Z.z_tuple (by decide +kernel)) da_nil))) (de_callB (call_isiK' K) sim_isi rfl Z.z_isinstance (by decide +kernel) (da_cons (de_var 1) (da_cons (de_ty rfl Z.z_tuple (by decide +kernel)) da_nil))) (nomark _))))) (dss_one (ds_ret de_bl)) dss_nil)
    (dss_cons (ds_if (dt_cmp (op_neK K hr) sim_ne (de_callB (call_lenK K) sim_len rfl Z.z_len (by decide +kernel) (da_cons (de_var 0) da_nil)) (de_callB (call_lenK K) sim_len rfl Z.z_len (by decide +kernel) (da_cons (de_var 1) da_nil)) (nomark _)) (dss_one (ds_ret de_bl)) dss_nil)
    (dss_cons (ds_for (passes_of rfl) rfl (di_r1 rfl Z.z_range (da_cons (de_callB (call_lenK K) sim_len rfl Z.z_len (by decide +kernel) (da_cons (de_var 0) da_nil)) da_nil)) (dg_name 2 sc__law_equal.nd) (dss_one (ds_if (dt_not (dt_val (de_call K (ok__law_equal Z n) (takes_of rfl rfl rfl rfl) (hr.mono (by omega)) rfl Z.g__law_equal Z.F__law_equal.kp Z.b__law_equal .nil (fun _ _ => rfl) (da_cons (de_ix K (de_var 0) (de_var 2)) (da_cons (de_ix K (de_var 1) (de_var 2)) da_nil))))) (dss_one (ds_ret de_bl)) dss_nil)))
    (dss_one (ds_ret de_bl))))) dss_nil)
    (dss_cons (ds_if (dt_val (de_callB (call_isiK' K) sim_isi rfl Z.z_isinstance (by decide +kernel) (da_cons (de_var 1) (da_cons (de_tup (da_cons (de_ty rfl Z.z_list (by decide +kernel)) (da_cons (de_ty rfl Z.z_tuple (by decide +kernel)) da_nil))) da_nil)))) (dss_one (ds_ret de_bl)) dss_nil)
    (dss_cons (ds_if (dt_w (dw_or (dt_cmp op_isN sim_isN (de_var 0) de_non (nomark _)) (dw_or1 (dt_cmp op_isN sim_isN (de_var 1) de_non (nomark _))))) (dss_one (ds_ret (de_and (de_cmp op_isN sim_isN (de_var 0) de_non (nomark _)) (de_one (de_cmp op_isN sim_isN (de_var 1) de_non (nomark _)))))) dss_nil)
    (dss_cons (ds_if (dt_w (dw_or (dt_val (de_callB (call_isiK' K) sim_isi rfl Z.z_isinstance (by decide +kernel) (da_cons (de_var 0) (da_cons (de_ty rfl Z.z_bool (by decide +kernel)) da_nil)))) (dw_or1 (dt_val (de_callB (call_isiK' K) sim_isi rfl Z.z_isinstance (by decide +kernel) (da_cons (de_var 1) (da_cons (de_ty rfl Z.z_bool (by decide +kernel)) da_nil))))))) (dss_one (ds_ret (de_and (de_callB (call_isiK' K) sim_isi rfl Z.z_isinstance (by decide +kernel) (da_cons (de_var 0) (da_cons (de_ty rfl Z.z_bool (by decide +kernel)) da_nil))) (de_and (de_callB (call_isiK' K) sim_isi rfl Z.z_isinstance (by decide +kernel) (da_cons (de_var 1) (da_cons (de_ty rfl Z.z_bool (by decide +kernel)) da_nil))) (de_one (de_cmp (op_eqK K hr) sim_eq (de_var 0) (de_var 1) (nomark _))))))) dss_nil)
    (dss_cons (ds_if (dt_w (dw_or (dt_val (de_callB (call_isiK' K) sim_isi rfl Z.z_isinstance (by decide +kernel) (da_cons (de_var 0) (da_cons (de_ty rfl Z.z_str (by decide +kernel)) da_nil)))) (dw_or1 (dt_val (de_callB (call_isiK' K) sim_isi rfl Z.z_isinstance (by decide +kernel) (da_cons (de_var 1) (da_cons (de_ty rfl Z.z_str (by decide +kernel)) da_nil))))))) (dss_one (ds_ret (de_and (de_callB (call_isiK' K) sim_isi rfl Z.z_isinstance (by decide +kernel) (da_cons (de_var 0) (da_cons (de_ty rfl Z.z_str (by decide +kernel)) da_nil))) (de_and (de_callB (call_isiK' K) sim_isi rfl Z.z_isinstance (by decide +kernel) (da_cons (de_var 1) (da_cons (de_ty rfl Z.z_str (by decide +kernel)) da_nil))) (de_one (de_cmp (op_eqK K hr) sim_eq (de_var 0) (de_var 1) (nomark _))))))) dss_nil)
    (dss_one (ds_ret (de_and (de_callB (call_isiK' K) sim_isi rfl Z.z_isinstance (by decide +kernel) (da_cons (de_var 0) (da_cons (de_ty rfl Z.z_int (by decide +kernel)) da_nil))) (de_and (de_callB (call_isiK' K) sim_isi rfl Z.z_isinstance (by decide +kernel) (da_cons (de_var 1) (da_cons (de_ty rfl Z.z_int (by decide +kernel)) da_nil))) (de_one (de_cmp (op_eqK K hr) sim_eq (de_var 0) (de_var 1) (nomark _))))))))))))⟩
theorem ok__law_is_integer (Z : Zs K mg) : FnOk P w K mg base (L2.CX P w) 1 Z.f__law_is_integer Z.fd__law_is_integer ["_law_thing"] (spM K 1 false m__law_is_integer) := fn_ok Z.F__law_is_integer sc__law_is_integer rfl 1 rfl fun cdv A outer s H E hr => ⟨_,
    (dss_one (ds_ret (de_and (de_callB (call_isiK' K) sim_isi rfl Z.z_isinstance (by decide +kernel) (da_cons (de_var 0) (da_cons (de_ty rfl Z.z_int (by decide +kernel)) da_nil))) (de_one (de_not (de_callB (call_isiK' K) sim_isi rfl Z.z_isinstance (by decide +kernel) (da_cons (de_var 0) (da_cons (de_ty rfl Z.z_bool (by decide +kernel)) da_nil))))))))⟩
theorem ok__law_tag (Z : Zs K mg) : FnOk P w K mg base (L2.CX P w) 4 Z.f__law_tag Z.fd__law_tag ["_law_store_here"] (spM K 1 false m__law_tag) := fn_ok Z.F__law_tag sc__law_tag rfl 4 rfl fun cdv A outer s H E hr => ⟨_,
    (dss_cons (ds_set 1 sc__law_tag.nd (de_call K (ok__law_take Z) (takes_of rfl rfl rfl rfl) (hr.mono (by decide)) rfl Z.g__law_take Z.F__law_take.kp Z.b__law_take .nil (fun _ _ => rfl) (da_cons (de_var 0) (da_cons de_int da_nil))))
    (dss_cons (ds_set 2 sc__law_tag.nd (de_call K (ok__law_take Z) (takes_of rfl rfl rfl rfl) (hr.mono (by decide)) rfl Z.g__law_take Z.F__law_take.kp Z.b__law_take .nil (fun _ _ => rfl) (da_cons (de_var 0) (da_cons de_int da_nil))))
    (dss_cons (ds_set 3 sc__law_tag.nd (de_call K (ok__law_take Z) (takes_of rfl rfl rfl rfl) (hr.mono (by decide)) rfl Z.g__law_take Z.F__law_take.kp Z.b__law_take .nil (fun _ _ => rfl) (da_cons (de_var 0) (da_cons de_int da_nil))))
    (dss_cons (ds_if (dt_cmp (op_eqK K hr) sim_eq (de_var 1) de_int (nomark _)) (dss_one (ds_set 3 sc__law_tag.nd (de_call K (ok__law_pick Z) (takes_of rfl rfl rfl rfl) (hr.mono (by decide)) rfl Z.g__law_pick Z.F__law_pick.kp Z.b__law_pick .nil (fun _ _ => rfl) (da_cons (de_var 0) (da_cons (de_lst (da_cons de_int (da_cons de_int (da_cons de_int (da_cons de_int (da_cons de_int (da_cons de_int (da_cons de_int (da_cons de_int (da_cons de_int (da_cons de_int (da_cons de_int (da_cons de_int da_nil))))))))))))) da_nil))))) dss_nil)
    (dss_cons (ds_if (dt_cmp (op_eqK K hr) sim_eq (de_var 1) de_int (nomark _)) (dss_one (ds_set 3 sc__law_tag.nd (de_call K (ok__law_take Z) (takes_of rfl rfl rfl rfl) (hr.mono (by decide)) rfl Z.g__law_take Z.F__law_take.kp Z.b__law_take .nil (fun _ _ => rfl) (da_cons (de_var 0) (da_cons de_int da_nil))))) dss_nil)
    (dss_cons (ds_if (dt_w (dw_and (dt_cmp (op_eqK K hr) sim_eq (de_var 2) de_int (nomark _)) (dw_and1 (dt_cmp (op_eqK K hr) sim_eq (de_var 3) de_int (nomark _))))) (dss_one (ds_ret (de_tup (da_cons de_int (da_cons de_int da_nil))))) dss_nil)
    (dss_one (ds_ret (de_tup (da_cons (de_var 2) (da_cons (de_var 3) da_nil)))))))))))⟩
theorem ok__law_octet (Z : Zs K mg) : FnOk P w K mg base (L2.CX P w) 4 Z.f__law_octet Z.fd__law_octet ["_law_store_here"] (spM K 1 false m__law_octet) := fn_ok Z.F__law_octet sc__law_octet rfl 1 rfl fun cdv A outer s H E hr => ⟨_,
    (dss_cons (ds_if (dt_cmp (op_eqK K hr) sim_eq (de_call K (ok__law_take Z) (takes_of rfl rfl rfl rfl) (hr.mono (by decide)) rfl Z.g__law_take Z.F__law_take.kp Z.b__law_take .nil (fun _ _ => rfl) (da_cons (de_var 0) (da_cons de_int da_nil))) de_int (nomark _)) (dss_one (ds_ret (de_call K (ok__law_pick Z) (takes_of rfl rfl rfl rfl) (hr.mono (by decide)) rfl Z.g__law_pick Z.F__law_pick.kp Z.b__law_pick .nil (fun _ _ => rfl) (da_cons (de_var 0) (da_cons (de_lst (da_cons de_int (da_cons de_int (da_cons de_int (da_cons de_int (da_cons de_int (da_cons de_int (da_cons de_int (da_cons de_int (da_cons de_int (da_cons de_int (da_cons de_int (da_cons de_int (da_cons de_int (da_cons de_int (da_cons de_int (da_cons de_int (da_cons de_int (da_cons de_int da_nil))))))))))))))))))) da_nil))))) dss_nil)
    (dss_one (ds_ret (de_call K (ok__law_take Z) (takes_of rfl rfl rfl rfl) (hr.mono (by decide)) rfl Z.g__law_take Z.F__law_take.kp Z.b__law_take .nil (fun _ _ => rfl) (da_cons (de_var 0) (da_cons de_int da_nil))))))⟩
theorem ok__law_plan (Z : Zs K mg) : ∀ n : Nat, FnOk P w K mg base (L2.CX P w) (5 + n) Z.f__law_plan Z.fd__law_plan ["_law_store_here", "_law_depth", "_law_long"] (spM K 3 false (m__law_plan n))
  | 0 => FunD.ok Z.F__law_plan sc__law_plan (fun vs H Q E z => z.1) (fun cdv A outer s H vs Q E hr z => by obtain ⟨_, α, hp, ss, R, Xp, _, _, m, _⟩ := z; exact m.elim)
  | n + 1 => fn_ok (k := 5 + n) Z.F__law_plan sc__law_plan rfl 8 rfl fun cdv A outer s H E hr => ⟨_,
    (dss_cons (ds_set 3 sc__law_plan.nd (de_call K (ok__law_tag Z) (takes_of rfl rfl rfl rfl) (hr.mono (by omega)) rfl Z.g__law_tag Z.F__law_tag.kp Z.b__law_tag .nil (fun _ _ => rfl) (da_cons (de_var 0) da_nil)))
    (dss_cons (ds_if (dt_w (dw_or (dt_cmp op_lt (sim_I0 fun _ _ _ _ => rfl) (de_var 1) de_int (nomark _)) (dw_or1 (dt_cmp (op_eqK K hr) sim_eq (de_call K (ok__law_take Z) (takes_of rfl rfl rfl rfl) (hr.mono (by omega)) rfl Z.g__law_take Z.F__law_take.kp Z.b__law_take .nil (fun _ _ => rfl) (da_cons (de_var 0) (da_cons de_int da_nil))) de_int (nomark _))))) (dss_cons (ds_set 4 sc__law_plan.nd (de_call K (ok__law_take Z) (takes_of rfl rfl rfl rfl) (hr.mono (by omega)) rfl Z.g__law_take Z.F__law_take.kp Z.b__law_take .nil (fun _ _ => rfl) (da_cons (de_var 0) (da_cons de_int da_nil))))
    (dss_cons (ds_if (dt_cmp (op_eqK K hr) sim_eq (de_call K (ok__law_take Z) (takes_of rfl rfl rfl rfl) (hr.mono (by omega)) rfl Z.g__law_take Z.F__law_take.kp Z.b__law_take .nil (fun _ _ => rfl) (da_cons (de_var 0) (da_cons de_int da_nil))) de_int (nomark _)) (dss_one (ds_set 4 sc__law_plan.nd (de_call K (ok__law_pick Z) (takes_of rfl rfl rfl rfl) (hr.mono (by omega)) rfl Z.g__law_pick Z.F__law_pick.kp Z.b__law_pick .nil (fun _ _ => rfl) (da_cons (de_var 0) (da_cons (de_lst (da_cons de_int (da_cons de_int (da_cons de_int (da_cons de_int (da_cons de_int (da_cons de_int (da_cons de_int (da_cons (de_var 2) da_nil))))))))) da_nil))))) dss_nil)
    (dss_cons (ds_set 4 sc__law_plan.nd (de_callB (call_max2 rfl) (sim_MM (g := (fun i j => if j > i then j else i))) rfl Z.z_max (by decide +kernel) (da_cons de_int (da_cons (de_callB (call_min2 rfl) (sim_MM (g := (fun i j => if j < i then j else i))) rfl Z.z_min (by decide +kernel) (da_cons (de_var 4) (da_cons (de_var 2) da_nil))) da_nil))))
    (dss_cons (ds_set 5 sc__law_plan.nd (de_mulM (de_lst (da_cons (de_call K (ok__law_octet Z) (takes_of rfl rfl rfl rfl) (hr.mono (by omega)) rfl Z.g__law_octet Z.F__law_octet.kp Z.b__law_octet .nil (fun _ _ => rfl) (da_cons (de_var 0) da_nil)) da_nil)) (de_var 4)))
    (dss_cons (ds_if (dt_cmp op_gt (sim_I0 fun _ _ _ _ => rfl) (de_var 4) de_int (nomark _)) (dss_one (ds_asg (de_call K (ok__law_octet Z) (takes_of rfl rfl rfl rfl) (hr.mono (by omega)) rfl Z.g__law_octet Z.F__law_octet.kp Z.b__law_octet .nil (fun _ _ => rfl) (da_cons (de_var 0) da_nil)) (dg_sb (W := W00) (de_var 5) (de_call K (ok__law_take Z) takes0 (hr.mono (by omega)) rfl Z.g__law_take Z.F__law_take.kp Z.b__law_take .nil (fun _ _ => rfl) (da_cons (de_var 0) (da_cons (de_var 4) da_nil)))))) dss_nil)
    (dss_one (ds_ret (de_tup (da_cons de_str (da_cons (de_var 3) (da_cons (de_callTy (call_tupleK K) sim_tuple rfl Z.z_tuple (by decide +kernel) (da_cons (de_var 5) da_nil)) (da_cons (de_call K (ok__law_take Z) (takes_of rfl rfl rfl rfl) (hr.mono (by omega)) rfl Z.g__law_take Z.F__law_take.kp Z.b__law_take .nil (fun _ _ => rfl) (da_cons (de_var 0) (da_cons de_int da_nil))) da_nil)))))))))))) dss_nil)
    (dss_cons (ds_set 6 sc__law_plan.nd (de_lstM da_nil))
    (dss_cons (ds_for (passes_of rfl) rfl (di_r1 rfl Z.z_range (da_cons (de_call K (ok__law_take Z) (takes_of rfl rfl rfl rfl) (hr.mono (by omega)) rfl Z.g__law_take Z.F__law_take.kp Z.b__law_take .nil (fun _ _ => rfl) (da_cons (de_var 0) (da_cons de_int da_nil))) da_nil)) (dg_name 7 sc__law_plan.nd) (dss_one (ds_expr (de_bm K PySem.F.plainAttrs_list PySem.F.slot_list_append PySem.F.type_list_append mt_append sim_append (de_var 6) (da_cons (de_call K (ok__law_plan Z n) (takes_of rfl rfl rfl rfl) (hr.mono (by omega)) rfl Z.g__law_plan Z.F__law_plan.kp Z.b__law_plan .nil (fun _ _ => rfl) (da_cons (de_var 0) (da_cons (de_op op_sub (sim_I0 fun _ _ _ _ => rfl) (de_var 1) de_int) (da_cons (de_op op_fdivW (sim_I fun _ _ _ _ => rfl) (de_var 2) de_int) da_nil)))) da_nil)))))
    (dss_one (ds_ret (de_tup (da_cons de_str (da_cons (de_var 3) (da_cons (de_callTy (call_tupleK K) sim_tuple rfl Z.z_tuple (by decide +kernel) (da_cons (de_var 6) da_nil)) (da_cons (de_call K (ok__law_take Z) (takes_of rfl rfl rfl rfl) (hr.mono (by omega)) rfl Z.g__law_take Z.F__law_take.kp Z.b__law_take .nil (fun _ _ => rfl) (da_cons (de_var 0) (da_cons de_int da_nil))) da_nil)))))))))))⟩
theorem ok__law_deep_plan (Z : Zs K mg) : FnOk P w K mg base (L2.CX P w) 5 Z.f__law_deep_plan Z.fd__law_deep_plan ["_law_store_here", "_law_many"] (spM K 2 false m__law_deep_plan) := fn_ok Z.F__law_deep_plan sc__law_deep_plan rfl 8 rfl fun cdv A outer s H E hr => ⟨_,
    (dss_cons (ds_set 2 sc__law_deep_plan.nd (de_call K (ok__law_take Z) (takes_of rfl rfl rfl rfl) (hr.mono (by decide)) rfl Z.g__law_take Z.F__law_take.kp Z.b__law_take .nil (fun _ _ => rfl) (da_cons (de_var 0) (da_cons de_int da_nil))))
    (dss_cons (ds_set 3 sc__law_deep_plan.nd (de_lst (da_cons (de_call K (ok__law_take Z) (takes_of rfl rfl rfl rfl) (hr.mono (by decide)) rfl Z.g__law_take Z.F__law_take.kp Z.b__law_take .nil (fun _ _ => rfl) (da_cons (de_var 0) (da_cons (de_op (op_addK K) sim_add (de_var 1) de_int) da_nil))) (da_cons (de_call K (ok__law_take Z) (takes_of rfl rfl rfl rfl) (hr.mono (by decide)) rfl Z.g__law_take Z.F__law_take.kp Z.b__law_take .nil (fun _ _ => rfl) (da_cons (de_var 0) (da_cons (de_op (op_addK K) sim_add (de_var 1) de_int) da_nil))) da_nil))))
    (dss_cons (ds_set 4 sc__law_deep_plan.nd (de_tup (da_cons de_str (da_cons (de_call K (ok__law_tag Z) (takes_of rfl rfl rfl rfl) (hr.mono (by decide)) rfl Z.g__law_tag Z.F__law_tag.kp Z.b__law_tag .nil (fun _ _ => rfl) (da_cons (de_var 0) da_nil)) (da_cons (de_call K (ok__law_pick Z) (takes_of rfl rfl rfl rfl) (hr.mono (by decide)) rfl Z.g__law_pick Z.F__law_pick.kp Z.b__law_pick .nil (fun _ _ => rfl) (da_cons (de_var 0) (da_cons (de_lst (da_cons (de_tup da_nil) (da_cons (de_tup (da_cons de_int da_nil)) (da_cons (de_tup (da_cons de_int (da_cons de_int da_nil))) da_nil)))) da_nil))) (da_cons de_int da_nil))))))
    (dss_cons (ds_for (passes_of rfl) rfl (di_r1 rfl Z.z_range (da_cons (de_var 1) da_nil)) (dg_name 5 sc__law_deep_plan.nd) (dss_cons (ds_set 6 sc__law_deep_plan.nd (de_tup (da_cons (de_var 4) da_nil)))
    (dss_cons (ds_if (dt_w (dw_and (dt_cmp (op_eqK K hr) sim_eq (de_var 5) de_int (nomark _)) (dw_and1 (dt_cmp (op_eqK K hr) sim_eq (de_call K (ok__law_take Z) (takes_of rfl rfl rfl rfl) (hr.mono (by decide)) rfl Z.g__law_take Z.F__law_take.kp Z.b__law_take .nil (fun _ _ => rfl) (da_cons (de_var 0) (da_cons de_int da_nil))) de_int (nomark _))))) (dss_one (ds_set 6 sc__law_deep_plan.nd (de_tup da_nil))) dss_nil)
    (dss_cons (ds_if (dt_cmp (op_inK K) sim_in (de_var 5) (de_var 3) (by rfl)) (dss_one (ds_set 6 sc__law_deep_plan.nd (de_op (op_addK K) sim_add (de_tup (da_cons (de_tup (da_cons de_str (da_cons (de_call K (ok__law_tag Z) (takes_of rfl rfl rfl rfl) (hr.mono (by decide)) rfl Z.g__law_tag Z.F__law_tag.kp Z.b__law_tag .nil (fun _ _ => rfl) (da_cons (de_var 0) da_nil)) (da_cons (de_tup (da_cons de_int da_nil)) (da_cons de_int da_nil))))) da_nil)) (de_var 6)))) dss_nil)
    (dss_cons (ds_set 7 sc__law_deep_plan.nd de_int)
    (dss_cons (ds_if (dt_cmp (op_eqK K hr) sim_eq (de_var 2) de_int (nomark _)) (dss_one (ds_set 7 sc__law_deep_plan.nd (de_call K (ok__law_pick Z) (takes_of rfl rfl rfl rfl) (hr.mono (by decide)) rfl Z.g__law_pick Z.F__law_pick.kp Z.b__law_pick .nil (fun _ _ => rfl) (da_cons (de_var 0) (da_cons (de_lst (da_cons de_int (da_cons de_int (da_cons de_int (da_cons de_int (da_cons de_int (da_cons de_int da_nil))))))) da_nil))))) dss_nil)
    (dss_one (ds_set 4 sc__law_deep_plan.nd (de_tup (da_cons de_str (da_cons (de_call K (ok__law_tag Z) (takes_of rfl rfl rfl rfl) (hr.mono (by decide)) rfl Z.g__law_tag Z.F__law_tag.kp Z.b__law_tag .nil (fun _ _ => rfl) (da_cons (de_var 0) da_nil)) (da_cons (de_var 6) (da_cons (de_var 7) da_nil)))))))))))))
    (dss_one (ds_ret (de_var 4)))))))⟩
theorem ok__law_strict_plan (Z : Zs K mg) : ∀ n : Nat, FnOk P w K mg base (L2.CX P w) (1 + n) Z.f__law_strict_plan Z.fd__law_strict_plan ["_law_plan_here"] (spM K 1 false (m__law_strict_plan n))
  | 0 => FunD.ok Z.F__law_strict_plan sc__law_strict_plan (fun vs H Q E z => z.1) (fun cdv A outer s H vs Q E hr z => by obtain ⟨_, α, hp, ss, R, Xp, _, _, m, _⟩ := z; exact m.elim)
  | n + 1 => fn_ok (k := 1 + n) Z.F__law_strict_plan sc__law_strict_plan rfl 2 rfl fun cdv A outer s H E hr => ⟨_,
    (dss_cons (ds_if (dt_cmp (op_eqK K hr) sim_eq (de_ix K (de_var 0) de_int) de_str (nomark _)) (dss_one (ds_ret (de_tup (da_cons de_str (da_cons (de_ix K (de_var 0) de_int) (da_cons (de_ix K (de_var 0) de_int) (da_cons de_int da_nil))))))) dss_nil)
    (dss_one (ds_ret (de_tup (da_cons de_str (da_cons (de_ix K (de_var 0) de_int) (da_cons (de_callTy (call_tupleK K) sim_tuple rfl Z.z_tuple (by decide +kernel) (da_cons (de_lc (vs := [1]) [("_law_inner", 1)] rfl rfl sc__law_strict_plan.nd (di_sq K (de_ix K (de_var 0) de_int)) (blkOk_by (N := n__law_strict_plan) (sc := defScope s__law_strict_plan) (by decide +kernel)) (fun _ _ _ _ _ => (dg_name 1 sc__law_strict_plan.nd)) (fun _ _ _ _ _ => pts_nil) sim_yes (fun _ _ _ _ _ => (de_call K (ok__law_strict_plan Z n) takes0 (hr.mono (by omega)) rfl Z.g__law_strict_plan Z.F__law_strict_plan.kp Z.b__law_strict_plan .nil (fun _ _ => rfl) (da_cons (de_var 1) da_nil))) (by decide)) da_nil)) (da_cons de_int da_nil))))))))⟩
theorem ok__law_length_row (Z : Zs K mg) : FnOk P w K mg base (L2.CX P w) 1 Z.f__law_length_row Z.fd__law_length_row ["_law_length", "_law_form"] (spM K 2 false m__law_length_row) := fn_ok Z.F__law_length_row sc__law_length_row rfl 5 rfl fun cdv A outer s H E hr => ⟨_,
    (dss_cons (ds_set 2 sc__law_length_row.nd (de_lst da_nil))
    (dss_cons (ds_set 3 sc__law_length_row.nd (de_var 0))
    (dss_cons (ds_for (passes_of rfl) rfl (di_r1 rfl Z.z_range (da_cons (de_var 1) da_nil)) (dg_name 4 sc__law_length_row.nd) (dss_cons (ds_set 2 sc__law_length_row.nd (de_op (op_addK K) sim_add (de_lst (da_cons (de_op op_mod (sim_I fun _ _ _ _ => rfl) (de_callTy call_int1 sim_int rfl Z.z_int (by decide +kernel) (da_cons (de_var 3) da_nil)) de_int) da_nil)) (de_var 2)))
    (dss_one (ds_set 3 sc__law_length_row.nd (de_op op_fdivW (sim_I fun _ _ _ _ => rfl) (de_var 3) de_int)))))
    (dss_cons (ds_if (dt_w (dw_and (dt_cmp op_gt (sim_I0 fun _ _ _ _ => rfl) (de_var 1) de_int (nomark _)) (dw_and1 (dt_cmp (op_eqK K hr) sim_eq (de_var 3) de_int (nomark _))))) (dss_one (ds_ret (de_op (op_addK K) sim_add (de_lst (da_cons (de_op (op_addK K) sim_add de_int (de_var 1)) da_nil)) (de_var 2)))) dss_nil)
    (dss_cons (ds_if (dt_cmp op_lt (sim_I0 fun _ _ _ _ => rfl) (de_var 0) de_int (nomark _)) (dss_one (ds_ret (de_lst (da_cons (de_var 0) da_nil)))) dss_nil)
    (dss_cons (ds_if (dt_cmp op_lt (sim_I0 fun _ _ _ _ => rfl) (de_var 0) de_int (nomark _)) (dss_one (ds_ret (de_lst (da_cons de_int (da_cons (de_var 0) da_nil))))) dss_nil)
    (dss_one (ds_ret (de_lst (da_cons de_int (da_cons (de_op op_fdivW (sim_I fun _ _ _ _ => rfl) (de_var 0) de_int) (da_cons (de_op op_mod (sim_I fun _ _ _ _ => rfl) (de_callTy call_int1 sim_int rfl Z.z_int (by decide +kernel) (da_cons (de_var 0) da_nil)) de_int) da_nil))))))))))))⟩
theorem ok__law_chain (Z : Zs K mg) : FnOk P w K mg base (L2.CX P w) 1 Z.f__law_chain Z.fd__law_chain ["_law_number"] (spM K 1 false m__law_chain) := fn_ok Z.F__law_chain sc__law_chain rfl 4 rfl fun cdv A outer s H E hr => ⟨_,
    (dss_cons (ds_set 1 sc__law_chain.nd (de_lst (da_cons (de_op op_mod (sim_I fun _ _ _ _ => rfl) (de_callTy call_int1 sim_int rfl Z.z_int (by decide +kernel) (da_cons (de_var 0) da_nil)) de_int) da_nil)))
    (dss_cons (ds_set 2 sc__law_chain.nd (de_op op_fdivW (sim_I fun _ _ _ _ => rfl) (de_var 0) de_int))
    (dss_cons (ds_for (passes_of rfl) rfl (di_r1 rfl Z.z_range (da_cons de_int da_nil)) (dg_name 3 sc__law_chain.nd) (dss_cons (ds_if (dt_cmp (op_eqK K hr) sim_eq (de_var 2) de_int (nomark _)) (dss_one (ds_ret (de_var 1))) dss_nil)
    (dss_cons (ds_set 1 sc__law_chain.nd (de_op (op_addK K) sim_add (de_lst (da_cons (de_op (op_addK K) sim_add de_int (de_op op_mod (sim_I fun _ _ _ _ => rfl) (de_callTy call_int1 sim_int rfl Z.z_int (by decide +kernel) (da_cons (de_var 2) da_nil)) de_int)) da_nil)) (de_var 1)))
    (dss_one (ds_set 2 sc__law_chain.nd (de_op op_fdivW (sim_I fun _ _ _ _ => rfl) (de_var 2) de_int))))))
    (dss_one (ds_ret (de_var 1))))))⟩
theorem ok__law_identifier (Z : Zs K mg) : FnOk P w K mg base (L2.CX P w) 2 Z.f__law_identifier Z.fd__law_identifier ["_law_tag_here", "_law_built"] (spM K 2 false m__law_identifier) := fn_ok Z.F__law_identifier sc__law_identifier rfl 3 rfl fun cdv A outer s H E hr => ⟨_,
    (dss_cons (ds_set 2 sc__law_identifier.nd (de_op (op_addK K) sim_add (de_op op_mulA sim_mul (de_ix K (de_var 0) de_int) de_int) (de_op op_mulA sim_mul de_int (de_callTy call_int1 sim_int rfl Z.z_int (by decide +kernel) (da_cons (de_var 1) da_nil)))))
    (dss_cons (ds_if (dt_cmp op_le (sim_I0 fun _ _ _ _ => rfl) (de_ix K (de_var 0) de_int) de_int (nomark _)) (dss_one (ds_ret (de_lst (da_cons (de_op (op_addK K) sim_add (de_var 2) (de_ix K (de_var 0) de_int)) da_nil)))) dss_nil)
    (dss_one (ds_ret (de_op (op_addK K) sim_add (de_lst (da_cons (de_op (op_addK K) sim_add (de_var 2) de_int) da_nil)) (de_call K (ok__law_chain Z) (takes_of rfl rfl rfl rfl) (hr.mono (by decide)) rfl Z.g__law_chain Z.F__law_chain.kp Z.b__law_chain .nil (fun _ _ => rfl) (da_cons (de_ix K (de_var 0) de_int) da_nil)))))))⟩
theorem ok__law_plan_octets (Z : Zs K mg) : ∀ n : Nat, FnOk P w K mg base (L2.CX P w) (3 + n) Z.f__law_plan_octets Z.fd__law_plan_octets ["_law_plan_here"] (spM K 1 true (m__law_plan_octets n))
  | 0 => FunD.ok Z.F__law_plan_octets sc__law_plan_octets (fun vs H Q E z => z.1) (fun cdv A outer s H vs Q E hr z => by obtain ⟨_, α, hp, ss, R, Xp, _, _, m, _⟩ := z; exact m.elim)
  | n + 1 => fn_ok (k := 3 + n) Z.F__law_plan_octets sc__law_plan_octets rfl 4 rfl fun cdv A outer s H E hr => ⟨_,
    (dss_cons (ds_if (dt_cmp (op_eqK K hr) sim_eq (de_ix K (de_var 0) de_int) de_str (nomark _)) (dss_cons (ds_set 1 sc__law_plan_octets.nd (de_op (op_addK K) sim_add (de_call K (ok__law_identifier Z) (takes_of rfl rfl rfl rfl) (hr.mono (by omega)) rfl Z.g__law_identifier Z.F__law_identifier.kp Z.b__law_identifier .nil (fun _ _ => rfl) (da_cons (de_ix K (de_var 0) de_int) (da_cons de_bl da_nil))) (de_call K (ok__law_length_row Z) (takes_of rfl rfl rfl rfl) (hr.mono (by omega)) rfl Z.g__law_length_row Z.F__law_length_row.kp Z.b__law_length_row .nil (fun _ _ => rfl) (da_cons (de_callB (call_lenK K) sim_len rfl Z.z_len (by decide +kernel) (da_cons (de_ix K (de_var 0) de_int) da_nil)) (da_cons (de_ix K (de_var 0) de_int) da_nil)))))
    (dss_one (ds_ret (de_addM K (de_var 1) (de_callTy (call_listK K) sim_list rfl Z.z_list (by decide +kernel) (da_cons (de_ix K (de_var 0) de_int) da_nil)))))) dss_nil)
    (dss_cons (ds_set 2 sc__law_plan_octets.nd (de_lst da_nil))
    (dss_cons (ds_for (passes_of rfl) rfl (di_sq K (de_ix K (de_var 0) de_int)) (dg_name 3 sc__law_plan_octets.nd) (dss_one (ds_set 2 sc__law_plan_octets.nd (de_op (op_addK K) sim_add (de_var 2) (de_call K (ok__law_plan_octets Z n) (takes_of rfl rfl rfl rfl) (hr.mono (by omega)) rfl Z.g__law_plan_octets Z.F__law_plan_octets.kp Z.b__law_plan_octets .nil (fun _ _ => rfl) (da_cons (de_var 3) da_nil))))))
    (dss_cons (ds_set 1 sc__law_plan_octets.nd (de_call K (ok__law_identifier Z) (takes_of rfl rfl rfl rfl) (hr.mono (by omega)) rfl Z.g__law_identifier Z.F__law_identifier.kp Z.b__law_identifier .nil (fun _ _ => rfl) (da_cons (de_ix K (de_var 0) de_int) (da_cons de_bl da_nil))))
    (dss_cons (ds_if (dt_w (dw_or (dt_cmp (op_eqK K hr) sim_eq (de_ix K (de_var 0) de_int) de_int (nomark _)) (dw_or1 (dt_cmp op_gt (sim_I0 fun _ _ _ _ => rfl) (de_callB (call_lenK K) sim_len rfl Z.z_len (by decide +kernel) (da_cons (de_var 2) da_nil)) de_int (nomark _))))) (dss_one (ds_ret (de_addM K (de_op (op_addK K) sim_add (de_op (op_addK K) sim_add (de_var 1) (de_lst (da_cons de_int da_nil))) (de_var 2)) (de_lst (da_cons de_int da_nil))))) dss_nil)
    (dss_one (ds_ret (de_addM K (de_op (op_addK K) sim_add (de_var 1) (de_call K (ok__law_length_row Z) (takes_of rfl rfl rfl rfl) (hr.mono (by omega)) rfl Z.g__law_length_row Z.F__law_length_row.kp Z.b__law_length_row .nil (fun _ _ => rfl) (da_cons (de_callB (call_lenK K) sim_len rfl Z.z_len (by decide +kernel) (da_cons (de_var 2) da_nil)) (da_cons (de_op op_sub (sim_I0 fun _ _ _ _ => rfl) (de_ix K (de_var 0) de_int) de_int) da_nil)))) (de_var 2)))))))))⟩
theorem ok__law_plan_tree (Z : Zs K mg) : ∀ n : Nat, FnOk P w K mg base (L2.CX P w) (26 + n) Z.f__law_plan_tree Z.fd__law_plan_tree ["_law_plan_here", "_law_begin"] (spM K 2 false (m__law_plan_tree n))
  | 0 => FunD.ok Z.F__law_plan_tree sc__law_plan_tree (fun vs H Q E z => z.1) (fun cdv A outer s H vs Q E hr z => by obtain ⟨_, α, hp, ss, R, Xp, _, _, m, _⟩ := z; exact m.elim)
  | n + 1 => fn_ok (k := 26 + n) Z.F__law_plan_tree sc__law_plan_tree rfl 8 rfl fun cdv A outer s H E hr => ⟨_,
    (dss_cons (ds_set 2 sc__law_plan_tree.nd (de_op (op_addK K) sim_add (de_var 1) (de_callB (call_lenK K) sim_len rfl Z.z_len (by decide +kernel) (da_cons (de_call K (ok__law_plan_octets Z 22) (takes_of rfl rfl rfl rfl) (hr.mono (by omega)) rfl Z.g__law_plan_octets Z.F__law_plan_octets.kp Z.b__law_plan_octets .nil (fun _ _ => rfl) (da_cons (de_var 0) da_nil)) da_nil))))
    (dss_cons (ds_if (dt_cmp (op_eqK K hr) sim_eq (de_ix K (de_var 0) de_int) de_str (nomark _)) (dss_one (ds_ret (de_tup (da_cons de_str (da_cons (de_ix K (de_var 0) de_int) (da_cons (de_callTy (call_tupleK K) sim_tuple rfl Z.z_tuple (by decide +kernel) (da_cons (de_ix K (de_var 0) de_int) da_nil)) (da_cons (de_var 1) (da_cons (de_var 2) da_nil)))))))) dss_nil)
    (dss_cons (ds_set 3 sc__law_plan_tree.nd de_int)
    (dss_cons (ds_for (passes_of rfl) rfl (di_sq K (de_ix K (de_var 0) de_int)) (dg_name 4 sc__law_plan_tree.nd) (dss_one (ds_set 3 sc__law_plan_tree.nd (de_op (op_addK K) sim_add (de_var 3) (de_callB (call_lenK K) sim_len rfl Z.z_len (by decide +kernel) (da_cons (de_call K (ok__law_plan_octets Z 22) (takes_of rfl rfl rfl rfl) (hr.mono (by omega)) rfl Z.g__law_plan_octets Z.F__law_plan_octets.kp Z.b__law_plan_octets .nil (fun _ _ => rfl) (da_cons (de_var 4) da_nil)) da_nil))))))
    (dss_cons (ds_set 5 sc__law_plan_tree.nd (de_op op_sub (sim_I0 fun _ _ _ _ => rfl) (de_var 2) (de_var 3)))
    (dss_cons (ds_if (dt_w (dw_or (dt_cmp (op_eqK K hr) sim_eq (de_ix K (de_var 0) de_int) de_int (nomark _)) (dw_or1 (dt_cmp op_gt (sim_I0 fun _ _ _ _ => rfl) (de_var 3) de_int (nomark _))))) (dss_one (ds_set 5 sc__law_plan_tree.nd (de_op op_sub (sim_I0 fun _ _ _ _ => rfl) (de_var 5) de_int))) dss_nil)
    (dss_cons (ds_set 6 sc__law_plan_tree.nd (de_lstM da_nil))
    (dss_cons (ds_for (passes_of rfl) rfl (di_sq K (de_ix K (de_var 0) de_int)) (dg_name 4 sc__law_plan_tree.nd) (dss_cons (ds_set 7 sc__law_plan_tree.nd (de_call K (ok__law_plan_tree Z n) (takes_of rfl rfl rfl rfl) (hr.mono (by omega)) rfl Z.g__law_plan_tree Z.F__law_plan_tree.kp Z.b__law_plan_tree .nil (fun _ _ => rfl) (da_cons (de_var 4) (da_cons (de_var 5) da_nil))))
    (dss_cons (ds_set 5 sc__law_plan_tree.nd (de_ix K (de_var 7) de_int))
    (dss_one (ds_expr (de_bm K PySem.F.plainAttrs_list PySem.F.slot_list_append PySem.F.type_list_append mt_append sim_append (de_var 6) (da_cons (de_var 7) da_nil)))))))
    (dss_one (ds_ret (de_tup (da_cons de_str (da_cons (de_ix K (de_var 0) de_int) (da_cons (de_callTy (call_tupleK K) sim_tuple rfl Z.z_tuple (by decide +kernel) (da_cons (de_var 6) da_nil)) (da_cons (de_var 1) (da_cons (de_var 2) da_nil))))))))))))))))⟩
theorem ok_ItemReader___init__ (Z : Zs K mg) : FnOk P w K mg base (L2.CX P w) 1 Z.f_ItemReader___init__ Z.fd_ItemReader___init__ ["self", "strict"] (spM K 2 false m_ItemReader___init__) := fn_ok Z.F_ItemReader___init__ sc_ItemReader___init__ rfl 2 rfl fun cdv A outer s H E hr => ⟨_,
    (dss_cons (ds_setF K (f := "only_strict") Z.c_ItemReader Z.na_ItemReader_only_strict (de_var 0) (de_var 1) rfl)
    (dss_cons (ds_setF K (f := "place") Z.c_ItemReader Z.na_ItemReader_place (de_var 0) de_int rfl)
    (dss_cons (ds_setF K (f := "spoilt_by") Z.c_ItemReader Z.na_ItemReader_spoilt_by (de_var 0) de_str rfl)
    (dss_cons (ds_setF K (f := "stage") Z.c_ItemReader Z.na_ItemReader_stage (de_var 0) (de_gstr rfl Z.g_AT_ITEM) rfl)
    (dss_cons (ds_setF K (f := "open_items") Z.c_ItemReader Z.na_ItemReader_open_items (de_var 0) (de_lstM da_nil) rfl)
    (dss_cons (ds_setF K (f := "head_octets") Z.c_ItemReader Z.na_ItemReader_head_octets (de_var 0) (de_lstM da_nil) rfl)
    (dss_cons (ds_setF K (f := "head_place") Z.c_ItemReader Z.na_ItemReader_head_place (de_var 0) de_int rfl)
    (dss_cons (ds_setF K (f := "head_tag") Z.c_ItemReader Z.na_ItemReader_head_tag (de_var 0) de_non rfl)
    (dss_cons (ds_setF K (f := "head_built") Z.c_ItemReader Z.na_ItemReader_head_built (de_var 0) de_bl rfl)
    (dss_cons (ds_setF K (f := "length_so_far") Z.c_ItemReader Z.na_ItemReader_length_so_far (de_var 0) de_int rfl)
    (dss_cons (ds_setF K (f := "digits_all") Z.c_ItemReader Z.na_ItemReader_digits_all (de_var 0) de_int rfl)
    (dss_cons (ds_setF K (f := "digits_read") Z.c_ItemReader Z.na_ItemReader_digits_read (de_var 0) de_int rfl)
    (dss_cons (ds_setF K (f := "content_so_far") Z.c_ItemReader Z.na_ItemReader_content_so_far (de_var 0) (de_lstM da_nil) rfl)
    (dss_cons (ds_setF K (f := "content_due") Z.c_ItemReader Z.na_ItemReader_content_due (de_var 0) de_int rfl)
    (dss_one (ds_setF K (f := "whole_item") Z.c_ItemReader Z.na_ItemReader_whole_item (de_var 0) de_non rfl))))))))))))))))⟩
theorem ok_ItemReader_raise_spoilt (Z : Zs K mg) : FnOk P w K mg base (L2.CX P w) 3 Z.f_ItemReader_raise_spoilt Z.fd_ItemReader_raise_spoilt ["self"] (spM K 1 false m_ItemReader_raise_spoilt) := fn_ok Z.F_ItemReader_raise_spoilt sc_ItemReader_raise_spoilt rfl 1 rfl fun cdv A outer s H E hr => ⟨_,
    (dss_cons (ds_if (dt_cmp (op_eqK K hr) sim_eq (de_fldG K (f := "spoilt_by") Z.c_ItemReader Z.na_ItemReader_spoilt_by (de_var 0)) de_str (nomark _)) (dss_one (ds_raise K (Z.x_Refused w base) rfl (takes_of rfl rfl rfl rfl) (hr.mono (by decide)) rfl (de_fldG K (f := "place") Z.c_ItemReader Z.na_ItemReader_place (de_var 0)))) dss_nil)
    (dss_one (ds_if (dt_cmp (op_eqK K hr) sim_eq (de_fldG K (f := "spoilt_by") Z.c_ItemReader Z.na_ItemReader_spoilt_by (de_var 0)) de_str (nomark _)) (dss_one (ds_raise K (Z.x_Deep w base) rfl (takes_of rfl rfl rfl rfl) (hr.mono (by decide)) rfl (de_fldG K (f := "place") Z.c_ItemReader Z.na_ItemReader_place (de_var 0)))) dss_nil)))⟩
theorem ok_ItemReader_room_left (Z : Zs K mg) : FnOk P w K mg base (L2.CX P w) 1 Z.f_ItemReader_room_left Z.fd_ItemReader_room_left ["self"] (spM K 1 false m_ItemReader_room_left) := fn_ok Z.F_ItemReader_room_left sc_ItemReader_room_left rfl 1 rfl fun cdv A outer s H E hr => ⟨_,
    (dss_cons (ds_if (dt_w (dw_or (dt_cmp (op_eqK K hr) sim_eq (de_lenG K rfl Z.z_len (by decide +kernel) (de_fldG K (f := "open_items") Z.c_ItemReader Z.na_ItemReader_open_items (de_var 0))) de_int (nomark _)) (dw_or1 (dt_cmp op_isN sim_isN (de_fldG K (f := "room_end") Z.c_OpenItem Z.na_OpenItem_room_end (de_ixG K (de_fldG K (f := "open_items") Z.c_ItemReader Z.na_ItemReader_open_items (de_var 0)) (de_neg de_int))) de_non (nomark _))))) (dss_one (ds_ret de_non)) dss_nil)
    (dss_one (ds_ret (de_op op_sub (sim_I0 fun _ _ _ _ => rfl) (de_fldG K (f := "room_end") Z.c_OpenItem Z.na_OpenItem_room_end (de_ixG K (de_fldG K (f := "open_items") Z.c_ItemReader Z.na_ItemReader_open_items (de_var 0)) (de_neg de_int))) (de_fldG K (f := "place") Z.c_ItemReader Z.na_ItemReader_place (de_var 0))))))⟩
theorem ok_ItemReader_allows_begin (Z : Zs K mg) : FnOk P w K mg base (L2.CX P w) 2 Z.f_ItemReader_allows_begin Z.fd_ItemReader_allows_begin ["self", "octet"] (spM K 2 false m_ItemReader_allows_begin) := fn_ok Z.F_ItemReader_allows_begin sc_ItemReader_allows_begin rfl 3 rfl fun cdv A outer s H E hr => ⟨_,
    (dss_cons (ds_if (dt_cmp (op_eqK K hr) sim_eq (de_var 1) de_int (nomark _)) (dss_one (ds_ret (de_and (de_cmp op_gt (sim_I0 fun _ _ _ _ => rfl) (de_lenG K rfl Z.z_len (by decide +kernel) (de_fldG K (f := "open_items") Z.c_ItemReader Z.na_ItemReader_open_items (de_var 0))) de_int (nomark _)) (de_one (de_cmp op_isN sim_isN (de_fldG K (f := "end_place") Z.c_OpenItem Z.na_OpenItem_end_place (de_ixG K (de_fldG K (f := "open_items") Z.c_ItemReader Z.na_ItemReader_open_items (de_var 0)) (de_neg de_int))) de_non (nomark _)))))) dss_nil)
    (dss_cons (ds_if (dt_cmp (op_eqK K hr) sim_eq (de_var 1) de_int (nomark _)) (dss_one (ds_ret de_bl)) dss_nil)
    (dss_cons (ds_set 2 sc_ItemReader_allows_begin.nd (de_me0 K Z.c_ItemReader Z.me_ItemReader_room_left (ok_ItemReader_room_left Z) (takes_of rfl rfl rfl rfl) (hr.mono (by decide)) Z.b_ItemReader_room_left .nil (fun _ _ => rfl) (de_var 0)))
    (dss_one (ds_ret (de_or (de_cmp op_isN sim_isN (de_var 2) de_non (nomark _)) (de_one (de_cmp op_ge (sim_I0 fun _ _ _ _ => rfl) (de_var 2) (de_if (dt_cmp (op_eqK K hr) sim_eq (de_op op_and (sim_I0 fun _ _ _ _ => rfl) (de_var 1) de_int) de_int (nomark _)) de_int de_int) (nomark _)))))))))⟩
theorem ok_ItemReader_allows_chain (Z : Zs K mg) : FnOk P w K mg base (L2.CX P w) 2 Z.f_ItemReader_allows_chain Z.fd_ItemReader_allows_chain ["self", "octet"] (spM K 2 false m_ItemReader_allows_chain) := fn_ok Z.F_ItemReader_allows_chain sc_ItemReader_allows_chain rfl 3 rfl fun cdv A outer s H E hr => ⟨_,
    (dss_cons (ds_if (dt_cmp op_gt (sim_I0 fun _ _ _ _ => rfl) (de_lenG K rfl Z.z_len (by decide +kernel) (de_fldG K (f := "head_octets") Z.c_ItemReader Z.na_ItemReader_head_octets (de_var 0))) de_int (nomark _)) (dss_one (ds_ret (de_cmp op_lt (sim_I0 fun _ _ _ _ => rfl) (de_var 1) de_int (nomark _)))) dss_nil)
    (dss_cons (ds_if (dt_w (dw_or (dt_cmp op_lt (sim_I0 fun _ _ _ _ => rfl) (de_var 1) de_int (nomark _)) (dw_or1 (dt_cmp (op_eqK K hr) sim_eq (de_var 1) de_int (nomark _))))) (dss_one (ds_ret de_bl)) dss_nil)
    (dss_cons (ds_set 2 sc_ItemReader_allows_chain.nd (de_me0 K Z.c_ItemReader Z.me_ItemReader_room_left (ok_ItemReader_room_left Z) (takes_of rfl rfl rfl rfl) (hr.mono (by decide)) Z.b_ItemReader_room_left .nil (fun _ _ => rfl) (de_var 0)))
    (dss_one (ds_ret (de_or (de_cmp op_isN sim_isN (de_var 2) de_non (nomark _)) (de_one (de_cmp op_ge (sim_I0 fun _ _ _ _ => rfl) (de_var 2) (de_if (dt_cmp op_gt (sim_I0 fun _ _ _ _ => rfl) (de_var 1) de_int (nomark _)) de_int de_int) (nomark _)))))))))⟩
theorem ok_fills (Z : Zs K mg) : FnOk P w K mg base (L2.CX P w) 1 Z.f_fills Z.fd_fills ["room", "low", "high", "built"] (spM K 4 false m_fills) := fn_ok Z.F_fills sc_fills rfl 4 rfl fun cdv A outer s H E hr => ⟨_,
    (dss_cons (ds_if (dt_w (dw_and (dt_val (de_var 3)) (dw_and1 (dt_cmp (op_eqK K hr) sim_eq (de_var 2) de_int (nomark _))))) (dss_one (ds_ret de_bl)) dss_nil)
    (dss_cons (ds_if (dt_w (dw_or (dt_cmp op_isN sim_isN (de_var 0) de_non (nomark _)) (dw_or1 (dt_cmp op_le (sim_I0 fun _ _ _ _ => rfl) (de_var 1) (de_op op_sub (sim_I0 fun _ _ _ _ => rfl) (de_var 0) de_int) (nomark _))))) (dss_one (ds_ret de_bl)) dss_nil)
    (dss_one (ds_ret (de_and (de_chain op_le (sim_I0 fun _ _ _ _ => rfl) op_le (sim_I0 fun _ _ _ _ => rfl) (de_var 1) (de_var 0) (de_var 2)) (de_one (de_not (de_and (de_var 3) (de_one (de_cmp (op_eqK K hr) sim_eq (de_var 0) de_int (nomark _)))))))))))⟩
theorem ok_length_fills (Z : Zs K mg) : FnOk P w K mg base (L2.CX P w) 2 Z.f_length_fills Z.fd_length_fills ["room", "number", "rest", "built"] (spM K 4 false m_length_fills) := fn_ok Z.F_length_fills sc_length_fills rfl 6 rfl fun cdv A outer s H E hr => ⟨_,
    (dss_cons (ds_set 4 sc_length_fills.nd (de_op op_shl (sim_I fun _ _ _ _ => rfl) (de_var 1) (de_op op_mulA sim_mul de_int (de_var 2))))
    (dss_cons (ds_if (dt_cmp op_gt (sim_I0 fun _ _ _ _ => rfl) (de_var 4) (de_gint rfl Z.g_LENGTH_MOST) (nomark _)) (dss_one (ds_ret de_bl)) dss_nil)
    (dss_cons (ds_set 5 sc_length_fills.nd (de_callB (call_min2 rfl) (sim_MM (g := (fun i j => if j < i then j else i))) rfl Z.z_min (by decide +kernel) (da_cons (de_op op_sub (sim_I0 fun _ _ _ _ => rfl) (de_op (op_addK K) sim_add (de_var 4) (de_op op_shl (sim_I fun _ _ _ _ => rfl) de_int (de_op op_mulA sim_mul de_int (de_var 2)))) de_int) (da_cons (de_gint rfl Z.g_LENGTH_MOST) da_nil))))
    (dss_one (ds_ret (de_call K (ok_fills Z) (takes_of rfl rfl rfl rfl) (hr.mono (by decide)) rfl Z.g_fills Z.F_fills.kp Z.b_fills .nil (fun _ _ => rfl) (da_cons (de_if (dt_cmp op_isN sim_isN (de_var 0) de_non (nomark _)) de_non (de_op op_sub (sim_I0 fun _ _ _ _ => rfl) (de_var 0) (de_var 2))) (da_cons (de_var 4) (da_cons (de_var 5) (da_cons (de_var 3) da_nil))))))))))⟩
theorem ok_ItemReader_allows_length (Z : Zs K mg) : FnOk P w K mg base (L2.CX P w) 3 Z.f_ItemReader_allows_length Z.fd_ItemReader_allows_length ["self", "octet"] (spM K 2 false m_ItemReader_allows_length) := fn_ok Z.F_ItemReader_allows_length sc_ItemReader_allows_length rfl 4 rfl fun cdv A outer s H E hr => ⟨_,
    (dss_cons (ds_set 2 sc_ItemReader_allows_length.nd (de_me0 K Z.c_ItemReader Z.me_ItemReader_room_left (ok_ItemReader_room_left Z) (takes_of rfl rfl rfl rfl) (hr.mono (by decide)) Z.b_ItemReader_room_left .nil (fun _ _ => rfl) (de_var 0)))
    (dss_cons (ds_if (dt_cmp (op_eqK K hr) sim_eq (de_var 1) de_int (nomark _)) (dss_one (ds_ret (de_and (de_fldG K (f := "head_built") Z.c_ItemReader Z.na_ItemReader_head_built (de_var 0)) (de_one (de_or (de_cmp op_isN sim_isN (de_var 2) de_non (nomark _)) (de_or (de_cmp (op_eqK K hr) sim_eq (de_var 2) de_int (nomark _)) (de_one (de_cmp op_ge (sim_I0 fun _ _ _ _ => rfl) (de_var 2) de_int (nomark _))))))))) dss_nil)
    (dss_cons (ds_if (dt_w (dw_and (dt_val (de_fldG K (f := "only_strict") Z.c_ItemReader Z.na_ItemReader_only_strict (de_var 0))) (dw_and1 (dt_val (de_fldG K (f := "head_built") Z.c_ItemReader Z.na_ItemReader_head_built (de_var 0)))))) (dss_one (ds_ret de_bl)) dss_nil)
    (dss_cons (ds_set 3 sc_ItemReader_allows_length.nd (de_if (dt_cmp op_isN sim_isN (de_var 2) de_non (nomark _)) de_non (de_op op_sub (sim_I0 fun _ _ _ _ => rfl) (de_var 2) de_int)))
    (dss_cons (ds_if (dt_cmp op_lt (sim_I0 fun _ _ _ _ => rfl) (de_var 1) de_int (nomark _)) (dss_one (ds_ret (de_call K (ok_length_fills Z) (takes_of rfl rfl rfl rfl) (hr.mono (by decide)) rfl Z.g_length_fills Z.F_length_fills.kp Z.b_length_fills .nil (fun _ _ => rfl) (da_cons (de_var 3) (da_cons (de_var 1) (da_cons de_int (da_cons (de_fldG K (f := "head_built") Z.c_ItemReader Z.na_ItemReader_head_built (de_var 0)) da_nil))))))) dss_nil)
    (dss_cons (ds_if (dt_cmp op_gt (sim_I0 fun _ _ _ _ => rfl) (de_op op_sub (sim_I0 fun _ _ _ _ => rfl) (de_var 1) de_int) (de_if (dt_val (de_fldG K (f := "only_strict") Z.c_ItemReader Z.na_ItemReader_only_strict (de_var 0))) de_int de_int) (nomark _)) (dss_one (ds_ret de_bl)) dss_nil)
    (dss_one (ds_ret (de_call K (ok_length_fills Z) (takes_of rfl rfl rfl rfl) (hr.mono (by decide)) rfl Z.g_length_fills Z.F_length_fills.kp Z.b_length_fills .nil (fun _ _ => rfl) (da_cons (de_var 3) (da_cons de_int (da_cons (de_op op_sub (sim_I0 fun _ _ _ _ => rfl) (de_var 1) de_int) (da_cons (de_fldG K (f := "head_built") Z.c_ItemReader Z.na_ItemReader_head_built (de_var 0)) da_nil)))))))))))))⟩
theorem ok_bad_length_digit (Z : Zs K mg) : FnOk P w K mg base (L2.CX P w) 1 Z.f_bad_length_digit Z.fd_bad_length_digit ["width", "index", "octet", "least"] (spM K 4 false m_bad_length_digit) := fn_ok Z.F_bad_length_digit sc_bad_length_digit rfl 4 rfl fun cdv A outer s H E hr => ⟨_,
    (dss_cons (ds_if (dt_not (dt_val (de_var 3))) (dss_one (ds_ret (de_and (de_cmp op_lt (sim_I0 fun _ _ _ _ => rfl) (de_var 1) (de_op op_sub (sim_I0 fun _ _ _ _ => rfl) (de_var 0) de_int) (nomark _)) (de_one (de_cmp (op_neK K hr) sim_ne (de_var 2) de_int (nomark _)))))) dss_nil)
    (dss_cons (ds_if (dt_cmp op_gt (sim_I0 fun _ _ _ _ => rfl) (de_var 1) de_int (nomark _)) (dss_one (ds_ret de_bl)) dss_nil)
    (dss_cons (ds_if (dt_cmp (op_eqK K hr) sim_eq (de_var 0) de_int (nomark _)) (dss_one (ds_ret (de_cmp op_lt (sim_I0 fun _ _ _ _ => rfl) (de_var 2) de_int (nomark _)))) dss_nil)
    (dss_one (ds_ret (de_cmp (op_eqK K hr) sim_eq (de_var 2) de_int (nomark _)))))))⟩
theorem ok_ItemReader_allows_digit (Z : Zs K mg) : FnOk P w K mg base (L2.CX P w) 3 Z.f_ItemReader_allows_digit Z.fd_ItemReader_allows_digit ["self", "octet"] (spM K 2 false m_ItemReader_allows_digit) := fn_ok Z.F_ItemReader_allows_digit sc_ItemReader_allows_digit rfl 5 rfl fun cdv A outer s H E hr => ⟨_,
    (dss_cons (ds_if (dt_val (de_call K (ok_bad_length_digit Z) (takes_of rfl rfl rfl rfl) (hr.mono (by decide)) rfl Z.g_bad_length_digit Z.F_bad_length_digit.kp Z.b_bad_length_digit .nil (fun _ _ => rfl) (da_cons (de_fldG K (f := "digits_all") Z.c_ItemReader Z.na_ItemReader_digits_all (de_var 0)) (da_cons (de_fldG K (f := "digits_read") Z.c_ItemReader Z.na_ItemReader_digits_read (de_var 0)) (da_cons (de_var 1) (da_cons (de_fldG K (f := "only_strict") Z.c_ItemReader Z.na_ItemReader_only_strict (de_var 0)) da_nil)))))) (dss_one (ds_ret de_bl)) dss_nil)
    (dss_cons (ds_set 2 sc_ItemReader_allows_digit.nd (de_me0 K Z.c_ItemReader Z.me_ItemReader_room_left (ok_ItemReader_room_left Z) (takes_of rfl rfl rfl rfl) (hr.mono (by decide)) Z.b_ItemReader_room_left .nil (fun _ _ => rfl) (de_var 0)))
    (dss_cons (ds_set 3 sc_ItemReader_allows_digit.nd (de_if (dt_cmp op_isN sim_isN (de_var 2) de_non (nomark _)) de_non (de_op op_sub (sim_I0 fun _ _ _ _ => rfl) (de_var 2) de_int)))
    (dss_cons (ds_set 4 sc_ItemReader_allows_digit.nd (de_op op_sub (sim_I0 fun _ _ _ _ => rfl) (de_op op_sub (sim_I0 fun _ _ _ _ => rfl) (de_fldG K (f := "digits_all") Z.c_ItemReader Z.na_ItemReader_digits_all (de_var 0)) (de_fldG K (f := "digits_read") Z.c_ItemReader Z.na_ItemReader_digits_read (de_var 0))) de_int))
    (dss_one (ds_ret (de_call K (ok_length_fills Z) (takes_of rfl rfl rfl rfl) (hr.mono (by decide)) rfl Z.g_length_fills Z.F_length_fills.kp Z.b_length_fills .nil (fun _ _ => rfl) (da_cons (de_var 3) (da_cons (de_op (op_addK K) sim_add (de_op op_mulA sim_mul (de_fldG K (f := "length_so_far") Z.c_ItemReader Z.na_ItemReader_length_so_far (de_var 0)) de_int) (de_var 1)) (da_cons (de_var 4) (da_cons (de_fldG K (f := "head_built") Z.c_ItemReader Z.na_ItemReader_head_built (de_var 0)) da_nil)))))))))))⟩
theorem ok_ItemReader_allows_octet (Z : Zs K mg) : FnOk P w K mg base (L2.CX P w) 4 Z.f_ItemReader_allows_octet Z.fd_ItemReader_allows_octet ["self", "octet"] (spM K 2 false m_ItemReader_allows_octet) := fn_ok Z.F_ItemReader_allows_octet sc_ItemReader_allows_octet rfl 2 rfl fun cdv A outer s H E hr => ⟨_,
    (dss_cons (ds_if (dt_cmp (op_eqK K hr) sim_eq (de_fldG K (f := "stage") Z.c_ItemReader Z.na_ItemReader_stage (de_var 0)) (de_gstr rfl Z.g_AT_ITEM) (nomark _)) (dss_one (ds_ret (de_me K Z.c_ItemReader Z.me_ItemReader_allows_begin (ok_ItemReader_allows_begin Z) (takes_of rfl rfl rfl rfl) (hr.mono (by decide)) Z.b_ItemReader_allows_begin .nil (fun _ _ => rfl) (de_var 0) (da_cons (de_var 1) da_nil)))) dss_nil)
    (dss_cons (ds_if (dt_cmp (op_eqK K hr) sim_eq (de_fldG K (f := "stage") Z.c_ItemReader Z.na_ItemReader_stage (de_var 0)) (de_gstr rfl Z.g_AT_CHAIN) (nomark _)) (dss_one (ds_ret (de_me K Z.c_ItemReader Z.me_ItemReader_allows_chain (ok_ItemReader_allows_chain Z) (takes_of rfl rfl rfl rfl) (hr.mono (by decide)) Z.b_ItemReader_allows_chain .nil (fun _ _ => rfl) (de_var 0) (da_cons (de_var 1) da_nil)))) dss_nil)
    (dss_cons (ds_if (dt_cmp (op_eqK K hr) sim_eq (de_fldG K (f := "stage") Z.c_ItemReader Z.na_ItemReader_stage (de_var 0)) (de_gstr rfl Z.g_AT_LENGTH) (nomark _)) (dss_one (ds_ret (de_me K Z.c_ItemReader Z.me_ItemReader_allows_length (ok_ItemReader_allows_length Z) (takes_of rfl rfl rfl rfl) (hr.mono (by decide)) Z.b_ItemReader_allows_length .nil (fun _ _ => rfl) (de_var 0) (da_cons (de_var 1) da_nil)))) dss_nil)
    (dss_cons (ds_if (dt_cmp (op_eqK K hr) sim_eq (de_fldG K (f := "stage") Z.c_ItemReader Z.na_ItemReader_stage (de_var 0)) (de_gstr rfl Z.g_AT_DIGIT) (nomark _)) (dss_one (ds_ret (de_me K Z.c_ItemReader Z.me_ItemReader_allows_digit (ok_ItemReader_allows_digit Z) (takes_of rfl rfl rfl rfl) (hr.mono (by decide)) Z.b_ItemReader_allows_digit .nil (fun _ _ => rfl) (de_var 0) (da_cons (de_var 1) da_nil)))) dss_nil)
    (dss_one (ds_ret (de_cmp (op_eqK K hr) sim_eq (de_fldG K (f := "stage") Z.c_ItemReader Z.na_ItemReader_stage (de_var 0)) (de_gstr rfl Z.g_AT_CONTENT) (nomark _))))))))⟩
theorem ok_ItemReader_is_too_deep (Z : Zs K mg) : FnOk P w K mg base (L2.CX P w) 1 Z.f_ItemReader_is_too_deep Z.fd_ItemReader_is_too_deep ["self", "octet"] (spM K 2 false m_ItemReader_is_too_deep) := fn_ok Z.F_ItemReader_is_too_deep sc_ItemReader_is_too_deep rfl 2 rfl fun cdv A outer s H E hr => ⟨_,
    (dss_cons (ds_if (dt_cmp op_lt (sim_I0 fun _ _ _ _ => rfl) (de_lenG K rfl Z.z_len (by decide +kernel) (de_fldG K (f := "open_items") Z.c_ItemReader Z.na_ItemReader_open_items (de_var 0))) (de_gint rfl Z.g_DEPTH) (nomark _)) (dss_one (ds_ret de_bl)) dss_nil)
    (dss_cons (ds_if (dt_cmp (op_eqK K hr) sim_eq (de_fldG K (f := "stage") Z.c_ItemReader Z.na_ItemReader_stage (de_var 0)) (de_gstr rfl Z.g_AT_ITEM) (nomark _)) (dss_one (ds_ret (de_and (de_cmp (op_neK K hr) sim_ne (de_op op_and (sim_I0 fun _ _ _ _ => rfl) (de_var 1) de_int) de_int (nomark _)) (de_one (de_cmp (op_neK K hr) sim_ne (de_op op_and (sim_I0 fun _ _ _ _ => rfl) (de_var 1) de_int) de_int (nomark _)))))) dss_nil)
    (dss_one (ds_ret (de_and (de_cmp (op_eqK K hr) sim_eq (de_fldG K (f := "stage") Z.c_ItemReader Z.na_ItemReader_stage (de_var 0)) (de_gstr rfl Z.g_AT_CHAIN) (nomark _)) (de_and (de_cmp op_lt (sim_I0 fun _ _ _ _ => rfl) (de_var 1) de_int (nomark _)) (de_one (de_cmp (op_neK K hr) sim_ne (de_op op_and (sim_I0 fun _ _ _ _ => rfl) (de_ix K (de_fldG K (f := "head_octets") Z.c_ItemReader Z.na_ItemReader_head_octets (de_var 0)) de_int) de_int) de_int (nomark _)))))))))⟩
theorem ok_octet_at (Z : Zs K mg) : FnOk P w K mg base (L2.CX P w) 3 Z.f_octet_at Z.fd_octet_at ["octets", "place"] (spM K 2 false m_octet_at) := fn_ok Z.F_octet_at sc_octet_at rfl 2 rfl fun cdv A outer s H E hr => ⟨_,
    (dss_cons (ds_if (dt_cmp op_ge (sim_I0 fun _ _ _ _ => rfl) (de_var 1) (de_callB (call_lenK K) sim_len rfl Z.z_len (by decide +kernel) (da_cons (de_var 0) da_nil)) (nomark _)) (dss_one (ds_raise K (Z.x_Ended w base) rfl (takes_of rfl rfl rfl rfl) (hr.mono (by decide)) rfl (de_callB (call_lenK K) sim_len rfl Z.z_len (by decide +kernel) (da_cons (de_var 0) da_nil)))) dss_nil)
    (dss_one (ds_ret (de_ix K (de_var 0) (de_var 1)))))⟩
theorem ok_read_identifier (Z : Zs K mg) : FnOk P w K mg base (L2.CX P w) 4 Z.f_read_identifier Z.fd_read_identifier ["octets", "at"] (spM K 2 false m_read_identifier) := fn_ok Z.F_read_identifier sc_read_identifier rfl 8 rfl fun cdv A outer s H E hr => ⟨_,
    (dss_cons (ds_set 2 sc_read_identifier.nd (de_call K (ok_octet_at Z) (takes_of rfl rfl rfl rfl) (hr.mono (by decide)) rfl Z.g_octet_at Z.F_octet_at.kp Z.b_octet_at .nil (fun _ _ => rfl) (da_cons (de_var 0) (da_cons (de_var 1) da_nil))))
    (dss_cons (ds_set 3 sc_read_identifier.nd (de_op op_shr (sim_I fun _ _ _ _ => rfl) (de_var 2) de_int))
    (dss_cons (ds_set 4 sc_read_identifier.nd (de_cmp (op_neK K hr) sim_ne (de_op op_and (sim_I0 fun _ _ _ _ => rfl) (de_var 2) de_int) de_int (nomark _)))
    (dss_cons (ds_set 5 sc_read_identifier.nd (de_op op_and (sim_I0 fun _ _ _ _ => rfl) (de_var 2) de_int))
    (dss_cons (ds_if (dt_cmp op_lt (sim_I0 fun _ _ _ _ => rfl) (de_var 5) de_int (nomark _)) (dss_cons (ds_if (dt_w (dw_and (dt_cmp (op_eqK K hr) sim_eq (de_var 3) de_int (nomark _)) (dw_and1 (dt_cmp (op_eqK K hr) sim_eq (de_var 5) de_int (nomark _))))) (dss_one (ds_raise K (Z.x_Refused w base) rfl (takes_of rfl rfl rfl rfl) (hr.mono (by decide)) rfl (de_var 1))) dss_nil)
    (dss_one (ds_ret (de_tup (da_cons (de_tup (da_cons (de_var 3) (da_cons (de_var 5) da_nil))) (da_cons (de_var 4) (da_cons de_int da_nil))))))) dss_nil)
    (dss_cons (ds_set 6 sc_read_identifier.nd (de_call K (ok_octet_at Z) (takes_of rfl rfl rfl rfl) (hr.mono (by decide)) rfl Z.g_octet_at Z.F_octet_at.kp Z.b_octet_at .nil (fun _ _ => rfl) (da_cons (de_var 0) (da_cons (de_op (op_addK K) sim_add (de_var 1) de_int) da_nil))))
    (dss_cons (ds_if (dt_w (dw_or (dt_cmp op_lt (sim_I0 fun _ _ _ _ => rfl) (de_var 6) de_int (nomark _)) (dw_or1 (dt_cmp (op_eqK K hr) sim_eq (de_var 6) de_int (nomark _))))) (dss_one (ds_raise K (Z.x_Refused w base) rfl (takes_of rfl rfl rfl rfl) (hr.mono (by decide)) rfl (de_op (op_addK K) sim_add (de_var 1) de_int))) dss_nil)
    (dss_cons (ds_if (dt_cmp op_lt (sim_I0 fun _ _ _ _ => rfl) (de_var 6) de_int (nomark _)) (dss_one (ds_ret (de_tup (da_cons (de_tup (da_cons (de_var 3) (da_cons (de_var 6) da_nil))) (da_cons (de_var 4) (da_cons de_int da_nil)))))) dss_nil)
    (dss_cons (ds_set 7 sc_read_identifier.nd (de_call K (ok_octet_at Z) (takes_of rfl rfl rfl rfl) (hr.mono (by decide)) rfl Z.g_octet_at Z.F_octet_at.kp Z.b_octet_at .nil (fun _ _ => rfl) (da_cons (de_var 0) (da_cons (de_op (op_addK K) sim_add (de_var 1) de_int) da_nil))))
    (dss_cons (ds_if (dt_cmp op_ge (sim_I0 fun _ _ _ _ => rfl) (de_var 7) de_int (nomark _)) (dss_one (ds_raise K (Z.x_Refused w base) rfl (takes_of rfl rfl rfl rfl) (hr.mono (by decide)) rfl (de_op (op_addK K) sim_add (de_var 1) de_int))) dss_nil)
    (dss_one (ds_ret (de_tup (da_cons (de_tup (da_cons (de_var 3) (da_cons (de_op (op_addK K) sim_add (de_op op_mulA sim_mul (de_op op_sub (sim_I0 fun _ _ _ _ => rfl) (de_var 6) de_int) de_int) (de_var 7)) da_nil))) (da_cons (de_var 4) (da_cons de_int da_nil))))))))))))))))⟩
theorem ok_ItemReader_end_identifier (Z : Zs K mg) : FnOk P w K mg base (L2.CX P w) 5 Z.f_ItemReader_end_identifier Z.fd_ItemReader_end_identifier ["self"] (spM K 1 false m_ItemReader_end_identifier) := fn_ok Z.F_ItemReader_end_identifier sc_ItemReader_end_identifier rfl 2 rfl fun cdv A outer s H E hr => ⟨_,
    (dss_cons (ds_asg (de_call K (ok_read_identifier Z) (takes_of rfl rfl rfl rfl) (hr.mono (by decide)) rfl Z.g_read_identifier Z.F_read_identifier.kp Z.b_read_identifier_1.choose_spec.2 Z.b_read_identifier_1.choose_spec.1 (fun _ _ => ⟨_, _, rfl, rfl, rfl⟩) (da_cons (de_fldG K (f := "head_octets") Z.c_ItemReader Z.na_ItemReader_head_octets (de_var 0)) da_nil)) (dg_tup K rfl (dgs_cons (dg_fld K (f := "head_tag") Z.c_ItemReader Z.na_ItemReader_head_tag (de_var 0)) (dgs_cons (dg_fld K (f := "head_built") Z.c_ItemReader Z.na_ItemReader_head_built (de_var 0)) (dgs_cons (dg_name 1 sc_ItemReader_end_identifier.nd) dgs_nil)))))
    (dss_one (ds_setF K (f := "stage") Z.c_ItemReader Z.na_ItemReader_stage (de_var 0) (de_gstr rfl Z.g_AT_LENGTH) rfl)))⟩
theorem ok_ItemReader_close_item (Z : Zs K mg) : FnOk P w K mg base (L2.CX P w) 1 Z.f_ItemReader_close_item Z.fd_ItemReader_close_item ["self"] (spM K 1 false m_ItemReader_close_item) := fn_ok Z.F_ItemReader_close_item sc_ItemReader_close_item rfl 2 rfl fun cdv A outer s H E hr => ⟨_,
    (dss_cons (ds_set 1 sc_ItemReader_close_item.nd (de_popG K PySem.F.plainAttrs_list PySem.F.slot_list_pop PySem.F.type_list_pop mt_pop (de_fldG K (f := "open_items") Z.c_ItemReader Z.na_ItemReader_open_items (de_var 0))))
    (dss_one (ds_ret (de_tup (da_cons de_str (da_cons (de_fldG K (f := "tag_pair") Z.c_OpenItem Z.na_OpenItem_tag_pair (de_var 1)) (da_cons (de_callTy (call_tupleK K) sim_tuple rfl Z.z_tuple (by decide +kernel) (da_cons (de_fldG K (f := "inner_items") Z.c_OpenItem Z.na_OpenItem_inner_items (de_var 1)) da_nil)) (da_cons (de_fldG K (f := "first_place") Z.c_OpenItem Z.na_OpenItem_first_place (de_var 1)) (da_cons (de_fldG K (f := "place") Z.c_ItemReader Z.na_ItemReader_place (de_var 0)) da_nil)))))))))⟩
theorem ok_ItemReader_put_item (Z : Zs K mg) : FnOk P w K mg base (L2.CX P w) 2 Z.f_ItemReader_put_item Z.fd_ItemReader_put_item ["self", "tree"] (spM K 2 false m_ItemReader_put_item) := fn_ok Z.F_ItemReader_put_item sc_ItemReader_put_item rfl 4 rfl fun cdv A outer s H E hr => ⟨_,
    (dss_cons (ds_set 2 sc_ItemReader_put_item.nd (de_var 1))
    (dss_cons (ds_while (passes_of rfl) (dt_cmp op_gt (sim_I0 fun _ _ _ _ => rfl) (de_lenG K rfl Z.z_len (by decide +kernel) (de_fldG K (f := "open_items") Z.c_ItemReader Z.na_ItemReader_open_items (de_var 0))) de_int (nomark _)) (dss_cons (ds_set 3 sc_ItemReader_put_item.nd (de_ixG K (de_fldG K (f := "open_items") Z.c_ItemReader Z.na_ItemReader_open_items (de_var 0)) (de_neg de_int)))
    (dss_cons (ds_expr (de_bmG K PySem.F.plainAttrs_list PySem.F.slot_list_append PySem.F.type_list_append mt_append sim_append (de_fldG K (f := "inner_items") Z.c_OpenItem Z.na_OpenItem_inner_items (de_var 3)) (da_cons (de_var 2) da_nil)))
    (dss_cons (ds_if (dt_w (dw_or (dt_cmp op_isN sim_isN (de_fldG K (f := "end_place") Z.c_OpenItem Z.na_OpenItem_end_place (de_var 3)) de_non (nomark _)) (dw_or1 (dt_cmp op_gt (sim_I0 fun _ _ _ _ => rfl) (de_fldG K (f := "end_place") Z.c_OpenItem Z.na_OpenItem_end_place (de_var 3)) (de_fldG K (f := "place") Z.c_ItemReader Z.na_ItemReader_place (de_var 0)) (nomark _))))) (dss_cons (ds_setF K (f := "stage") Z.c_ItemReader Z.na_ItemReader_stage (de_var 0) (de_gstr rfl Z.g_AT_ITEM) rfl)
    (dss_one ds_retN)) dss_nil)
    (dss_one (ds_set 2 sc_ItemReader_put_item.nd (de_me0 K Z.c_ItemReader Z.me_ItemReader_close_item (ok_ItemReader_close_item Z) (takes_of rfl rfl rfl rfl) (hr.mono (by decide)) Z.b_ItemReader_close_item .nil (fun _ _ => rfl) (de_var 0))))))))
    (dss_cons (ds_setF K (f := "whole_item") Z.c_ItemReader Z.na_ItemReader_whole_item (de_var 0) (de_var 2) rfl)
    (dss_one (ds_setF K (f := "stage") Z.c_ItemReader Z.na_ItemReader_stage (de_var 0) (de_gstr rfl Z.g_AT_END) rfl)))))⟩
theorem ok_ItemReader_accept_begin (Z : Zs K mg) : FnOk P w K mg base (L2.CX P w) 6 Z.f_ItemReader_accept_begin Z.fd_ItemReader_accept_begin ["self", "octet"] (spM K 2 false m_ItemReader_accept_begin) := fn_ok Z.F_ItemReader_accept_begin sc_ItemReader_accept_begin rfl 2 rfl fun cdv A outer s H E hr => ⟨_,
    (dss_cons (ds_if (dt_cmp (op_eqK K hr) sim_eq (de_var 1) de_int (nomark _)) (dss_cons (ds_expr (de_me K Z.c_ItemReader Z.me_ItemReader_put_item (ok_ItemReader_put_item Z) (takes_of rfl rfl rfl rfl) (hr.mono (by decide)) Z.b_ItemReader_put_item .nil (fun _ _ => rfl) (de_var 0) (da_cons (de_me0 K Z.c_ItemReader Z.me_ItemReader_close_item (ok_ItemReader_close_item Z) (takes_of rfl rfl rfl rfl) (hr.mono (by decide)) Z.b_ItemReader_close_item .nil (fun _ _ => rfl) (de_var 0)) da_nil)))
    (dss_one ds_retN)) dss_nil)
    (dss_cons (ds_setF K (f := "head_octets") Z.c_ItemReader Z.na_ItemReader_head_octets (de_var 0) (de_lstM (da_cons (de_var 1) da_nil)) rfl)
    (dss_cons (ds_setF K (f := "head_place") Z.c_ItemReader Z.na_ItemReader_head_place (de_var 0) (de_op op_sub (sim_I0 fun _ _ _ _ => rfl) (de_fldG K (f := "place") Z.c_ItemReader Z.na_ItemReader_place (de_var 0)) de_int) rfl)
    (dss_one (ds_if (dt_cmp (op_eqK K hr) sim_eq (de_op op_and (sim_I0 fun _ _ _ _ => rfl) (de_var 1) de_int) de_int (nomark _)) (dss_one (ds_setF K (f := "stage") Z.c_ItemReader Z.na_ItemReader_stage (de_var 0) (de_gstr rfl Z.g_AT_CHAIN) rfl)) (dss_one (ds_expr (de_me0 K Z.c_ItemReader Z.me_ItemReader_end_identifier (ok_ItemReader_end_identifier Z) (takes_of rfl rfl rfl rfl) (hr.mono (by decide)) Z.b_ItemReader_end_identifier .nil (fun _ _ => rfl) (de_var 0)))))))))⟩
theorem ok_OpenItem___init__ (Z : Zs K mg) : FnOk P w K mg base (L2.CX P w) 1 Z.f_OpenItem___init__ Z.fd_OpenItem___init__ ["self", "tag_pair", "first_place", "end_place", "room_end"] (spM K 5 false m_OpenItem___init__) := fn_ok Z.F_OpenItem___init__ sc_OpenItem___init__ rfl 5 rfl fun cdv A outer s H E hr => ⟨_,
    (dss_cons (ds_setF K (f := "tag_pair") Z.c_OpenItem Z.na_OpenItem_tag_pair (de_var 0) (de_var 1) rfl)
    (dss_cons (ds_setF K (f := "first_place") Z.c_OpenItem Z.na_OpenItem_first_place (de_var 0) (de_var 2) rfl)
    (dss_cons (ds_setF K (f := "end_place") Z.c_OpenItem Z.na_OpenItem_end_place (de_var 0) (de_var 3) rfl)
    (dss_cons (ds_setF K (f := "room_end") Z.c_OpenItem Z.na_OpenItem_room_end (de_var 0) (de_var 4) rfl)
    (dss_one (ds_setF K (f := "inner_items") Z.c_OpenItem Z.na_OpenItem_inner_items (de_var 0) (de_lstM da_nil) rfl))))))⟩
theorem ok_ItemReader_end_plain (Z : Zs K mg) : FnOk P w K mg base (L2.CX P w) 3 Z.f_ItemReader_end_plain Z.fd_ItemReader_end_plain ["self"] (spM K 1 false m_ItemReader_end_plain) := fn_ok Z.F_ItemReader_end_plain sc_ItemReader_end_plain rfl 1 rfl fun cdv A outer s H E hr => ⟨_,
    (dss_one (ds_expr (de_me K Z.c_ItemReader Z.me_ItemReader_put_item (ok_ItemReader_put_item Z) (takes_of rfl rfl rfl rfl) (hr.mono (by decide)) Z.b_ItemReader_put_item .nil (fun _ _ => rfl) (de_var 0) (da_cons (de_tup (da_cons de_str (da_cons (de_fldG K (f := "head_tag") Z.c_ItemReader Z.na_ItemReader_head_tag (de_var 0)) (da_cons (de_callTy (call_tupleK K) sim_tuple rfl Z.z_tuple (by decide +kernel) (da_cons (de_fldG K (f := "content_so_far") Z.c_ItemReader Z.na_ItemReader_content_so_far (de_var 0)) da_nil)) (da_cons (de_fldG K (f := "head_place") Z.c_ItemReader Z.na_ItemReader_head_place (de_var 0)) (da_cons (de_fldG K (f := "place") Z.c_ItemReader Z.na_ItemReader_place (de_var 0)) da_nil)))))) da_nil))))⟩
theorem ok_ItemReader_begin_contents (Z : Zs K mg) : FnOk P w K mg base (L2.CX P w) 4 Z.f_ItemReader_begin_contents Z.fd_ItemReader_begin_contents ["self", "length"] (spM K 2 false m_ItemReader_begin_contents) := fn_ok Z.F_ItemReader_begin_contents sc_ItemReader_begin_contents rfl 3 rfl fun cdv A outer s H E hr => ⟨_,
    (dss_one (ds_if (dt_val (de_fldG K (f := "head_built") Z.c_ItemReader Z.na_ItemReader_head_built (de_var 0))) (dss_cons (ds_set 2 sc_ItemReader_begin_contents.nd (de_op (op_addK K) sim_add (de_fldG K (f := "place") Z.c_ItemReader Z.na_ItemReader_place (de_var 0)) (de_var 1)))
    (dss_cons (ds_expr (de_appG K PySem.F.plainAttrs_list PySem.F.slot_list_append PySem.F.type_list_append mt_append (de_fldG K (f := "open_items") Z.c_ItemReader Z.na_ItemReader_open_items (de_var 0)) (de_make K Z.mk_OpenItem (ok_OpenItem___init__ Z) (hr.mono (by decide)) rfl Z.g_OpenItem Z.b_OpenItem___init__ .nil (fun _ _ => rfl) (da_cons (de_fldG K (f := "head_tag") Z.c_ItemReader Z.na_ItemReader_head_tag (de_var 0)) (da_cons (de_fldG K (f := "head_place") Z.c_ItemReader Z.na_ItemReader_head_place (de_var 0)) (da_cons (de_var 2) (da_cons (de_var 2) da_nil)))))))
    (dss_cons (ds_setF K (f := "stage") Z.c_ItemReader Z.na_ItemReader_stage (de_var 0) (de_gstr rfl Z.g_AT_ITEM) rfl)
    (dss_one (ds_if (dt_cmp (op_eqK K hr) sim_eq (de_var 1) de_int (nomark _)) (dss_one (ds_expr (de_me K Z.c_ItemReader Z.me_ItemReader_put_item (ok_ItemReader_put_item Z) (takes_of rfl rfl rfl rfl) (hr.mono (by decide)) Z.b_ItemReader_put_item .nil (fun _ _ => rfl) (de_var 0) (da_cons (de_me0 K Z.c_ItemReader Z.me_ItemReader_close_item (ok_ItemReader_close_item Z) (takes_of rfl rfl rfl rfl) (hr.mono (by decide)) Z.b_ItemReader_close_item .nil (fun _ _ => rfl) (de_var 0)) da_nil)))) dss_nil))))) (dss_cons (ds_setF K (f := "content_so_far") Z.c_ItemReader Z.na_ItemReader_content_so_far (de_var 0) (de_lstM da_nil) rfl)
    (dss_cons (ds_setF K (f := "content_due") Z.c_ItemReader Z.na_ItemReader_content_due (de_var 0) (de_var 1) rfl)
    (dss_cons (ds_setF K (f := "stage") Z.c_ItemReader Z.na_ItemReader_stage (de_var 0) (de_gstr rfl Z.g_AT_CONTENT) rfl)
    (dss_one (ds_if (dt_cmp (op_eqK K hr) sim_eq (de_var 1) de_int (nomark _)) (dss_one (ds_expr (de_me0 K Z.c_ItemReader Z.me_ItemReader_end_plain (ok_ItemReader_end_plain Z) (takes_of rfl rfl rfl rfl) (hr.mono (by decide)) Z.b_ItemReader_end_plain .nil (fun _ _ => rfl) (de_var 0)))) dss_nil)))))))⟩
theorem ok_ItemReader_accept_length (Z : Zs K mg) : FnOk P w K mg base (L2.CX P w) 5 Z.f_ItemReader_accept_length Z.fd_ItemReader_accept_length ["self", "octet"] (spM K 2 false m_ItemReader_accept_length) := fn_ok Z.F_ItemReader_accept_length sc_ItemReader_accept_length rfl 4 rfl fun cdv A outer s H E hr => ⟨_,
    (dss_one (ds_if (dt_cmp op_lt (sim_I0 fun _ _ _ _ => rfl) (de_var 1) de_int (nomark _)) (dss_one (ds_expr (de_me K Z.c_ItemReader Z.me_ItemReader_begin_contents (ok_ItemReader_begin_contents Z) (takes_of rfl rfl rfl rfl) (hr.mono (by decide)) Z.b_ItemReader_begin_contents .nil (fun _ _ => rfl) (de_var 0) (da_cons (de_var 1) da_nil)))) (dss_one (ds_if (dt_cmp op_gt (sim_I0 fun _ _ _ _ => rfl) (de_var 1) de_int (nomark _)) (dss_cons (ds_setF K (f := "length_so_far") Z.c_ItemReader Z.na_ItemReader_length_so_far (de_var 0) de_int rfl)
    (dss_cons (ds_setF K (f := "digits_all") Z.c_ItemReader Z.na_ItemReader_digits_all (de_var 0) (de_op op_sub (sim_I0 fun _ _ _ _ => rfl) (de_var 1) de_int) rfl)
    (dss_cons (ds_setF K (f := "digits_read") Z.c_ItemReader Z.na_ItemReader_digits_read (de_var 0) de_int rfl)
    (dss_one (ds_setF K (f := "stage") Z.c_ItemReader Z.na_ItemReader_stage (de_var 0) (de_gstr rfl Z.g_AT_DIGIT) rfl))))) (dss_cons (ds_set 2 sc_ItemReader_accept_length.nd (de_me0 K Z.c_ItemReader Z.me_ItemReader_room_left (ok_ItemReader_room_left Z) (takes_of rfl rfl rfl rfl) (hr.mono (by decide)) Z.b_ItemReader_room_left .nil (fun _ _ => rfl) (de_var 0)))
    (dss_cons (ds_set 3 sc_ItemReader_accept_length.nd (de_if (dt_cmp op_isN sim_isN (de_var 2) de_non (nomark _)) de_non (de_op op_sub (sim_I0 fun _ _ _ _ => rfl) (de_op (op_addK K) sim_add (de_fldG K (f := "place") Z.c_ItemReader Z.na_ItemReader_place (de_var 0)) (de_var 2)) de_int)))
    (dss_cons (ds_expr (de_appG K PySem.F.plainAttrs_list PySem.F.slot_list_append PySem.F.type_list_append mt_append (de_fldG K (f := "open_items") Z.c_ItemReader Z.na_ItemReader_open_items (de_var 0)) (de_make K Z.mk_OpenItem (ok_OpenItem___init__ Z) (hr.mono (by decide)) rfl Z.g_OpenItem Z.b_OpenItem___init__ .nil (fun _ _ => rfl) (da_cons (de_fldG K (f := "head_tag") Z.c_ItemReader Z.na_ItemReader_head_tag (de_var 0)) (da_cons (de_fldG K (f := "head_place") Z.c_ItemReader Z.na_ItemReader_head_place (de_var 0)) (da_cons de_non (da_cons (de_var 3) da_nil)))))))
    (dss_one (ds_setF K (f := "stage") Z.c_ItemReader Z.na_ItemReader_stage (de_var 0) (de_gstr rfl Z.g_AT_ITEM) rfl)))))))))⟩
theorem ok_ItemReader_accept_octet (Z : Zs K mg) : FnOk P w K mg base (L2.CX P w) 7 Z.f_ItemReader_accept_octet Z.fd_ItemReader_accept_octet ["self", "octet"] (spM K 2 false m_ItemReader_accept_octet) := fn_ok Z.F_ItemReader_accept_octet sc_ItemReader_accept_octet rfl 2 rfl fun cdv A outer s H E hr => ⟨_,
    (dss_cons (ds_augF K (f := "place") Z.c_ItemReader Z.na_ItemReader_place in_add (sim_I0 fun _ _ _ _ => rfl) (de_var 0) de_int)
    (dss_one (ds_if (dt_cmp (op_eqK K hr) sim_eq (de_fldG K (f := "stage") Z.c_ItemReader Z.na_ItemReader_stage (de_var 0)) (de_gstr rfl Z.g_AT_ITEM) (nomark _)) (dss_one (ds_expr (de_me K Z.c_ItemReader Z.me_ItemReader_accept_begin (ok_ItemReader_accept_begin Z) (takes_of rfl rfl rfl rfl) (hr.mono (by decide)) Z.b_ItemReader_accept_begin .nil (fun _ _ => rfl) (de_var 0) (da_cons (de_var 1) da_nil)))) (dss_one (ds_if (dt_cmp (op_eqK K hr) sim_eq (de_fldG K (f := "stage") Z.c_ItemReader Z.na_ItemReader_stage (de_var 0)) (de_gstr rfl Z.g_AT_CHAIN) (nomark _)) (dss_cons (ds_expr (de_bmG K PySem.F.plainAttrs_list PySem.F.slot_list_append PySem.F.type_list_append mt_append sim_append (de_fldG K (f := "head_octets") Z.c_ItemReader Z.na_ItemReader_head_octets (de_var 0)) (da_cons (de_var 1) da_nil)))
    (dss_one (ds_if (dt_cmp op_lt (sim_I0 fun _ _ _ _ => rfl) (de_var 1) de_int (nomark _)) (dss_one (ds_expr (de_me0 K Z.c_ItemReader Z.me_ItemReader_end_identifier (ok_ItemReader_end_identifier Z) (takes_of rfl rfl rfl rfl) (hr.mono (by decide)) Z.b_ItemReader_end_identifier .nil (fun _ _ => rfl) (de_var 0)))) dss_nil))) (dss_one (ds_if (dt_cmp (op_eqK K hr) sim_eq (de_fldG K (f := "stage") Z.c_ItemReader Z.na_ItemReader_stage (de_var 0)) (de_gstr rfl Z.g_AT_LENGTH) (nomark _)) (dss_one (ds_expr (de_me K Z.c_ItemReader Z.me_ItemReader_accept_length (ok_ItemReader_accept_length Z) (takes_of rfl rfl rfl rfl) (hr.mono (by decide)) Z.b_ItemReader_accept_length .nil (fun _ _ => rfl) (de_var 0) (da_cons (de_var 1) da_nil)))) (dss_one (ds_if (dt_cmp (op_eqK K hr) sim_eq (de_fldG K (f := "stage") Z.c_ItemReader Z.na_ItemReader_stage (de_var 0)) (de_gstr rfl Z.g_AT_DIGIT) (nomark _)) (dss_cons (ds_setF K (f := "length_so_far") Z.c_ItemReader Z.na_ItemReader_length_so_far (de_var 0) (de_op (op_addK K) sim_add (de_op op_mulA sim_mul (de_fldG K (f := "length_so_far") Z.c_ItemReader Z.na_ItemReader_length_so_far (de_var 0)) de_int) (de_var 1)) rfl)
    (dss_cons (ds_augF K (f := "digits_read") Z.c_ItemReader Z.na_ItemReader_digits_read in_add (sim_I0 fun _ _ _ _ => rfl) (de_var 0) de_int)
    (dss_one (ds_if (dt_cmp (op_eqK K hr) sim_eq (de_fldG K (f := "digits_read") Z.c_ItemReader Z.na_ItemReader_digits_read (de_var 0)) (de_fldG K (f := "digits_all") Z.c_ItemReader Z.na_ItemReader_digits_all (de_var 0)) (nomark _)) (dss_one (ds_expr (de_me K Z.c_ItemReader Z.me_ItemReader_begin_contents (ok_ItemReader_begin_contents Z) (takes_of rfl rfl rfl rfl) (hr.mono (by decide)) Z.b_ItemReader_begin_contents .nil (fun _ _ => rfl) (de_var 0) (da_cons (de_fldG K (f := "length_so_far") Z.c_ItemReader Z.na_ItemReader_length_so_far (de_var 0)) da_nil)))) dss_nil)))) (dss_cons (ds_expr (de_bmG K PySem.F.plainAttrs_list PySem.F.slot_list_append PySem.F.type_list_append mt_append sim_append (de_fldG K (f := "content_so_far") Z.c_ItemReader Z.na_ItemReader_content_so_far (de_var 0)) (da_cons (de_var 1) da_nil)))
    (dss_cons (ds_augF K (f := "content_due") Z.c_ItemReader Z.na_ItemReader_content_due in_sub (sim_I0 fun _ _ _ _ => rfl) (de_var 0) de_int)
    (dss_one (ds_if (dt_cmp (op_eqK K hr) sim_eq (de_fldG K (f := "content_due") Z.c_ItemReader Z.na_ItemReader_content_due (de_var 0)) de_int (nomark _)) (dss_one (ds_expr (de_me0 K Z.c_ItemReader Z.me_ItemReader_end_plain (ok_ItemReader_end_plain Z) (takes_of rfl rfl rfl rfl) (hr.mono (by decide)) Z.b_ItemReader_end_plain .nil (fun _ _ => rfl) (de_var 0)))) dss_nil)))))))))))))⟩
theorem ok_ItemReader_push (Z : Zs K mg) : FnOk P w K mg base (L2.CX P w) 8 Z.f_ItemReader_push Z.fd_ItemReader_push ["self", "octets"] (spM K 2 false m_ItemReader_push) := fn_ok Z.F_ItemReader_push sc_ItemReader_push rfl 3 rfl fun cdv A outer s H E hr => ⟨_,
    (dss_cons (ds_expr (de_me0 K Z.c_ItemReader Z.me_ItemReader_raise_spoilt (ok_ItemReader_raise_spoilt Z) (takes_of rfl rfl rfl rfl) (hr.mono (by decide)) Z.b_ItemReader_raise_spoilt .nil (fun _ _ => rfl) (de_var 0)))
    (dss_cons (ds_for (passes_of rfl) rfl (di_sq K (de_var 1)) (dg_name 2 sc_ItemReader_push.nd) (dss_cons (ds_if (dt_not (dt_val (de_me K Z.c_ItemReader Z.me_ItemReader_allows_octet (ok_ItemReader_allows_octet Z) (takes_of rfl rfl rfl rfl) (hr.mono (by decide)) Z.b_ItemReader_allows_octet .nil (fun _ _ => rfl) (de_var 0) (da_cons (de_var 2) da_nil)))) (dss_one (ds_setF K (f := "spoilt_by") Z.c_ItemReader Z.na_ItemReader_spoilt_by (de_var 0) de_str rfl)) (dss_one (ds_if (dt_val (de_me K Z.c_ItemReader Z.me_ItemReader_is_too_deep (ok_ItemReader_is_too_deep Z) (takes_of rfl rfl rfl rfl) (hr.mono (by decide)) Z.b_ItemReader_is_too_deep .nil (fun _ _ => rfl) (de_var 0) (da_cons (de_var 2) da_nil))) (dss_one (ds_setF K (f := "spoilt_by") Z.c_ItemReader Z.na_ItemReader_spoilt_by (de_var 0) de_str rfl)) dss_nil)))
    (dss_cons (ds_if (dt_cmp (op_neK K hr) sim_ne (de_fldG K (f := "spoilt_by") Z.c_ItemReader Z.na_ItemReader_spoilt_by (de_var 0)) de_str (nomark _)) (dss_one ds_break) dss_nil)
    (dss_one (ds_expr (de_me K Z.c_ItemReader Z.me_ItemReader_accept_octet (ok_ItemReader_accept_octet Z) (takes_of rfl rfl rfl rfl) (hr.mono (by decide)) Z.b_ItemReader_accept_octet .nil (fun _ _ => rfl) (de_var 0) (da_cons (de_var 2) da_nil)))))))
    (dss_one (ds_expr (de_me0 K Z.c_ItemReader Z.me_ItemReader_raise_spoilt (ok_ItemReader_raise_spoilt Z) (takes_of rfl rfl rfl rfl) (hr.mono (by decide)) Z.b_ItemReader_raise_spoilt .nil (fun _ _ => rfl) (de_var 0))))))⟩
theorem ok_ItemReader_finish (Z : Zs K mg) : FnOk P w K mg base (L2.CX P w) 4 Z.f_ItemReader_finish Z.fd_ItemReader_finish ["self"] (spM K 1 false m_ItemReader_finish) := fn_ok Z.F_ItemReader_finish sc_ItemReader_finish rfl 1 rfl fun cdv A outer s H E hr => ⟨_,
    (dss_cons (ds_expr (de_me0 K Z.c_ItemReader Z.me_ItemReader_raise_spoilt (ok_ItemReader_raise_spoilt Z) (takes_of rfl rfl rfl rfl) (hr.mono (by decide)) Z.b_ItemReader_raise_spoilt .nil (fun _ _ => rfl) (de_var 0)))
    (dss_cons (ds_if (dt_cmp (op_neK K hr) sim_ne (de_fldG K (f := "stage") Z.c_ItemReader Z.na_ItemReader_stage (de_var 0)) (de_gstr rfl Z.g_AT_END) (nomark _)) (dss_one (ds_raise K (Z.x_Ended w base) rfl (takes_of rfl rfl rfl rfl) (hr.mono (by decide)) rfl (de_fldG K (f := "place") Z.c_ItemReader Z.na_ItemReader_place (de_var 0)))) dss_nil)
    (dss_one (ds_ret (de_fldG K (f := "whole_item") Z.c_ItemReader Z.na_ItemReader_whole_item (de_var 0))))))⟩
theorem ok_read_item (Z : Zs K mg) : FnOk P w K mg base (L2.CX P w) 9 Z.f_read_item Z.fd_read_item ["octets", "strict"] (spM K 2 false m_read_item) := fn_ok Z.F_read_item sc_read_item rfl 3 rfl fun cdv A outer s H E hr => ⟨_,
    (dss_cons (ds_set 2 sc_read_item.nd (de_makeK0 K (dd := []) Z.mk_ItemReader (ok_ItemReader___init__ Z) (hr.mono (by decide)) rfl Z.g_ItemReader Z.kb_ItemReader___init___1_1.choose_spec (fun _ _ => rfl) (fun _ _ => rfl) (dk_cons (de_var 1) dk_nil)))
    (dss_cons (ds_expr (de_me K Z.c_ItemReader Z.me_ItemReader_push (ok_ItemReader_push Z) (takes_of rfl rfl rfl rfl) (hr.mono (by decide)) Z.b_ItemReader_push .nil (fun _ _ => rfl) (de_var 2) (da_cons (de_var 0) da_nil)))
    (dss_one (ds_ret (de_me0 K Z.c_ItemReader Z.me_ItemReader_finish (ok_ItemReader_finish Z) (takes_of rfl rfl rfl rfl) (hr.mono (by decide)) Z.b_ItemReader_finish .nil (fun _ _ => rfl) (de_var 2))))))⟩
theorem ok__law_read (Z : Zs K mg) : FnOk P w K mg base (L2.CX P w) 10 Z.f__law_read Z.fd__law_read ["_law_row", "_law_flag"] (spM K 2 false m__law_read) := fn_ok Z.F__law_read sc__law_read rfl 4 rfl fun cdv A outer s H E hr => ⟨_,
    (dss_one (ds_try rfl rfl sc__law_read.nd (takes_of rfl rfl rfl rfl) (fun W pn xe tk po => (dss_cons (ds_if (dt_val (de_var 1)) (dss_one (ds_ret (de_tup (da_cons de_str (da_cons (de_callK K (ok_read_item Z) tk (hr.mono (by decide)) rfl Z.g_read_item Z.F_read_item.kp Z.kb_read_item_1_1.choose_spec (fun _ _ => rfl) (fun _ _ => rfl) (da_cons (de_var 0) da_nil) (dk_cons de_bl dk_nil)) da_nil))))) dss_nil)
    (dss_one (ds_ret (de_tup (da_cons de_str (da_cons (de_call K (ok_read_item Z) tk (hr.mono (by decide)) rfl Z.g_read_item Z.F_read_item.kp Z.b_read_item_1.choose_spec.2 Z.b_read_item_1.choose_spec.1 (fun _ _ => ⟨_, _, rfl, rfl, rfl⟩) (da_cons (de_var 0) da_nil)) da_nil))))))) (HsD.cons (c := .ref (He.ga K "Refused")) (i := 2) (tbl := t_5) (ms := fun xa xc xd => (mSeq (mAsg (mAndV (mIsX 2 xa xc xd t_2) (mAndV (mIsX 2 xa xc xd t_3) (mNotV (mIsX 2 xa xc xd t_6)))) (mgName 3))
    (mRet (mTup (mCons (mC (.str "refused")) (mCons (mXf 2 xa xc xd ["Refused", "Ended", "Deep"] "place") (mCons (mVar 3) mNil))))))) rfl rfl ⟨rfl, by decide, .inl Z.gx_Refused⟩ Z.t_5 (fun xa oe xc xd pn hz hf => (dss_cons (ds_set 3 sc__law_read.nd (de_and (de_isX1 (X := (cxOf (L2.CX P w) P w K mg base n__law_read "_law_read" (defScope s__law_read) Z.f__law_read cdv A outer s H E)) (a := xa) (pn := pn) K Z.t_2 hz hf rfl Z.z_isinstance (pe_glob (X := Cx.suite (cxOf (L2.CX P w) P w K mg base n__law_read "_law_read" (defScope s__law_read) Z.f__law_read cdv A outer s H E) xa ((xa, oe) :: pn)) (x := "TagoctetsError") (v := V.ref (He.ga K "TagoctetsError")) rfl Z.gx_TagoctetsError rfl) (.own _) 2) (de_and (de_isX1 (X := (cxOf (L2.CX P w) P w K mg base n__law_read "_law_read" (defScope s__law_read) Z.f__law_read cdv A outer s H E)) (a := xa) (pn := pn) K Z.t_3 hz hf rfl Z.z_isinstance (pe_bltn (X := Cx.suite (cxOf (L2.CX P w) P w K mg base n__law_read "_law_read" (defScope s__law_read) Z.f__law_read cdv A outer s H E) xa ((xa, oe) :: pn)) (x := "ValueError") (v := .ty "ValueError") rfl Z.z_ValueError (by decide +kernel) rfl) (.ty _) 2) (de_one (de_not (de_isX2 (X := (cxOf (L2.CX P w) P w K mg base n__law_read "_law_read" (defScope s__law_read) Z.f__law_read cdv A outer s H E)) (a := xa) (pn := pn) K Z.t_6 hz hf rfl Z.z_isinstance (pe_glob (X := Cx.suite (cxOf (L2.CX P w) P w K mg base n__law_read "_law_read" (defScope s__law_read) Z.f__law_read cdv A outer s H E) xa ((xa, oe) :: pn)) (x := "Ended") (v := V.ref (He.ga K "Ended")) rfl Z.gx_Ended rfl) (pe_glob (X := Cx.suite (cxOf (L2.CX P w) P w K mg base n__law_read "_law_read" (defScope s__law_read) Z.f__law_read cdv A outer s H E) xa ((xa, oe) :: pn)) (x := "Deep") (v := V.ref (He.ga K "Deep")) rfl Z.gx_Deep rfl) (.own _) (.own _) 2))))))
    (dss_one (ds_ret (de_tup (da_cons de_str (da_cons (de_xv (X := (cxOf (L2.CX P w) P w K mg base n__law_read "_law_read" (defScope s__law_read) Z.f__law_read cdv A outer s H E)) (a := xa) (pn := pn) K Z.xf hz hf 2) (da_cons (de_var 3) da_nil))))))))
    (HsD.cons (c := .ref (He.ga K "Ended")) (i := 2) (tbl := t_1) (ms := fun xa xc xd => (mSeq (mAsg (mAndV (mIsX 2 xa xc xd t_2) (mAndV (mIsX 2 xa xc xd t_3) (mNotV (mIsX 2 xa xc xd t_4)))) (mgName 3))
    (mRet (mTup (mCons (mC (.str "ended")) (mCons (mXf 2 xa xc xd ["Refused", "Ended", "Deep"] "place") (mCons (mVar 3) mNil))))))) rfl rfl ⟨rfl, by decide, .inl Z.gx_Ended⟩ Z.t_1 (fun xa oe xc xd pn hz hf => (dss_cons (ds_set 3 sc__law_read.nd (de_and (de_isX1 (X := (cxOf (L2.CX P w) P w K mg base n__law_read "_law_read" (defScope s__law_read) Z.f__law_read cdv A outer s H E)) (a := xa) (pn := pn) K Z.t_2 hz hf rfl Z.z_isinstance (pe_glob (X := Cx.suite (cxOf (L2.CX P w) P w K mg base n__law_read "_law_read" (defScope s__law_read) Z.f__law_read cdv A outer s H E) xa ((xa, oe) :: pn)) (x := "TagoctetsError") (v := V.ref (He.ga K "TagoctetsError")) rfl Z.gx_TagoctetsError rfl) (.own _) 2) (de_and (de_isX1 (X := (cxOf (L2.CX P w) P w K mg base n__law_read "_law_read" (defScope s__law_read) Z.f__law_read cdv A outer s H E)) (a := xa) (pn := pn) K Z.t_3 hz hf rfl Z.z_isinstance (pe_bltn (X := Cx.suite (cxOf (L2.CX P w) P w K mg base n__law_read "_law_read" (defScope s__law_read) Z.f__law_read cdv A outer s H E) xa ((xa, oe) :: pn)) (x := "ValueError") (v := .ty "ValueError") rfl Z.z_ValueError (by decide +kernel) rfl) (.ty _) 2) (de_one (de_not (de_isX2 (X := (cxOf (L2.CX P w) P w K mg base n__law_read "_law_read" (defScope s__law_read) Z.f__law_read cdv A outer s H E)) (a := xa) (pn := pn) K Z.t_4 hz hf rfl Z.z_isinstance (pe_glob (X := Cx.suite (cxOf (L2.CX P w) P w K mg base n__law_read "_law_read" (defScope s__law_read) Z.f__law_read cdv A outer s H E) xa ((xa, oe) :: pn)) (x := "Refused") (v := V.ref (He.ga K "Refused")) rfl Z.gx_Refused rfl) (pe_glob (X := Cx.suite (cxOf (L2.CX P w) P w K mg base n__law_read "_law_read" (defScope s__law_read) Z.f__law_read cdv A outer s H E) xa ((xa, oe) :: pn)) (x := "Deep") (v := V.ref (He.ga K "Deep")) rfl Z.gx_Deep rfl) (.own _) (.own _) 2))))))
    (dss_one (ds_ret (de_tup (da_cons de_str (da_cons (de_xv (X := (cxOf (L2.CX P w) P w K mg base n__law_read "_law_read" (defScope s__law_read) Z.f__law_read cdv A outer s H E)) (a := xa) (pn := pn) K Z.xf hz hf 2) (da_cons (de_var 3) da_nil))))))))
    (HsD.cons (c := .ref (He.ga K "Deep")) (i := 2) (tbl := t_0) (ms := fun xa xc xd => (mRet (mTup (mCons (mC (.str "deep")) (mCons (mXf 2 xa xc xd ["Refused", "Ended", "Deep"] "place") (mCons (mC (.bl true)) mNil)))))) rfl rfl ⟨rfl, by decide, .inl Z.gx_Deep⟩ Z.t_0 (fun xa oe xc xd pn hz hf => (dss_one (ds_ret (de_tup (da_cons de_str (da_cons (de_xv (X := (cxOf (L2.CX P w) P w K mg base n__law_read "_law_read" (defScope s__law_read) Z.f__law_read cdv A outer s H E)) (a := xa) (pn := pn) K Z.xf hz hf 2) (da_cons de_bl da_nil)))))))
    HsD.nil)))))⟩
theorem ok__law_plan_reads (Z : Zs K mg) : FnOk P w K mg base (L2.CX P w) 50 Z.f__law_plan_reads Z.fd__law_plan_reads ["_law_plan_here", "_law_flag"] (spM K 2 false m__law_plan_reads) := fn_ok Z.F__law_plan_reads sc__law_plan_reads rfl 5 rfl fun cdv A outer s H E hr => ⟨_,
    (dss_cons (ds_set 2 sc__law_plan_reads.nd (de_callM K (ok__law_plan_octets Z 22) (takes_of rfl rfl rfl rfl) (hr.mono (by decide)) rfl Z.g__law_plan_octets Z.F__law_plan_octets.kp Z.b__law_plan_octets .nil (fun _ _ => rfl) (da_cons (de_var 0) da_nil)))
    (dss_cons (ds_set 3 sc__law_plan_reads.nd (de_callTy (call_listK K) sim_list rfl Z.z_list (by decide +kernel) (da_cons (de_var 2) da_nil)))
    (dss_cons (ds_set 4 sc__law_plan_reads.nd (de_tup (da_cons de_str (da_cons (de_call K (ok__law_plan_tree Z 22) (takes_of rfl rfl rfl rfl) (hr.mono (by decide)) rfl Z.g__law_plan_tree Z.F__law_plan_tree.kp Z.b__law_plan_tree .nil (fun _ _ => rfl) (da_cons (de_var 0) (da_cons de_int da_nil))) da_nil))))
    (dss_cons (ds_if (dt_w (dw_or (dt_not (dt_val (de_call K (ok__law_equal Z 48) (takes_of rfl rfl rfl rfl) (hr.mono (by decide)) rfl Z.g__law_equal Z.F__law_equal.kp Z.b__law_equal .nil (fun _ _ => rfl) (da_cons (de_call K (ok__law_read Z) (takes_of rfl rfl rfl rfl) (hr.mono (by decide)) rfl Z.g__law_read Z.F__law_read.kp Z.b__law_read .nil (fun _ _ => rfl) (da_cons (de_var 2) (da_cons (de_var 1) da_nil))) (da_cons (de_var 4) da_nil))))) (dw_or1 (dt_cmp (op_neK K hr) sim_ne (de_var 2) (de_var 3) (nomark _))))) (dss_one (ds_ret de_bl)) dss_nil)
    (dss_cons (ds_asg de_int (dg_sb (W := W00) (de_var 2) de_int))
    (dss_cons (ds_if (dt_not (dt_val (de_call K (ok__law_equal Z 48) (takes_of rfl rfl rfl rfl) (hr.mono (by decide)) rfl Z.g__law_equal Z.F__law_equal.kp Z.b__law_equal .nil (fun _ _ => rfl) (da_cons (de_call K (ok__law_read Z) (takes_of rfl rfl rfl rfl) (hr.mono (by decide)) rfl Z.g__law_read Z.F__law_read.kp Z.b__law_read .nil (fun _ _ => rfl) (da_cons (de_var 2) (da_cons (de_var 1) da_nil))) (da_cons (de_tup (da_cons de_str (da_cons de_int (da_cons de_bl da_nil)))) da_nil))))) (dss_one (ds_ret de_bl)) dss_nil)
    (dss_cons (ds_asg (de_ix K (de_var 3) de_int) (dg_sb (W := W00) (de_var 2) de_int))
    (dss_one (ds_ret (de_and (de_call K (ok__law_equal Z 48) (takes_of rfl rfl rfl rfl) (hr.mono (by decide)) rfl Z.g__law_equal Z.F__law_equal.kp Z.b__law_equal .nil (fun _ _ => rfl) (da_cons (de_call K (ok__law_read Z) (takes_of rfl rfl rfl rfl) (hr.mono (by decide)) rfl Z.g__law_read Z.F__law_read.kp Z.b__law_read .nil (fun _ _ => rfl) (da_cons (de_var 2) (da_cons (de_var 1) da_nil))) (da_cons (de_var 4) da_nil))) (de_one (de_call K (ok__law_equal Z 48) (takes_of rfl rfl rfl rfl) (hr.mono (by decide)) rfl Z.g__law_equal Z.F__law_equal.kp Z.b__law_equal .nil (fun _ _ => rfl) (da_cons (de_tup (da_cons de_str (da_cons (de_callK K (ok_read_item Z) (takes_of rfl rfl rfl rfl) (hr.mono (by decide)) rfl Z.g_read_item Z.F_read_item.kp Z.kb_read_item_1_1.choose_spec (fun _ _ => rfl) (fun _ _ => rfl) (da_cons (de_var 3) da_nil) (dk_cons (de_var 1) dk_nil)) da_nil))) (da_cons (de_var 4) da_nil))))))))))))))⟩
theorem ok__law_ends (Z : Zs K mg) : FnOk P w K mg base (L2.CX P w) 50 Z.f__law_ends Z.fd__law_ends ["_law_store_here", "_law_row", "_law_flag"] (spM K 3 false m__law_ends) := fn_ok Z.F__law_ends sc__law_ends rfl 5 rfl fun cdv A outer s H E hr => ⟨_,
    (dss_cons (ds_for (passes_of rfl) rfl (di_sq K (de_lst (da_cons de_int (da_cons (de_op op_sub (sim_I0 fun _ _ _ _ => rfl) (de_callB (call_lenK K) sim_len rfl Z.z_len (by decide +kernel) (da_cons (de_var 1) da_nil)) de_int) (da_cons (de_call K (ok__law_take Z) (takes_of rfl rfl rfl rfl) (hr.mono (by decide)) rfl Z.g__law_take Z.F__law_take.kp Z.b__law_take .nil (fun _ _ => rfl) (da_cons (de_var 0) (da_cons (de_callB (call_lenK K) sim_len rfl Z.z_len (by decide +kernel) (da_cons (de_var 1) da_nil)) da_nil))) (da_cons (de_call K (ok__law_take Z) (takes_of rfl rfl rfl rfl) (hr.mono (by decide)) rfl Z.g__law_take Z.F__law_take.kp Z.b__law_take .nil (fun _ _ => rfl) (da_cons (de_var 0) (da_cons (de_callB (call_lenK K) sim_len rfl Z.z_len (by decide +kernel) (da_cons (de_var 1) da_nil)) da_nil))) da_nil)))))) (dg_name 3 sc__law_ends.nd) (dss_one (ds_if (dt_not (dt_val (de_call K (ok__law_equal Z 48) (takes_of rfl rfl rfl rfl) (hr.mono (by decide)) rfl Z.g__law_equal Z.F__law_equal.kp Z.b__law_equal .nil (fun _ _ => rfl) (da_cons (de_call K (ok__law_read Z) (takes_of rfl rfl rfl rfl) (hr.mono (by decide)) rfl Z.g__law_read Z.F__law_read.kp Z.b__law_read .nil (fun _ _ => rfl) (da_cons (de_sl K (de_var 1) do_none (do_some (de_var 3))) (da_cons (de_var 2) da_nil))) (da_cons (de_tup (da_cons de_str (da_cons (de_var 3) (da_cons de_bl da_nil)))) da_nil))))) (dss_one (ds_ret de_bl)) dss_nil)))
    (dss_cons (ds_for (passes_of rfl) rfl (di_sq K (de_lst (da_cons de_int (da_cons de_int (da_cons de_int (da_cons (de_call K (ok__law_take Z) (takes_of rfl rfl rfl rfl) (hr.mono (by decide)) rfl Z.g__law_take Z.F__law_take.kp Z.b__law_take .nil (fun _ _ => rfl) (da_cons (de_var 0) (da_cons de_int da_nil))) da_nil)))))) (dg_name 4 sc__law_ends.nd) (dss_one (ds_if (dt_not (dt_val (de_call K (ok__law_equal Z 48) (takes_of rfl rfl rfl rfl) (hr.mono (by decide)) rfl Z.g__law_equal Z.F__law_equal.kp Z.b__law_equal .nil (fun _ _ => rfl) (da_cons (de_call K (ok__law_read Z) (takes_of rfl rfl rfl rfl) (hr.mono (by decide)) rfl Z.g__law_read Z.F__law_read.kp Z.b__law_read .nil (fun _ _ => rfl) (da_cons (de_op (op_addK K) sim_add (de_var 1) (de_lst (da_cons (de_var 4) da_nil))) (da_cons (de_var 2) da_nil))) (da_cons (de_tup (da_cons de_str (da_cons (de_callB (call_lenK K) sim_len rfl Z.z_len (by decide +kernel) (da_cons (de_var 1) da_nil)) (da_cons de_bl da_nil)))) da_nil))))) (dss_one (ds_ret de_bl)) dss_nil)))
    (dss_one (ds_ret de_bl))))⟩
theorem ok_law (Z : Zs K mg) : FnOk P w K mg base (L2.CX P w) 51 Z.f_law Z.fd_law ["_law_script"] (spM K 1 false m_law) := fn_ok Z.F_law sc_law rfl 8 rfl fun cdv A outer s H E hr => ⟨_,
    (dss_cons (ds_set 1 sc_law.nd (de_call K (ok__law_store Z) (takes_of rfl rfl rfl rfl) (hr.mono (by decide)) rfl Z.g__law_store Z.F__law_store.kp Z.b__law_store .nil (fun _ _ => rfl) (da_cons (de_var 0) da_nil)))
    (dss_cons (ds_set 2 sc_law.nd (de_call K (ok__law_plan Z 5) (takes_of rfl rfl rfl rfl) (hr.mono (by decide)) rfl Z.g__law_plan Z.F__law_plan.kp Z.b__law_plan .nil (fun _ _ => rfl) (da_cons (de_var 1) (da_cons (de_call K (ok__law_take Z) (takes_of rfl rfl rfl rfl) (hr.mono (by decide)) rfl Z.g__law_take Z.F__law_take.kp Z.b__law_take .nil (fun _ _ => rfl) (da_cons (de_var 1) (da_cons de_int da_nil))) (da_cons (de_call K (ok__law_pick Z) (takes_of rfl rfl rfl rfl) (hr.mono (by decide)) rfl Z.g__law_pick Z.F__law_pick.kp Z.b__law_pick .nil (fun _ _ => rfl) (da_cons (de_var 1) (da_cons (de_lst (da_cons de_int (da_cons de_int (da_cons de_int (da_cons de_int (da_cons de_int da_nil)))))) da_nil))) da_nil)))))
    (dss_cons (ds_if (dt_cmp (op_eqK K hr) sim_eq (de_call K (ok__law_take Z) (takes_of rfl rfl rfl rfl) (hr.mono (by decide)) rfl Z.g__law_take Z.F__law_take.kp Z.b__law_take .nil (fun _ _ => rfl) (da_cons (de_var 1) (da_cons de_int da_nil))) de_int (nomark _)) (dss_one (ds_set 2 sc_law.nd (de_call K (ok__law_deep_plan Z) (takes_of rfl rfl rfl rfl) (hr.mono (by decide)) rfl Z.g__law_deep_plan Z.F__law_deep_plan.kp Z.b__law_deep_plan .nil (fun _ _ => rfl) (da_cons (de_var 1) (da_cons (de_call K (ok__law_pick Z) (takes_of rfl rfl rfl rfl) (hr.mono (by decide)) rfl Z.g__law_pick Z.F__law_pick.kp Z.b__law_pick .nil (fun _ _ => rfl) (da_cons (de_var 1) (da_cons (de_lst (da_cons de_int (da_cons de_int (da_cons de_int (da_cons (de_call K (ok__law_take Z) (takes_of rfl rfl rfl rfl) (hr.mono (by decide)) rfl Z.g__law_take Z.F__law_take.kp Z.b__law_take .nil (fun _ _ => rfl) (da_cons (de_var 1) (da_cons de_int da_nil))) da_nil))))) da_nil))) da_nil))))) dss_nil)
    (dss_cons (ds_set 3 sc_law.nd (de_tup (da_cons de_str (da_cons (de_call K (ok__law_tag Z) (takes_of rfl rfl rfl rfl) (hr.mono (by decide)) rfl Z.g__law_tag Z.F__law_tag.kp Z.b__law_tag .nil (fun _ _ => rfl) (da_cons (de_var 1) da_nil)) (da_cons (de_tup (da_cons (de_call K (ok__law_take Z) (takes_of rfl rfl rfl rfl) (hr.mono (by decide)) rfl Z.g__law_take Z.F__law_take.kp Z.b__law_take .nil (fun _ _ => rfl) (da_cons (de_var 1) (da_cons de_int da_nil))) da_nil)) (da_cons (de_call K (ok__law_take Z) (takes_of rfl rfl rfl rfl) (hr.mono (by decide)) rfl Z.g__law_take Z.F__law_take.kp Z.b__law_take .nil (fun _ _ => rfl) (da_cons (de_var 1) (da_cons de_int da_nil))) da_nil))))))
    (dss_cons (ds_set 4 sc_law.nd (de_call K (ok__law_strict_plan Z 22) (takes_of rfl rfl rfl rfl) (hr.mono (by decide)) rfl Z.g__law_strict_plan Z.F__law_strict_plan.kp Z.b__law_strict_plan .nil (fun _ _ => rfl) (da_cons (de_var 2) da_nil)))
    (dss_cons (ds_if (dt_w (dw_or (dt_not (dt_val (de_call K (ok__law_plan_reads Z) (takes_of rfl rfl rfl rfl) (hr.mono (by decide)) rfl Z.g__law_plan_reads Z.F__law_plan_reads.kp Z.b__law_plan_reads .nil (fun _ _ => rfl) (da_cons (de_var 2) (da_cons de_bl da_nil))))) (dw_or1 (dt_not (dt_val (de_call K (ok__law_plan_reads Z) (takes_of rfl rfl rfl rfl) (hr.mono (by decide)) rfl Z.g__law_plan_reads Z.F__law_plan_reads.kp Z.b__law_plan_reads .nil (fun _ _ => rfl) (da_cons (de_var 3) (da_cons de_bl da_nil)))))))) (dss_one (ds_ret de_bl)) dss_nil)
    (dss_cons (ds_if (dt_w (dw_or (dt_not (dt_val (de_call K (ok__law_plan_reads Z) (takes_of rfl rfl rfl rfl) (hr.mono (by decide)) rfl Z.g__law_plan_reads Z.F__law_plan_reads.kp Z.b__law_plan_reads .nil (fun _ _ => rfl) (da_cons (de_var 4) (da_cons de_bl da_nil))))) (dw_or1 (dt_not (dt_val (de_call K (ok__law_plan_reads Z) (takes_of rfl rfl rfl rfl) (hr.mono (by decide)) rfl Z.g__law_plan_reads Z.F__law_plan_reads.kp Z.b__law_plan_reads .nil (fun _ _ => rfl) (da_cons (de_var 4) (da_cons de_bl da_nil)))))))) (dss_one (ds_ret de_bl)) dss_nil)
    (dss_cons (ds_set 5 sc_law.nd (de_call K (ok__law_plan_octets Z 22) (takes_of rfl rfl rfl rfl) (hr.mono (by decide)) rfl Z.g__law_plan_octets Z.F__law_plan_octets.kp Z.b__law_plan_octets .nil (fun _ _ => rfl) (da_cons (de_var 2) da_nil)))
    (dss_cons (ds_set 6 sc_law.nd (de_call K (ok__law_plan_octets Z 22) (takes_of rfl rfl rfl rfl) (hr.mono (by decide)) rfl Z.g__law_plan_octets Z.F__law_plan_octets.kp Z.b__law_plan_octets .nil (fun _ _ => rfl) (da_cons (de_var 4) da_nil)))
    (dss_cons (ds_if (dt_w (dw_or (dt_not (dt_val (de_call K (ok__law_ends Z) (takes_of rfl rfl rfl rfl) (hr.mono (by decide)) rfl Z.g__law_ends Z.F__law_ends.kp Z.b__law_ends .nil (fun _ _ => rfl) (da_cons (de_var 1) (da_cons (de_var 5) (da_cons de_bl da_nil)))))) (dw_or1 (dt_not (dt_val (de_call K (ok__law_ends Z) (takes_of rfl rfl rfl rfl) (hr.mono (by decide)) rfl Z.g__law_ends Z.F__law_ends.kp Z.b__law_ends .nil (fun _ _ => rfl) (da_cons (de_var 1) (da_cons (de_var 6) (da_cons de_bl da_nil))))))))) (dss_one (ds_ret de_bl)) dss_nil)
    (dss_cons (ds_set 7 sc_law.nd (de_call K (ok__law_read Z) (takes_of rfl rfl rfl rfl) (hr.mono (by decide)) rfl Z.g__law_read Z.F__law_read.kp Z.b__law_read .nil (fun _ _ => rfl) (da_cons (de_var 5) (da_cons de_bl da_nil))))
    (dss_cons (ds_if (dt_cmp (op_eqK K hr) sim_eq (de_var 5) (de_var 6) (nomark _)) (dss_one (ds_ret (de_call K (ok__law_equal Z 48) (takes_of rfl rfl rfl rfl) (hr.mono (by decide)) rfl Z.g__law_equal Z.F__law_equal.kp Z.b__law_equal .nil (fun _ _ => rfl) (da_cons (de_var 7) (da_cons (de_tup (da_cons de_str (da_cons (de_call K (ok__law_plan_tree Z 22) (takes_of rfl rfl rfl rfl) (hr.mono (by decide)) rfl Z.g__law_plan_tree Z.F__law_plan_tree.kp Z.b__law_plan_tree .nil (fun _ _ => rfl) (da_cons (de_var 2) (da_cons de_int da_nil))) da_nil))) da_nil))))) dss_nil)
    (dss_one (ds_ret (de_and (de_cmp (op_eqK K hr) sim_eq (de_ix K (de_var 7) de_int) de_str (nomark _)) (de_and (de_call K (ok__law_is_integer Z) (takes_of rfl rfl rfl rfl) (hr.mono (by decide)) rfl Z.g__law_is_integer Z.F__law_is_integer.kp Z.b__law_is_integer .nil (fun _ _ => rfl) (da_cons (de_ix K (de_var 7) de_int) da_nil)) (de_and (de_cmp op_lt (sim_I0 fun _ _ _ _ => rfl) de_int (de_ix K (de_var 7) de_int) (nomark _)) (de_and (de_cmp op_lt (sim_I0 fun _ _ _ _ => rfl) (de_ix K (de_var 7) de_int) (de_callB (call_lenK K) sim_len rfl Z.z_len (by decide +kernel) (da_cons (de_var 5) da_nil)) (nomark _)) (de_one (de_ix K (de_var 7) de_int))))))))))))))))))))⟩
end
/-! the head -/
def d__law_mix : He.DefD := ⟨("_law_mix", none), "_law_mix", "_law_mix", defArgs s__law_mix, defBody s__law_mix, defScope s__law_mix, [], []⟩
def d__law_store : He.DefD := ⟨("_law_store", none), "_law_store", "_law_store", defArgs s__law_store, defBody s__law_store, defScope s__law_store, [], []⟩
def d__law_take : He.DefD := ⟨("_law_take", none), "_law_take", "_law_take", defArgs s__law_take, defBody s__law_take, defScope s__law_take, [], []⟩
def d__law_pick : He.DefD := ⟨("_law_pick", none), "_law_pick", "_law_pick", defArgs s__law_pick, defBody s__law_pick, defScope s__law_pick, [], []⟩
def d__law_equal : He.DefD := ⟨("_law_equal", none), "_law_equal", "_law_equal", defArgs s__law_equal, defBody s__law_equal, defScope s__law_equal, [], []⟩
def d__law_is_integer : He.DefD := ⟨("_law_is_integer", none), "_law_is_integer", "_law_is_integer", defArgs s__law_is_integer, defBody s__law_is_integer, defScope s__law_is_integer, [], []⟩
def d__law_tag : He.DefD := ⟨("_law_tag", none), "_law_tag", "_law_tag", defArgs s__law_tag, defBody s__law_tag, defScope s__law_tag, [], []⟩
def d__law_octet : He.DefD := ⟨("_law_octet", none), "_law_octet", "_law_octet", defArgs s__law_octet, defBody s__law_octet, defScope s__law_octet, [], []⟩
def d__law_plan : He.DefD := ⟨("_law_plan", none), "_law_plan", "_law_plan", defArgs s__law_plan, defBody s__law_plan, defScope s__law_plan, [], []⟩
def d__law_deep_plan : He.DefD := ⟨("_law_deep_plan", none), "_law_deep_plan", "_law_deep_plan", defArgs s__law_deep_plan, defBody s__law_deep_plan, defScope s__law_deep_plan, [], []⟩
def d__law_strict_plan : He.DefD := ⟨("_law_strict_plan", none), "_law_strict_plan", "_law_strict_plan", defArgs s__law_strict_plan, defBody s__law_strict_plan, defScope s__law_strict_plan, [], []⟩
def d__law_length_row : He.DefD := ⟨("_law_length_row", none), "_law_length_row", "_law_length_row", defArgs s__law_length_row, defBody s__law_length_row, defScope s__law_length_row, [], []⟩
def d__law_chain : He.DefD := ⟨("_law_chain", none), "_law_chain", "_law_chain", defArgs s__law_chain, defBody s__law_chain, defScope s__law_chain, [], []⟩
def d__law_identifier : He.DefD := ⟨("_law_identifier", none), "_law_identifier", "_law_identifier", defArgs s__law_identifier, defBody s__law_identifier, defScope s__law_identifier, [], []⟩
def d__law_plan_octets : He.DefD := ⟨("_law_plan_octets", none), "_law_plan_octets", "_law_plan_octets", defArgs s__law_plan_octets, defBody s__law_plan_octets, defScope s__law_plan_octets, [], []⟩
def d__law_plan_tree : He.DefD := ⟨("_law_plan_tree", none), "_law_plan_tree", "_law_plan_tree", defArgs s__law_plan_tree, defBody s__law_plan_tree, defScope s__law_plan_tree, [], []⟩
def d_ItemReader___init__ : He.DefD := ⟨("ItemReader", some "__init__"), "__init__", "ItemReader.__init__", defArgs s_ItemReader___init__, defBody s_ItemReader___init__, defScope s_ItemReader___init__, [], [("strict", .bl false)]⟩
def d_ItemReader_raise_spoilt : He.DefD := ⟨("ItemReader", some "raise_spoilt"), "raise_spoilt", "ItemReader.raise_spoilt", defArgs s_ItemReader_raise_spoilt, defBody s_ItemReader_raise_spoilt, defScope s_ItemReader_raise_spoilt, [], []⟩
def d_ItemReader_room_left : He.DefD := ⟨("ItemReader", some "room_left"), "room_left", "ItemReader.room_left", defArgs s_ItemReader_room_left, defBody s_ItemReader_room_left, defScope s_ItemReader_room_left, [], []⟩
def d_ItemReader_allows_begin : He.DefD := ⟨("ItemReader", some "allows_begin"), "allows_begin", "ItemReader.allows_begin", defArgs s_ItemReader_allows_begin, defBody s_ItemReader_allows_begin, defScope s_ItemReader_allows_begin, [], []⟩
def d_ItemReader_allows_chain : He.DefD := ⟨("ItemReader", some "allows_chain"), "allows_chain", "ItemReader.allows_chain", defArgs s_ItemReader_allows_chain, defBody s_ItemReader_allows_chain, defScope s_ItemReader_allows_chain, [], []⟩
def d_fills : He.DefD := ⟨("fills", none), "fills", "fills", defArgs s_fills, defBody s_fills, defScope s_fills, [], []⟩
def d_length_fills : He.DefD := ⟨("length_fills", none), "length_fills", "length_fills", defArgs s_length_fills, defBody s_length_fills, defScope s_length_fills, [], []⟩
def d_ItemReader_allows_length : He.DefD := ⟨("ItemReader", some "allows_length"), "allows_length", "ItemReader.allows_length", defArgs s_ItemReader_allows_length, defBody s_ItemReader_allows_length, defScope s_ItemReader_allows_length, [], []⟩
def d_bad_length_digit : He.DefD := ⟨("bad_length_digit", none), "bad_length_digit", "bad_length_digit", defArgs s_bad_length_digit, defBody s_bad_length_digit, defScope s_bad_length_digit, [], []⟩
def d_ItemReader_allows_digit : He.DefD := ⟨("ItemReader", some "allows_digit"), "allows_digit", "ItemReader.allows_digit", defArgs s_ItemReader_allows_digit, defBody s_ItemReader_allows_digit, defScope s_ItemReader_allows_digit, [], []⟩
def d_ItemReader_allows_octet : He.DefD := ⟨("ItemReader", some "allows_octet"), "allows_octet", "ItemReader.allows_octet", defArgs s_ItemReader_allows_octet, defBody s_ItemReader_allows_octet, defScope s_ItemReader_allows_octet, [], []⟩
def d_ItemReader_is_too_deep : He.DefD := ⟨("ItemReader", some "is_too_deep"), "is_too_deep", "ItemReader.is_too_deep", defArgs s_ItemReader_is_too_deep, defBody s_ItemReader_is_too_deep, defScope s_ItemReader_is_too_deep, [], []⟩
def d_octet_at : He.DefD := ⟨("octet_at", none), "octet_at", "octet_at", defArgs s_octet_at, defBody s_octet_at, defScope s_octet_at, [], []⟩
def d_read_identifier : He.DefD := ⟨("read_identifier", none), "read_identifier", "read_identifier", defArgs s_read_identifier, defBody s_read_identifier, defScope s_read_identifier, [.int (0)], []⟩
def d_ItemReader_end_identifier : He.DefD := ⟨("ItemReader", some "end_identifier"), "end_identifier", "ItemReader.end_identifier", defArgs s_ItemReader_end_identifier, defBody s_ItemReader_end_identifier, defScope s_ItemReader_end_identifier, [], []⟩
def d_ItemReader_close_item : He.DefD := ⟨("ItemReader", some "close_item"), "close_item", "ItemReader.close_item", defArgs s_ItemReader_close_item, defBody s_ItemReader_close_item, defScope s_ItemReader_close_item, [], []⟩
def d_ItemReader_put_item : He.DefD := ⟨("ItemReader", some "put_item"), "put_item", "ItemReader.put_item", defArgs s_ItemReader_put_item, defBody s_ItemReader_put_item, defScope s_ItemReader_put_item, [], []⟩
def d_ItemReader_accept_begin : He.DefD := ⟨("ItemReader", some "accept_begin"), "accept_begin", "ItemReader.accept_begin", defArgs s_ItemReader_accept_begin, defBody s_ItemReader_accept_begin, defScope s_ItemReader_accept_begin, [], []⟩
def d_OpenItem___init__ : He.DefD := ⟨("OpenItem", some "__init__"), "__init__", "OpenItem.__init__", defArgs s_OpenItem___init__, defBody s_OpenItem___init__, defScope s_OpenItem___init__, [], []⟩
def d_ItemReader_end_plain : He.DefD := ⟨("ItemReader", some "end_plain"), "end_plain", "ItemReader.end_plain", defArgs s_ItemReader_end_plain, defBody s_ItemReader_end_plain, defScope s_ItemReader_end_plain, [], []⟩
def d_ItemReader_begin_contents : He.DefD := ⟨("ItemReader", some "begin_contents"), "begin_contents", "ItemReader.begin_contents", defArgs s_ItemReader_begin_contents, defBody s_ItemReader_begin_contents, defScope s_ItemReader_begin_contents, [], []⟩
def d_ItemReader_accept_length : He.DefD := ⟨("ItemReader", some "accept_length"), "accept_length", "ItemReader.accept_length", defArgs s_ItemReader_accept_length, defBody s_ItemReader_accept_length, defScope s_ItemReader_accept_length, [], []⟩
def d_ItemReader_accept_octet : He.DefD := ⟨("ItemReader", some "accept_octet"), "accept_octet", "ItemReader.accept_octet", defArgs s_ItemReader_accept_octet, defBody s_ItemReader_accept_octet, defScope s_ItemReader_accept_octet, [], []⟩
def d_ItemReader_push : He.DefD := ⟨("ItemReader", some "push"), "push", "ItemReader.push", defArgs s_ItemReader_push, defBody s_ItemReader_push, defScope s_ItemReader_push, [], []⟩
def d_ItemReader_finish : He.DefD := ⟨("ItemReader", some "finish"), "finish", "ItemReader.finish", defArgs s_ItemReader_finish, defBody s_ItemReader_finish, defScope s_ItemReader_finish, [], []⟩
def d_read_item : He.DefD := ⟨("read_item", none), "read_item", "read_item", defArgs s_read_item, defBody s_read_item, defScope s_read_item, [], [("strict", .bl false)]⟩
def d__law_read : He.DefD := ⟨("_law_read", none), "_law_read", "_law_read", defArgs s__law_read, defBody s__law_read, defScope s__law_read, [], []⟩
def d__law_plan_reads : He.DefD := ⟨("_law_plan_reads", none), "_law_plan_reads", "_law_plan_reads", defArgs s__law_plan_reads, defBody s__law_plan_reads, defScope s__law_plan_reads, [], []⟩
def d__law_ends : He.DefD := ⟨("_law_ends", none), "_law_ends", "_law_ends", defArgs s__law_ends, defBody s__law_ends, defScope s__law_ends, [], []⟩
def d_law : He.DefD := ⟨("law", none), "law", "law", defArgs s_law, defBody s_law, defScope s_law, [], []⟩
def fn : List He.DefD := [d__law_mix, d__law_store, d__law_take, d__law_pick, d__law_equal, d__law_is_integer, d__law_tag, d__law_octet, d__law_plan, d__law_deep_plan, d__law_strict_plan, d__law_length_row, d__law_chain, d__law_identifier, d__law_plan_octets, d__law_plan_tree, d_ItemReader___init__, d_ItemReader_raise_spoilt, d_ItemReader_room_left, d_ItemReader_allows_begin, d_ItemReader_allows_chain, d_fills, d_length_fills, d_ItemReader_allows_length, d_bad_length_digit, d_ItemReader_allows_digit, d_ItemReader_allows_octet, d_ItemReader_is_too_deep, d_octet_at, d_read_identifier, d_ItemReader_end_identifier, d_ItemReader_close_item, d_ItemReader_put_item, d_ItemReader_accept_begin, d_OpenItem___init__, d_ItemReader_end_plain, d_ItemReader_begin_contents, d_ItemReader_accept_length, d_ItemReader_accept_octet, d_ItemReader_push, d_ItemReader_finish, d_read_item, d__law_read, d__law_plan_reads, d__law_ends, d_law]
theorem scx_Refused : XcSc P (defArgs (inClass (top 3) 0)) (defScope (inClass (top 3) 0)) := ⟨rfl, rfl, rfl, by decide +kernel, by decide +kernel, rfl, rfl, rfl, rfl, ⟨_, rfl, rfl⟩, by decide +kernel⟩
theorem scx_Ended : XcSc P (defArgs (inClass (top 4) 0)) (defScope (inClass (top 4) 0)) := ⟨rfl, rfl, rfl, by decide +kernel, by decide +kernel, rfl, rfl, rfl, rfl, ⟨_, rfl, rfl⟩, by decide +kernel⟩
theorem scx_Deep : XcSc P (defArgs (inClass (top 5) 0)) (defScope (inClass (top 5) 0)) := ⟨rfl, rfl, rfl, by decide +kernel, by decide +kernel, rfl, rfl, rfl, rfl, ⟨_, rfl, rfl⟩, by decide +kernel⟩
def fa : List He.Fa := [.glo "_law_mix", .glo "_law_store", .glo "_law_take", .glo "_law_pick", .glo "_law_equal", .glo "_law_is_integer", .glo "_law_tag", .glo "_law_octet", .glo "_law_plan", .glo "_law_deep_plan", .glo "_law_strict_plan", .glo "_law_length_row", .glo "_law_chain", .glo "_law_identifier", .glo "_law_plan_octets", .glo "_law_plan_tree", .meth "ItemReader" "raise_spoilt", .meth "ItemReader" "room_left", .meth "ItemReader" "allows_begin", .meth "ItemReader" "allows_chain", .glo "fills", .glo "length_fills", .meth "ItemReader" "allows_length", .glo "bad_length_digit", .meth "ItemReader" "allows_digit", .meth "ItemReader" "allows_octet", .meth "ItemReader" "is_too_deep", .glo "octet_at", .glo "read_identifier", .meth "ItemReader" "end_identifier", .meth "ItemReader" "close_item", .meth "ItemReader" "put_item", .meth "ItemReader" "accept_begin", .meth "ItemReader" "end_plain", .meth "ItemReader" "begin_contents", .meth "ItemReader" "accept_length", .meth "ItemReader" "accept_octet", .meth "ItemReader" "push", .meth "ItemReader" "finish", .glo "read_item", .glo "_law_read", .glo "_law_plan_reads", .glo "_law_ends", .glo "law", .glo "ItemReader", .mkr "ItemReader", .glo "OpenItem", .mkr "OpenItem", .cls "ItemReader", .cls "OpenItem", .noat "OpenItem" "tag_pair", .noat "OpenItem" "first_place", .noat "OpenItem" "end_place", .noat "OpenItem" "room_end", .noat "OpenItem" "inner_items", .noat "ItemReader" "only_strict", .noat "ItemReader" "place", .noat "ItemReader" "spoilt_by", .noat "ItemReader" "stage", .noat "ItemReader" "open_items", .noat "ItemReader" "head_octets", .noat "ItemReader" "head_place", .noat "ItemReader" "head_tag", .noat "ItemReader" "head_built", .noat "ItemReader" "length_so_far", .noat "ItemReader" "digits_all", .noat "ItemReader" "digits_read", .noat "ItemReader" "content_so_far", .noat "ItemReader" "content_due", .noat "ItemReader" "whole_item", .free "len", .free "min", .free "int", .free "list", .free "abs", .free "range", .free "isinstance", .free "tuple", .free "bool", .free "str", .free "max", .free "ValueError", .int "LENGTH_MOST" (65535), .str "AT_ITEM" "item", .str "AT_END" "end", .str "AT_CHAIN" "chain", .str "AT_LENGTH" "length", .str "AT_DIGIT" "digit", .str "AT_CONTENT" "content", .int "DEPTH" (20), .glo "Deep", .glo "TagoctetsError", .glo "Refused", .glo "Ended", .free "super"]
theorem zs {K : PySem.W.Frag} {h : Heap} {mg : Str → Option Value} (X : K.In h) (G : h.Ns mainGlobals mg) (c : SaysX P fa fn xs bs K) : ∃ Z : Zs K mg, True := by
  obtain ⟨fd__law_mix, F__law_mix⟩ := c.def_ 0 (d := d__law_mix) rfl
  have b__law_mix : Binds K fd__law_mix ["_law_first", "_law_second"] [] := FunD.bindsN F__law_mix fun _ _ _ _ _ _ us hl => match us, hl with | [_, _], _ => rfl
  obtain ⟨fd__law_store, F__law_store⟩ := c.def_ 1 (d := d__law_store) rfl
  have b__law_store : Binds K fd__law_store ["_law_script"] [] := FunD.bindsN F__law_store fun _ _ _ _ _ _ us hl => match us, hl with | [_], _ => rfl
  obtain ⟨fd__law_take, F__law_take⟩ := c.def_ 2 (d := d__law_take) rfl
  have b__law_take : Binds K fd__law_take ["_law_store_here", "_law_many"] [] := FunD.bindsN F__law_take fun _ _ _ _ _ _ us hl => match us, hl with | [_, _], _ => rfl
  obtain ⟨fd__law_pick, F__law_pick⟩ := c.def_ 3 (d := d__law_pick) rfl
  have b__law_pick : Binds K fd__law_pick ["_law_store_here", "_law_row"] [] := FunD.bindsN F__law_pick fun _ _ _ _ _ _ us hl => match us, hl with | [_, _], _ => rfl
  obtain ⟨fd__law_equal, F__law_equal⟩ := c.def_ 4 (d := d__law_equal) rfl
  have b__law_equal : Binds K fd__law_equal ["_law_first", "_law_second"] [] := FunD.bindsN F__law_equal fun _ _ _ _ _ _ us hl => match us, hl with | [_, _], _ => rfl
  obtain ⟨fd__law_is_integer, F__law_is_integer⟩ := c.def_ 5 (d := d__law_is_integer) rfl
  have b__law_is_integer : Binds K fd__law_is_integer ["_law_thing"] [] := FunD.bindsN F__law_is_integer fun _ _ _ _ _ _ us hl => match us, hl with | [_], _ => rfl
  obtain ⟨fd__law_tag, F__law_tag⟩ := c.def_ 6 (d := d__law_tag) rfl
  have b__law_tag : Binds K fd__law_tag ["_law_store_here"] [] := FunD.bindsN F__law_tag fun _ _ _ _ _ _ us hl => match us, hl with | [_], _ => rfl
  obtain ⟨fd__law_octet, F__law_octet⟩ := c.def_ 7 (d := d__law_octet) rfl
  have b__law_octet : Binds K fd__law_octet ["_law_store_here"] [] := FunD.bindsN F__law_octet fun _ _ _ _ _ _ us hl => match us, hl with | [_], _ => rfl
  obtain ⟨fd__law_plan, F__law_plan⟩ := c.def_ 8 (d := d__law_plan) rfl
  have b__law_plan : Binds K fd__law_plan ["_law_store_here", "_law_depth", "_law_long"] [] := FunD.bindsN F__law_plan fun _ _ _ _ _ _ us hl => match us, hl with | [_, _, _], _ => rfl
  obtain ⟨fd__law_deep_plan, F__law_deep_plan⟩ := c.def_ 9 (d := d__law_deep_plan) rfl
  have b__law_deep_plan : Binds K fd__law_deep_plan ["_law_store_here", "_law_many"] [] := FunD.bindsN F__law_deep_plan fun _ _ _ _ _ _ us hl => match us, hl with | [_, _], _ => rfl
  obtain ⟨fd__law_strict_plan, F__law_strict_plan⟩ := c.def_ 10 (d := d__law_strict_plan) rfl
  have b__law_strict_plan : Binds K fd__law_strict_plan ["_law_plan_here"] [] := FunD.bindsN F__law_strict_plan fun _ _ _ _ _ _ us hl => match us, hl with | [_], _ => rfl
  obtain ⟨fd__law_length_row, F__law_length_row⟩ := c.def_ 11 (d := d__law_length_row) rfl
  have b__law_length_row : Binds K fd__law_length_row ["_law_length", "_law_form"] [] := FunD.bindsN F__law_length_row fun _ _ _ _ _ _ us hl => match us, hl with | [_, _], _ => rfl
  obtain ⟨fd__law_chain, F__law_chain⟩ := c.def_ 12 (d := d__law_chain) rfl
  have b__law_chain : Binds K fd__law_chain ["_law_number"] [] := FunD.bindsN F__law_chain fun _ _ _ _ _ _ us hl => match us, hl with | [_], _ => rfl
  obtain ⟨fd__law_identifier, F__law_identifier⟩ := c.def_ 13 (d := d__law_identifier) rfl
  have b__law_identifier : Binds K fd__law_identifier ["_law_tag_here", "_law_built"] [] := FunD.bindsN F__law_identifier fun _ _ _ _ _ _ us hl => match us, hl with | [_, _], _ => rfl
  obtain ⟨fd__law_plan_octets, F__law_plan_octets⟩ := c.def_ 14 (d := d__law_plan_octets) rfl
  have b__law_plan_octets : Binds K fd__law_plan_octets ["_law_plan_here"] [] := FunD.bindsN F__law_plan_octets fun _ _ _ _ _ _ us hl => match us, hl with | [_], _ => rfl
  obtain ⟨fd__law_plan_tree, F__law_plan_tree⟩ := c.def_ 15 (d := d__law_plan_tree) rfl
  have b__law_plan_tree : Binds K fd__law_plan_tree ["_law_plan_here", "_law_begin"] [] := FunD.bindsN F__law_plan_tree fun _ _ _ _ _ _ us hl => match us, hl with | [_, _], _ => rfl
  obtain ⟨fd_ItemReader___init__, F_ItemReader___init__⟩ := c.def_ 16 (d := d_ItemReader___init__) rfl
  have kb_ItemReader___init___1_1 := kb_all (ps := ["self", "strict"]) F_ItemReader___init__ 1 ["strict"] fun kV doc pm an cdv ct us ws h1 h2 => match us, ws, h1, h2 with | [_], [_], _, _ => rfl
  obtain ⟨fd_ItemReader_raise_spoilt, F_ItemReader_raise_spoilt⟩ := c.def_ 17 (d := d_ItemReader_raise_spoilt) rfl
  have b_ItemReader_raise_spoilt : Binds K fd_ItemReader_raise_spoilt ["self"] [] := FunD.bindsN F_ItemReader_raise_spoilt fun _ _ _ _ _ _ us hl => match us, hl with | [_], _ => rfl
  obtain ⟨fd_ItemReader_room_left, F_ItemReader_room_left⟩ := c.def_ 18 (d := d_ItemReader_room_left) rfl
  have b_ItemReader_room_left : Binds K fd_ItemReader_room_left ["self"] [] := FunD.bindsN F_ItemReader_room_left fun _ _ _ _ _ _ us hl => match us, hl with | [_], _ => rfl
  obtain ⟨fd_ItemReader_allows_begin, F_ItemReader_allows_begin⟩ := c.def_ 19 (d := d_ItemReader_allows_begin) rfl
  have b_ItemReader_allows_begin : Binds K fd_ItemReader_allows_begin ["self", "octet"] [] := FunD.bindsN F_ItemReader_allows_begin fun _ _ _ _ _ _ us hl => match us, hl with | [_, _], _ => rfl
  obtain ⟨fd_ItemReader_allows_chain, F_ItemReader_allows_chain⟩ := c.def_ 20 (d := d_ItemReader_allows_chain) rfl
  have b_ItemReader_allows_chain : Binds K fd_ItemReader_allows_chain ["self", "octet"] [] := FunD.bindsN F_ItemReader_allows_chain fun _ _ _ _ _ _ us hl => match us, hl with | [_, _], _ => rfl
  obtain ⟨fd_fills, F_fills⟩ := c.def_ 21 (d := d_fills) rfl
  have b_fills : Binds K fd_fills ["room", "low", "high", "built"] [] := FunD.bindsN F_fills fun _ _ _ _ _ _ us hl => match us, hl with | [_, _, _, _], _ => rfl
  obtain ⟨fd_length_fills, F_length_fills⟩ := c.def_ 22 (d := d_length_fills) rfl
  have b_length_fills : Binds K fd_length_fills ["room", "number", "rest", "built"] [] := FunD.bindsN F_length_fills fun _ _ _ _ _ _ us hl => match us, hl with | [_, _, _, _], _ => rfl
  obtain ⟨fd_ItemReader_allows_length, F_ItemReader_allows_length⟩ := c.def_ 23 (d := d_ItemReader_allows_length) rfl
  have b_ItemReader_allows_length : Binds K fd_ItemReader_allows_length ["self", "octet"] [] := FunD.bindsN F_ItemReader_allows_length fun _ _ _ _ _ _ us hl => match us, hl with | [_, _], _ => rfl
  obtain ⟨fd_bad_length_digit, F_bad_length_digit⟩ := c.def_ 24 (d := d_bad_length_digit) rfl
  have b_bad_length_digit : Binds K fd_bad_length_digit ["width", "index", "octet", "least"] [] := FunD.bindsN F_bad_length_digit fun _ _ _ _ _ _ us hl => match us, hl with | [_, _, _, _], _ => rfl
  obtain ⟨fd_ItemReader_allows_digit, F_ItemReader_allows_digit⟩ := c.def_ 25 (d := d_ItemReader_allows_digit) rfl
  have b_ItemReader_allows_digit : Binds K fd_ItemReader_allows_digit ["self", "octet"] [] := FunD.bindsN F_ItemReader_allows_digit fun _ _ _ _ _ _ us hl => match us, hl with | [_, _], _ => rfl
  obtain ⟨fd_ItemReader_allows_octet, F_ItemReader_allows_octet⟩ := c.def_ 26 (d := d_ItemReader_allows_octet) rfl
  have b_ItemReader_allows_octet : Binds K fd_ItemReader_allows_octet ["self", "octet"] [] := FunD.bindsN F_ItemReader_allows_octet fun _ _ _ _ _ _ us hl => match us, hl with | [_, _], _ => rfl
  obtain ⟨fd_ItemReader_is_too_deep, F_ItemReader_is_too_deep⟩ := c.def_ 27 (d := d_ItemReader_is_too_deep) rfl
  have b_ItemReader_is_too_deep : Binds K fd_ItemReader_is_too_deep ["self", "octet"] [] := FunD.bindsN F_ItemReader_is_too_deep fun _ _ _ _ _ _ us hl => match us, hl with | [_, _], _ => rfl
  obtain ⟨fd_octet_at, F_octet_at⟩ := c.def_ 28 (d := d_octet_at) rfl
  have b_octet_at : Binds K fd_octet_at ["octets", "place"] [] := FunD.bindsN F_octet_at fun _ _ _ _ _ _ us hl => match us, hl with | [_, _], _ => rfl
  obtain ⟨fd_read_identifier, F_read_identifier⟩ := c.def_ 29 (d := d_read_identifier) rfl
  have b_read_identifier_1 := FunD.binds1 (ps := ["octets", "at"]) F_read_identifier 1 0 (by intro z; have z1 : (_ :: _ : List V) = [] := z; cases z1) (by rfl) fun T kV doc pm an cdv ct us its h1 h2 => match us, its, h1, h2 with | [_], [_], _, _ => ⟨_, rfl, rfl⟩
  obtain ⟨fd_ItemReader_end_identifier, F_ItemReader_end_identifier⟩ := c.def_ 30 (d := d_ItemReader_end_identifier) rfl
  have b_ItemReader_end_identifier : Binds K fd_ItemReader_end_identifier ["self"] [] := FunD.bindsN F_ItemReader_end_identifier fun _ _ _ _ _ _ us hl => match us, hl with | [_], _ => rfl
  obtain ⟨fd_ItemReader_close_item, F_ItemReader_close_item⟩ := c.def_ 31 (d := d_ItemReader_close_item) rfl
  have b_ItemReader_close_item : Binds K fd_ItemReader_close_item ["self"] [] := FunD.bindsN F_ItemReader_close_item fun _ _ _ _ _ _ us hl => match us, hl with | [_], _ => rfl
  obtain ⟨fd_ItemReader_put_item, F_ItemReader_put_item⟩ := c.def_ 32 (d := d_ItemReader_put_item) rfl
  have b_ItemReader_put_item : Binds K fd_ItemReader_put_item ["self", "tree"] [] := FunD.bindsN F_ItemReader_put_item fun _ _ _ _ _ _ us hl => match us, hl with | [_, _], _ => rfl
  obtain ⟨fd_ItemReader_accept_begin, F_ItemReader_accept_begin⟩ := c.def_ 33 (d := d_ItemReader_accept_begin) rfl
  have b_ItemReader_accept_begin : Binds K fd_ItemReader_accept_begin ["self", "octet"] [] := FunD.bindsN F_ItemReader_accept_begin fun _ _ _ _ _ _ us hl => match us, hl with | [_, _], _ => rfl
  obtain ⟨fd_OpenItem___init__, F_OpenItem___init__⟩ := c.def_ 34 (d := d_OpenItem___init__) rfl
  have b_OpenItem___init__ : Binds K fd_OpenItem___init__ ["self", "tag_pair", "first_place", "end_place", "room_end"] [] := FunD.bindsN F_OpenItem___init__ fun _ _ _ _ _ _ us hl => match us, hl with | [_, _, _, _, _], _ => rfl
  obtain ⟨fd_ItemReader_end_plain, F_ItemReader_end_plain⟩ := c.def_ 35 (d := d_ItemReader_end_plain) rfl
  have b_ItemReader_end_plain : Binds K fd_ItemReader_end_plain ["self"] [] := FunD.bindsN F_ItemReader_end_plain fun _ _ _ _ _ _ us hl => match us, hl with | [_], _ => rfl
  obtain ⟨fd_ItemReader_begin_contents, F_ItemReader_begin_contents⟩ := c.def_ 36 (d := d_ItemReader_begin_contents) rfl
  have b_ItemReader_begin_contents : Binds K fd_ItemReader_begin_contents ["self", "length"] [] := FunD.bindsN F_ItemReader_begin_contents fun _ _ _ _ _ _ us hl => match us, hl with | [_, _], _ => rfl
  obtain ⟨fd_ItemReader_accept_length, F_ItemReader_accept_length⟩ := c.def_ 37 (d := d_ItemReader_accept_length) rfl
  have b_ItemReader_accept_length : Binds K fd_ItemReader_accept_length ["self", "octet"] [] := FunD.bindsN F_ItemReader_accept_length fun _ _ _ _ _ _ us hl => match us, hl with | [_, _], _ => rfl
  obtain ⟨fd_ItemReader_accept_octet, F_ItemReader_accept_octet⟩ := c.def_ 38 (d := d_ItemReader_accept_octet) rfl
  have b_ItemReader_accept_octet : Binds K fd_ItemReader_accept_octet ["self", "octet"] [] := FunD.bindsN F_ItemReader_accept_octet fun _ _ _ _ _ _ us hl => match us, hl with | [_, _], _ => rfl
  obtain ⟨fd_ItemReader_push, F_ItemReader_push⟩ := c.def_ 39 (d := d_ItemReader_push) rfl
  have b_ItemReader_push : Binds K fd_ItemReader_push ["self", "octets"] [] := FunD.bindsN F_ItemReader_push fun _ _ _ _ _ _ us hl => match us, hl with | [_, _], _ => rfl
  obtain ⟨fd_ItemReader_finish, F_ItemReader_finish⟩ := c.def_ 40 (d := d_ItemReader_finish) rfl
  have b_ItemReader_finish : Binds K fd_ItemReader_finish ["self"] [] := FunD.bindsN F_ItemReader_finish fun _ _ _ _ _ _ us hl => match us, hl with | [_], _ => rfl
  obtain ⟨fd_read_item, F_read_item⟩ := c.def_ 41 (d := d_read_item) rfl
  have b_read_item_1 := FunD.binds0 (ps := ["octets", "strict"]) F_read_item 1 (by intro z; have z1 : (_ :: _ : List (Str × V)) = [] := z; cases z1) (by rfl) fun D doc pm an cdv ct us ks h1 h2 => match us, ks, h1, h2 with | [_], [_], _, _ => ⟨_, _, _, _, _, _, rfl, rfl, rfl⟩
  have kb_read_item_1_1 := kb_all (ps := ["octets", "strict"]) F_read_item 1 ["strict"] fun kV doc pm an cdv ct us ws h1 h2 => match us, ws, h1, h2 with | [_], [_], _, _ => rfl
  obtain ⟨fd__law_read, F__law_read⟩ := c.def_ 42 (d := d__law_read) rfl
  have b__law_read : Binds K fd__law_read ["_law_row", "_law_flag"] [] := FunD.bindsN F__law_read fun _ _ _ _ _ _ us hl => match us, hl with | [_, _], _ => rfl
  obtain ⟨fd__law_plan_reads, F__law_plan_reads⟩ := c.def_ 43 (d := d__law_plan_reads) rfl
  have b__law_plan_reads : Binds K fd__law_plan_reads ["_law_plan_here", "_law_flag"] [] := FunD.bindsN F__law_plan_reads fun _ _ _ _ _ _ us hl => match us, hl with | [_, _], _ => rfl
  obtain ⟨fd__law_ends, F__law_ends⟩ := c.def_ 44 (d := d__law_ends) rfl
  have b__law_ends : Binds K fd__law_ends ["_law_store_here", "_law_row", "_law_flag"] [] := FunD.bindsN F__law_ends fun _ _ _ _ _ _ us hl => match us, hl with | [_, _, _], _ => rfl
  obtain ⟨fd_law, F_law⟩ := c.def_ 45 (d := d_law) rfl
  have b_law : Binds K fd_law ["_law_script"] [] := FunD.bindsN F_law fun _ _ _ _ _ _ us hl => match us, hl with | [_], _ => rfl
  have hsup : mg "super" = none := He.free_ok X G (c.fact 94 (f := .free "super") rfl)
  have q_Refused := fun (w : World) (base : Heap) => xc_f (P := P) (w := w) (base := base) (d := dx_Refused) X G (c.xc 0 (d := dx_Refused) rfl).1 (c.xc 0 (d := dx_Refused) rfl).2 scx_Refused rfl (by decide +kernel) hsup (fun _ => rfl) (fun _ => rfl) (fun _ => rfl) (fun _ _ _ _ _ _ _ us hl => match us, hl with | [_, _], _ => rfl)
  have q_Ended := fun (w : World) (base : Heap) => xc_f (P := P) (w := w) (base := base) (d := dx_Ended) X G (c.xc 1 (d := dx_Ended) rfl).1 (c.xc 1 (d := dx_Ended) rfl).2 scx_Ended rfl (by decide +kernel) hsup (fun _ => rfl) (fun _ => rfl) (fun _ => rfl) (fun _ _ _ _ _ _ _ us hl => match us, hl with | [_, _], _ => rfl)
  have q_Deep := fun (w : World) (base : Heap) => xc_f (P := P) (w := w) (base := base) (d := dx_Deep) X G (c.xc 2 (d := dx_Deep) rfl).1 (c.xc 2 (d := dx_Deep) rfl).2 scx_Deep rfl (by decide +kernel) hsup (fun _ => rfl) (fun _ => rfl) (fun _ => rfl) (fun _ _ _ _ _ _ _ us hl => match us, hl with | [_, _], _ => rfl)
  have p_Refused := xc_p (d := dx_Refused) (c.xc 0 (d := dx_Refused) rfl).1 (c.xc 0 (d := dx_Refused) rfl).2
  have p_Ended := xc_p (d := dx_Ended) (c.xc 1 (d := dx_Ended) rfl).1 (c.xc 1 (d := dx_Ended) rfl).2
  have p_Deep := xc_p (d := dx_Deep) (c.xc 2 (d := dx_Deep) rfl).1 (c.xc 2 (d := dx_Deep) rfl).2
  have hxf : ∀ z ∈ (["Refused", "Ended", "Deep"] : List Str), XfC K (He.ga K z) ∧ PySem.W.findIn K (.ref (He.ga K z)) "place" = some none := fun z hz => by
    simp only [List.mem_cons, List.not_mem_nil, or_false] at hz
    rcases hz with rfl | rfl | rfl
    · exact p_Refused.1
    · exact p_Ended.1
    · exact p_Deep.1
  have hx_2 : ∀ z b, t_2.lookup z = some b → L2.ExcC K (He.ga K z) := fun z b e => by
    have m := mem_look e
    simp only [t_2, List.mem_cons, Prod.mk.injEq, List.not_mem_nil, or_false] at m
    rcases m with ⟨rfl, _⟩ | ⟨rfl, _⟩ | ⟨rfl, _⟩
    · exact p_Refused.2
    · exact p_Ended.2
    · exact p_Deep.2
  have hx_3 : ∀ z b, t_3.lookup z = some b → L2.ExcC K (He.ga K z) := fun z b e => by
    have m := mem_look e
    simp only [t_3, List.mem_cons, Prod.mk.injEq, List.not_mem_nil, or_false] at m
    rcases m with ⟨rfl, _⟩ | ⟨rfl, _⟩ | ⟨rfl, _⟩
    · exact p_Refused.2
    · exact p_Ended.2
    · exact p_Deep.2
  have hx_4 : ∀ z b, t_4.lookup z = some b → L2.ExcC K (He.ga K z) := fun z b e => by
    have m := mem_look e
    simp only [t_4, List.mem_cons, Prod.mk.injEq, List.not_mem_nil, or_false] at m
    rcases m with ⟨rfl, _⟩ | ⟨rfl, _⟩ | ⟨rfl, _⟩
    · exact p_Refused.2
    · exact p_Ended.2
    · exact p_Deep.2
  have hx_6 : ∀ z b, t_6.lookup z = some b → L2.ExcC K (He.ga K z) := fun z b e => by
    have m := mem_look e
    simp only [t_6, List.mem_cons, Prod.mk.injEq, List.not_mem_nil, or_false] at m
    rcases m with ⟨rfl, _⟩ | ⟨rfl, _⟩ | ⟨rfl, _⟩
    · exact p_Refused.2
    · exact p_Ended.2
    · exact p_Deep.2
  exact ⟨⟨_, fd__law_mix, F__law_mix, He.glo_ok X G (c.fact 0 (f := .glo "_law_mix") rfl), b__law_mix, _, fd__law_store, F__law_store, He.glo_ok X G (c.fact 1 (f := .glo "_law_store") rfl), b__law_store, _, fd__law_take, F__law_take, He.glo_ok X G (c.fact 2 (f := .glo "_law_take") rfl), b__law_take, _, fd__law_pick, F__law_pick, He.glo_ok X G (c.fact 3 (f := .glo "_law_pick") rfl), b__law_pick, _, fd__law_equal, F__law_equal, He.glo_ok X G (c.fact 4 (f := .glo "_law_equal") rfl), b__law_equal, _, fd__law_is_integer, F__law_is_integer, He.glo_ok X G (c.fact 5 (f := .glo "_law_is_integer") rfl), b__law_is_integer, _, fd__law_tag, F__law_tag, He.glo_ok X G (c.fact 6 (f := .glo "_law_tag") rfl), b__law_tag, _, fd__law_octet, F__law_octet, He.glo_ok X G (c.fact 7 (f := .glo "_law_octet") rfl), b__law_octet, _, fd__law_plan, F__law_plan, He.glo_ok X G (c.fact 8 (f := .glo "_law_plan") rfl), b__law_plan, _, fd__law_deep_plan, F__law_deep_plan, He.glo_ok X G (c.fact 9 (f := .glo "_law_deep_plan") rfl), b__law_deep_plan, _, fd__law_strict_plan, F__law_strict_plan, He.glo_ok X G (c.fact 10 (f := .glo "_law_strict_plan") rfl), b__law_strict_plan, _, fd__law_length_row, F__law_length_row, He.glo_ok X G (c.fact 11 (f := .glo "_law_length_row") rfl), b__law_length_row, _, fd__law_chain, F__law_chain, He.glo_ok X G (c.fact 12 (f := .glo "_law_chain") rfl), b__law_chain, _, fd__law_identifier, F__law_identifier, He.glo_ok X G (c.fact 13 (f := .glo "_law_identifier") rfl), b__law_identifier, _, fd__law_plan_octets, F__law_plan_octets, He.glo_ok X G (c.fact 14 (f := .glo "_law_plan_octets") rfl), b__law_plan_octets, _, fd__law_plan_tree, F__law_plan_tree, He.glo_ok X G (c.fact 15 (f := .glo "_law_plan_tree") rfl), b__law_plan_tree, _, fd_ItemReader___init__, F_ItemReader___init__, kb_ItemReader___init___1_1, _, fd_ItemReader_raise_spoilt, F_ItemReader_raise_spoilt, b_ItemReader_raise_spoilt, He.meth_ok (c.fact 16 (f := .meth "ItemReader" "raise_spoilt") rfl), _, fd_ItemReader_room_left, F_ItemReader_room_left, b_ItemReader_room_left, He.meth_ok (c.fact 17 (f := .meth "ItemReader" "room_left") rfl), _, fd_ItemReader_allows_begin, F_ItemReader_allows_begin, b_ItemReader_allows_begin, He.meth_ok (c.fact 18 (f := .meth "ItemReader" "allows_begin") rfl), _, fd_ItemReader_allows_chain, F_ItemReader_allows_chain, b_ItemReader_allows_chain, He.meth_ok (c.fact 19 (f := .meth "ItemReader" "allows_chain") rfl), _, fd_fills, F_fills, He.glo_ok X G (c.fact 20 (f := .glo "fills") rfl), b_fills, _, fd_length_fills, F_length_fills, He.glo_ok X G (c.fact 21 (f := .glo "length_fills") rfl), b_length_fills, _, fd_ItemReader_allows_length, F_ItemReader_allows_length, b_ItemReader_allows_length, He.meth_ok (c.fact 22 (f := .meth "ItemReader" "allows_length") rfl), _, fd_bad_length_digit, F_bad_length_digit, He.glo_ok X G (c.fact 23 (f := .glo "bad_length_digit") rfl), b_bad_length_digit, _, fd_ItemReader_allows_digit, F_ItemReader_allows_digit, b_ItemReader_allows_digit, He.meth_ok (c.fact 24 (f := .meth "ItemReader" "allows_digit") rfl), _, fd_ItemReader_allows_octet, F_ItemReader_allows_octet, b_ItemReader_allows_octet, He.meth_ok (c.fact 25 (f := .meth "ItemReader" "allows_octet") rfl), _, fd_ItemReader_is_too_deep, F_ItemReader_is_too_deep, b_ItemReader_is_too_deep, He.meth_ok (c.fact 26 (f := .meth "ItemReader" "is_too_deep") rfl), _, fd_octet_at, F_octet_at, He.glo_ok X G (c.fact 27 (f := .glo "octet_at") rfl), b_octet_at, _, fd_read_identifier, F_read_identifier, He.glo_ok X G (c.fact 28 (f := .glo "read_identifier") rfl), b_read_identifier_1, _, fd_ItemReader_end_identifier, F_ItemReader_end_identifier, b_ItemReader_end_identifier, He.meth_ok (c.fact 29 (f := .meth "ItemReader" "end_identifier") rfl), _, fd_ItemReader_close_item, F_ItemReader_close_item, b_ItemReader_close_item, He.meth_ok (c.fact 30 (f := .meth "ItemReader" "close_item") rfl), _, fd_ItemReader_put_item, F_ItemReader_put_item, b_ItemReader_put_item, He.meth_ok (c.fact 31 (f := .meth "ItemReader" "put_item") rfl), _, fd_ItemReader_accept_begin, F_ItemReader_accept_begin, b_ItemReader_accept_begin, He.meth_ok (c.fact 32 (f := .meth "ItemReader" "accept_begin") rfl), _, fd_OpenItem___init__, F_OpenItem___init__, b_OpenItem___init__, _, fd_ItemReader_end_plain, F_ItemReader_end_plain, b_ItemReader_end_plain, He.meth_ok (c.fact 33 (f := .meth "ItemReader" "end_plain") rfl), _, fd_ItemReader_begin_contents, F_ItemReader_begin_contents, b_ItemReader_begin_contents, He.meth_ok (c.fact 34 (f := .meth "ItemReader" "begin_contents") rfl), _, fd_ItemReader_accept_length, F_ItemReader_accept_length, b_ItemReader_accept_length, He.meth_ok (c.fact 35 (f := .meth "ItemReader" "accept_length") rfl), _, fd_ItemReader_accept_octet, F_ItemReader_accept_octet, b_ItemReader_accept_octet, He.meth_ok (c.fact 36 (f := .meth "ItemReader" "accept_octet") rfl), _, fd_ItemReader_push, F_ItemReader_push, b_ItemReader_push, He.meth_ok (c.fact 37 (f := .meth "ItemReader" "push") rfl), _, fd_ItemReader_finish, F_ItemReader_finish, b_ItemReader_finish, He.meth_ok (c.fact 38 (f := .meth "ItemReader" "finish") rfl), _, fd_read_item, F_read_item, He.glo_ok X G (c.fact 39 (f := .glo "read_item") rfl), b_read_item_1, kb_read_item_1_1, _, fd__law_read, F__law_read, He.glo_ok X G (c.fact 40 (f := .glo "_law_read") rfl), b__law_read, _, fd__law_plan_reads, F__law_plan_reads, He.glo_ok X G (c.fact 41 (f := .glo "_law_plan_reads") rfl), b__law_plan_reads, _, fd__law_ends, F__law_ends, He.glo_ok X G (c.fact 42 (f := .glo "_law_ends") rfl), b__law_ends, _, fd_law, F_law, He.glo_ok X G (c.fact 43 (f := .glo "law") rfl), b_law, He.glo_ok X G (c.fact 44 (f := .glo "ItemReader") rfl), He.mkr_ok (c.fact 45 (f := .mkr "ItemReader") rfl), He.glo_ok X G (c.fact 46 (f := .glo "OpenItem") rfl), He.mkr_ok (c.fact 47 (f := .mkr "OpenItem") rfl), He.cls_ok (c.fact 48 (f := .cls "ItemReader") rfl), He.cls_ok (c.fact 49 (f := .cls "OpenItem") rfl), He.noat_ok (c.fact 50 (f := .noat "OpenItem" "tag_pair") rfl), He.noat_ok (c.fact 51 (f := .noat "OpenItem" "first_place") rfl), He.noat_ok (c.fact 52 (f := .noat "OpenItem" "end_place") rfl), He.noat_ok (c.fact 53 (f := .noat "OpenItem" "room_end") rfl), He.noat_ok (c.fact 54 (f := .noat "OpenItem" "inner_items") rfl), He.noat_ok (c.fact 55 (f := .noat "ItemReader" "only_strict") rfl), He.noat_ok (c.fact 56 (f := .noat "ItemReader" "place") rfl), He.noat_ok (c.fact 57 (f := .noat "ItemReader" "spoilt_by") rfl), He.noat_ok (c.fact 58 (f := .noat "ItemReader" "stage") rfl), He.noat_ok (c.fact 59 (f := .noat "ItemReader" "open_items") rfl), He.noat_ok (c.fact 60 (f := .noat "ItemReader" "head_octets") rfl), He.noat_ok (c.fact 61 (f := .noat "ItemReader" "head_place") rfl), He.noat_ok (c.fact 62 (f := .noat "ItemReader" "head_tag") rfl), He.noat_ok (c.fact 63 (f := .noat "ItemReader" "head_built") rfl), He.noat_ok (c.fact 64 (f := .noat "ItemReader" "length_so_far") rfl), He.noat_ok (c.fact 65 (f := .noat "ItemReader" "digits_all") rfl), He.noat_ok (c.fact 66 (f := .noat "ItemReader" "digits_read") rfl), He.noat_ok (c.fact 67 (f := .noat "ItemReader" "content_so_far") rfl), He.noat_ok (c.fact 68 (f := .noat "ItemReader" "content_due") rfl), He.noat_ok (c.fact 69 (f := .noat "ItemReader" "whole_item") rfl), He.free_ok X G (c.fact 70 (f := .free "len") rfl), He.free_ok X G (c.fact 71 (f := .free "min") rfl), He.free_ok X G (c.fact 72 (f := .free "int") rfl), He.free_ok X G (c.fact 73 (f := .free "list") rfl), He.free_ok X G (c.fact 74 (f := .free "abs") rfl), He.free_ok X G (c.fact 75 (f := .free "range") rfl), He.free_ok X G (c.fact 76 (f := .free "isinstance") rfl), He.free_ok X G (c.fact 77 (f := .free "tuple") rfl), He.free_ok X G (c.fact 78 (f := .free "bool") rfl), He.free_ok X G (c.fact 79 (f := .free "str") rfl), He.free_ok X G (c.fact 80 (f := .free "max") rfl), He.free_ok X G (c.fact 81 (f := .free "ValueError") rfl), He.int_ok X G (c.fact 82 (f := .int "LENGTH_MOST" (65535)) rfl), He.str_ok X G (c.fact 83 (f := .str "AT_ITEM" "item") rfl), He.str_ok X G (c.fact 84 (f := .str "AT_END" "end") rfl), He.str_ok X G (c.fact 85 (f := .str "AT_CHAIN" "chain") rfl), He.str_ok X G (c.fact 86 (f := .str "AT_LENGTH" "length") rfl), He.str_ok X G (c.fact 87 (f := .str "AT_DIGIT" "digit") rfl), He.str_ok X G (c.fact 88 (f := .str "AT_CONTENT" "content") rfl), He.int_ok X G (c.fact 89 (f := .int "DEPTH" (20)) rfl), fun w base => q_Refused w base, fun w base => q_Ended w base, fun w base => q_Deep w base, He.glo_ok X G (c.fact 90 (f := .glo "Deep") rfl), He.glo_ok X G (c.fact 91 (f := .glo "TagoctetsError") rfl), He.glo_ok X G (c.fact 92 (f := .glo "Refused") rfl), He.glo_ok X G (c.fact 93 (f := .glo "Ended") rfl), hxf, exT_ok (c.test 0 (b := exT "Deep" t_0) rfl), exT_ok (c.test 1 (b := exT "Ended" t_1) rfl), isT_ok (cs := [.own "TagoctetsError"]) (c.test 2 (b := isT [.own "TagoctetsError"] t_2) rfl) hx_2, isT_ok (cs := [.ty "ValueError"]) (c.test 3 (b := isT [.ty "ValueError"] t_3) rfl) hx_3, isT_ok (cs := [.own "Refused", .own "Deep"]) (c.test 4 (b := isT [.own "Refused", .own "Deep"] t_4) rfl) hx_4, exT_ok (c.test 5 (b := exT "Refused" t_5) rfl), isT_ok (cs := [.own "Ended", .own "Deep"]) (c.test 6 (b := isT [.own "Ended", .own "Deep"] t_6) rfl) hx_6⟩, trivial⟩
end Qk07

set_option Elab.async false
set_option linter.all false
set_option maxRecDepth 100000
set_option maxHeartbeats 400000
/-! Pi1: the item reader: what it holds, where (printed by tools/pi1.py). -/
namespace Pl
open PySem PySem.Spec PyProof.Rows L2 Mp
inductive Sg where
  | item_ | chain_ | length_ | digit_ | content_ | end_
deriving DecidableEq
def Sg.s : Sg → Str
  | .item_ => "item"
  | .chain_ => "chain"
  | .length_ => "length"
  | .digit_ => "digit"
  | .content_ => "content"
  | .end_ => "end"
inductive Sp_ where
  | no | ref | deep
deriving DecidableEq
def Sp_.s : Sp_ → Str
  | .no => "" | .ref => "refused" | .deep => "deep"
/-- an open item (the innermost is the first of a reader) -/
structure Op where
  tag : D
  first : Int
  end_ : Option Int
  room : Option Int
  inner : List D
/-- the reader -/
structure Rd where
  strict : Bool
  place : Int
  spoilt : Sp_
  stage : Sg
  opens : List Op
  head : List Int
  hplace : Int
  htag : D
  hbuilt : Bool
  lsf : Int
  dall : Int
  dread : Int
  content : List Int
  due : Int
  whole : D
/-- where its lists stand -/
structure Ix where
  a : Nat
  b : Nat
  c : Nat
  ks : List (Nat × Nat)
def oi : Option Int → D
  | some i => .int i
  | none => .non
@[simp] theorem oi_some {i : Int} : oi (some i) = .int i := rfl
@[simp] theorem oi_none : oi none = .non := rfl
def flds (r : Rd) (ix : Ix) : List (Str × Nd) := [("only_strict", .d (.bl r.strict)), ("place", .d (.int r.place)), ("spoilt_by", .d (.str r.spoilt.s)), ("stage", .d (.str r.stage.s)), ("open_items", .nd ix.a), ("head_octets", .nd ix.b), ("head_place", .d (.int r.hplace)), ("head_tag", .d (r.htag)), ("head_built", .d (.bl r.hbuilt)), ("length_so_far", .d (.int r.lsf)), ("digits_all", .d (.int r.dall)), ("digits_read", .d (.int r.dread)), ("content_so_far", .nd ix.c), ("content_due", .d (.int r.due)), ("whole_item", .d (r.whole))]
section
variable {r : Rd} {ix : Ix}
@[simp] theorem lk_only_strict : List.lookup (Str.ofString "only_strict") (flds r ix) = some (.d (.bl r.strict)) := rfl
@[simp] theorem lk_place : List.lookup (Str.ofString "place") (flds r ix) = some (.d (.int r.place)) := rfl
@[simp] theorem lk_spoilt_by : List.lookup (Str.ofString "spoilt_by") (flds r ix) = some (.d (.str r.spoilt.s)) := rfl
@[simp] theorem lk_stage : List.lookup (Str.ofString "stage") (flds r ix) = some (.d (.str r.stage.s)) := rfl
@[simp] theorem lk_open_items : List.lookup (Str.ofString "open_items") (flds r ix) = some (.nd ix.a) := rfl
@[simp] theorem lk_head_octets : List.lookup (Str.ofString "head_octets") (flds r ix) = some (.nd ix.b) := rfl
@[simp] theorem lk_head_place : List.lookup (Str.ofString "head_place") (flds r ix) = some (.d (.int r.hplace)) := rfl
@[simp] theorem lk_head_tag : List.lookup (Str.ofString "head_tag") (flds r ix) = some (.d (r.htag)) := rfl
@[simp] theorem lk_head_built : List.lookup (Str.ofString "head_built") (flds r ix) = some (.d (.bl r.hbuilt)) := rfl
@[simp] theorem lk_length_so_far : List.lookup (Str.ofString "length_so_far") (flds r ix) = some (.d (.int r.lsf)) := rfl
@[simp] theorem lk_digits_all : List.lookup (Str.ofString "digits_all") (flds r ix) = some (.d (.int r.dall)) := rfl
@[simp] theorem lk_digits_read : List.lookup (Str.ofString "digits_read") (flds r ix) = some (.d (.int r.dread)) := rfl
@[simp] theorem lk_content_so_far : List.lookup (Str.ofString "content_so_far") (flds r ix) = some (.nd ix.c) := rfl
@[simp] theorem lk_content_due : List.lookup (Str.ofString "content_due") (flds r ix) = some (.d (.int r.due)) := rfl
@[simp] theorem lk_whole_item : List.lookup (Str.ofString "whole_item") (flds r ix) = some (.d (r.whole)) := rfl
@[simp] theorem pt_only_strict {v : Bool} : putNd (Str.ofString "only_strict") (.d (.bl v)) (flds r ix) = flds { r with strict := v } ix := rfl
@[simp] theorem pt_place {v : Int} : putNd (Str.ofString "place") (.d (.int v)) (flds r ix) = flds { r with place := v } ix := rfl
@[simp] theorem pt_open_items {v : Nat} : putNd (Str.ofString "open_items") (.nd v) (flds r ix) = flds r { ix with a := v } := rfl
@[simp] theorem pt_head_octets {v : Nat} : putNd (Str.ofString "head_octets") (.nd v) (flds r ix) = flds r { ix with b := v } := rfl
@[simp] theorem pt_head_place {v : Int} : putNd (Str.ofString "head_place") (.d (.int v)) (flds r ix) = flds { r with hplace := v } ix := rfl
@[simp] theorem pt_head_tag {v : D} : putNd (Str.ofString "head_tag") (.d v) (flds r ix) = flds { r with htag := v } ix := rfl
@[simp] theorem pt_head_built {v : Bool} : putNd (Str.ofString "head_built") (.d (.bl v)) (flds r ix) = flds { r with hbuilt := v } ix := rfl
@[simp] theorem pt_length_so_far {v : Int} : putNd (Str.ofString "length_so_far") (.d (.int v)) (flds r ix) = flds { r with lsf := v } ix := rfl
@[simp] theorem pt_digits_all {v : Int} : putNd (Str.ofString "digits_all") (.d (.int v)) (flds r ix) = flds { r with dall := v } ix := rfl
@[simp] theorem pt_digits_read {v : Int} : putNd (Str.ofString "digits_read") (.d (.int v)) (flds r ix) = flds { r with dread := v } ix := rfl
@[simp] theorem pt_content_so_far {v : Nat} : putNd (Str.ofString "content_so_far") (.nd v) (flds r ix) = flds r { ix with c := v } := rfl
@[simp] theorem pt_content_due {v : Int} : putNd (Str.ofString "content_due") (.d (.int v)) (flds r ix) = flds { r with due := v } ix := rfl
@[simp] theorem pt_whole_item {v : D} : putNd (Str.ofString "whole_item") (.d v) (flds r ix) = flds { r with whole := v } ix := rfl
@[simp] theorem pt_stage_item : putNd (Str.ofString "stage") (.d (.str (Str.ofString "item"))) (flds r ix) = flds { r with stage := .item_ } ix := rfl
@[simp] theorem pt_stage_chain : putNd (Str.ofString "stage") (.d (.str (Str.ofString "chain"))) (flds r ix) = flds { r with stage := .chain_ } ix := rfl
@[simp] theorem pt_stage_length : putNd (Str.ofString "stage") (.d (.str (Str.ofString "length"))) (flds r ix) = flds { r with stage := .length_ } ix := rfl
@[simp] theorem pt_stage_digit : putNd (Str.ofString "stage") (.d (.str (Str.ofString "digit"))) (flds r ix) = flds { r with stage := .digit_ } ix := rfl
@[simp] theorem pt_stage_content : putNd (Str.ofString "stage") (.d (.str (Str.ofString "content"))) (flds r ix) = flds { r with stage := .content_ } ix := rfl
@[simp] theorem pt_stage_end : putNd (Str.ofString "stage") (.d (.str (Str.ofString "end"))) (flds r ix) = flds { r with stage := .end_ } ix := rfl
@[simp] theorem pt_spoilt_no : putNd (Str.ofString "spoilt_by") (.d (.str (Str.ofString ""))) (flds r ix) = flds { r with spoilt := .no } ix := rfl
@[simp] theorem pt_spoilt_ref : putNd (Str.ofString "spoilt_by") (.d (.str (Str.ofString "refused"))) (flds r ix) = flds { r with spoilt := .ref } ix := rfl
@[simp] theorem pt_spoilt_deep : putNd (Str.ofString "spoilt_by") (.d (.str (Str.ofString "deep"))) (flds r ix) = flds { r with spoilt := .deep } ix := rfl
@[simp] theorem me_push : List.lookup (Str.ofString "push") (flds r ix) = none := rfl
@[simp] theorem me_finish : List.lookup (Str.ofString "finish") (flds r ix) = none := rfl
@[simp] theorem me_viable : List.lookup (Str.ofString "viable") (flds r ix) = none := rfl
@[simp] theorem me_raise_spoilt : List.lookup (Str.ofString "raise_spoilt") (flds r ix) = none := rfl
@[simp] theorem me_room_left : List.lookup (Str.ofString "room_left") (flds r ix) = none := rfl
@[simp] theorem me_allows_octet : List.lookup (Str.ofString "allows_octet") (flds r ix) = none := rfl
@[simp] theorem me_allows_begin : List.lookup (Str.ofString "allows_begin") (flds r ix) = none := rfl
@[simp] theorem me_allows_chain : List.lookup (Str.ofString "allows_chain") (flds r ix) = none := rfl
@[simp] theorem me_allows_length : List.lookup (Str.ofString "allows_length") (flds r ix) = none := rfl
@[simp] theorem me_allows_digit : List.lookup (Str.ofString "allows_digit") (flds r ix) = none := rfl
@[simp] theorem me_is_too_deep : List.lookup (Str.ofString "is_too_deep") (flds r ix) = none := rfl
@[simp] theorem me_accept_octet : List.lookup (Str.ofString "accept_octet") (flds r ix) = none := rfl
@[simp] theorem me_accept_begin : List.lookup (Str.ofString "accept_begin") (flds r ix) = none := rfl
@[simp] theorem me_end_identifier : List.lookup (Str.ofString "end_identifier") (flds r ix) = none := rfl
@[simp] theorem me_accept_length : List.lookup (Str.ofString "accept_length") (flds r ix) = none := rfl
@[simp] theorem me_begin_contents : List.lookup (Str.ofString "begin_contents") (flds r ix) = none := rfl
@[simp] theorem me_end_plain : List.lookup (Str.ofString "end_plain") (flds r ix) = none := rfl
@[simp] theorem me_close_item : List.lookup (Str.ofString "close_item") (flds r ix) = none := rfl
@[simp] theorem me_put_item : List.lookup (Str.ofString "put_item") (flds r ix) = none := rfl
@[simp] theorem flds_len : ((flds r ix).length < 1000) = True := eq_true (by show 15 < 1000; decide)
end
theorem sg_item {g : Sg} : (g.s == Str.ofString "item") = decide (g = .item_) := by cases g <;> decide +kernel
theorem sg_chain {g : Sg} : (g.s == Str.ofString "chain") = decide (g = .chain_) := by cases g <;> decide +kernel
theorem sg_length {g : Sg} : (g.s == Str.ofString "length") = decide (g = .length_) := by cases g <;> decide +kernel
theorem sg_digit {g : Sg} : (g.s == Str.ofString "digit") = decide (g = .digit_) := by cases g <;> decide +kernel
theorem sg_content {g : Sg} : (g.s == Str.ofString "content") = decide (g = .content_) := by cases g <;> decide +kernel
theorem sg_end {g : Sg} : (g.s == Str.ofString "end") = decide (g = .end_) := by cases g <;> decide +kernel
theorem sq_no {g : Sp_} : (g.s == Str.ofString "") = decide (g = .no) := by cases g <;> decide +kernel
theorem sq_ref {g : Sp_} : (g.s == Str.ofString "refused") = decide (g = .ref) := by cases g <;> decide +kernel
theorem sq_deep {g : Sp_} : (g.s == Str.ofString "deep") = decide (g = .deep) := by cases g <;> decide +kernel
theorem shD_all {x : Str} (h : shD (.str x) = true) : shD (.str x) = true := h
@[simp] theorem sh_item : shD (.str (Str.ofString "item")) = true := by decide +kernel
@[simp] theorem sh_chain : shD (.str (Str.ofString "chain")) = true := by decide +kernel
@[simp] theorem sh_length : shD (.str (Str.ofString "length")) = true := by decide +kernel
@[simp] theorem sh_digit : shD (.str (Str.ofString "digit")) = true := by decide +kernel
@[simp] theorem sh_content : shD (.str (Str.ofString "content")) = true := by decide +kernel
@[simp] theorem sh_end : shD (.str (Str.ofString "end")) = true := by decide +kernel
@[simp] theorem sh_no_ : shD (.str (Str.ofString "")) = true := by decide +kernel
@[simp] theorem sh_ref_ : shD (.str (Str.ofString "refused")) = true := by decide +kernel
@[simp] theorem sh_deep_ : shD (.str (Str.ofString "deep")) = true := by decide +kernel
@[simp] theorem sh_sg {g : Sg} : shD (.str g.s) = true := by cases g <;> decide +kernel
@[simp] theorem sh_sp {g : Sp_} : shD (.str g.s) = true := by cases g <;> decide +kernel
def opF (o : Op) (j : Nat) : List (Str × Nd) := [("tag_pair", .d (o.tag)), ("first_place", .d (.int o.first)), ("end_place", .d (oi o.end_)), ("room_end", .d (oi o.room)), ("inner_items", .nd j)]
section
variable {o : Op} {j : Nat}
@[simp] theorem ol_tag_pair : List.lookup (Str.ofString "tag_pair") (opF o j) = some (.d (o.tag)) := rfl
@[simp] theorem ol_first_place : List.lookup (Str.ofString "first_place") (opF o j) = some (.d (.int o.first)) := rfl
@[simp] theorem ol_end_place : List.lookup (Str.ofString "end_place") (opF o j) = some (.d (oi o.end_)) := rfl
@[simp] theorem ol_room_end : List.lookup (Str.ofString "room_end") (opF o j) = some (.d (oi o.room)) := rfl
@[simp] theorem ol_inner : List.lookup (Str.ofString "inner_items") (opF o j) = some (.nd j) := rfl
end
/-- the open items' nodes -/
def OpsR (gs : List Gn) : List (Nat × Nat) → List Op → Prop
  | [], [] => True
  | (k, j) :: ks, o :: os => gs[k]? = some (.ins "OpenItem" (opF o j)) ∧ gs[j]? = some (.lst (o.inner.map .d)) ∧ OpsR gs ks os
  | _, _ => False
def Ix.all (ix : Ix) : List Nat := 0 :: ix.a :: ix.b :: ix.c :: ix.ks.flatMap fun p => [p.1, p.2]
def ksN (ks : List (Nat × Nat)) : List Nd := (ks.map fun p => Nd.nd p.1).reverse
@[simp] theorem ksN_nil : ksN [] = [] := rfl
theorem ksN_cons {p : Nat × Nat} {ks : List (Nat × Nat)} : ksN (p :: ks) = ksN ks ++ [.nd p.1] := by simp [ksN]
@[simp] theorem ksN_len {ks : List (Nat × Nat)} : (ksN ks).length = ks.length := by simp [ksN]
/-- a region bears a reader -/
structure RdR (gs : List Gn) (ix : Ix) (r : Rd) : Prop where
  z0 : gs[0]? = some (.ins "ItemReader" (flds r ix))
  za : gs[ix.a]? = some (.lst (ksN ix.ks))
  zb : gs[ix.b]? = some (.lst ((iL r.head).map .d))
  zc : gs[ix.c]? = some (.lst ((iL r.content).map .d))
  zo : OpsR gs ix.ks r.opens
  nd : ix.all.Nodup
/-- the heap hp, but its object i bears the reader r -/
def Upd (hp : List O) (i : Nat) (r : Rd) (hp' : List O) : Prop := ∃ gs ix, RdR gs ix r ∧ hp' = hp.set i (.reg gs)
def Has (hp : List O) (i : Nat) (r : Rd) : Prop := ∃ gs ix, RdR gs ix r ∧ hp[i]? = some (.reg gs)
theorem Has.upd {hp : List O} {i : Nat} {r : Rd} (h : Has hp i r) : Upd hp i r hp := by
  obtain ⟨gs, ix, q, e⟩ := h
  exact ⟨gs, ix, q, (set_same e).symm⟩
theorem Upd.has {hp hp' : List O} {i : Nat} {r : Rd} (h : Upd hp i r hp') (hi : i < hp.length) : Has hp' i r := by
  obtain ⟨gs, ix, q, rfl⟩ := h
  exact ⟨gs, ix, q, List.getElem?_set_self hi⟩
theorem Has.lt {hp : List O} {i : Nat} {r : Rd} (h : Has hp i r) : i < hp.length := by
  obtain ⟨gs, ix, q, e⟩ := h
  exact (List.getElem?_eq_some_iff.mp e).1
theorem Upd.trans {hp h1 h2 : List O} {i : Nat} {r q : Rd} (a : Upd hp i r h1) (b : Upd h1 i q h2) : Upd hp i q h2 := by
  obtain ⟨_, _, _, rfl⟩ := a
  obtain ⟨gs, ix, z, rfl⟩ := b
  exact ⟨gs, ix, z, by rw [List.set_set]⟩
end Pl

set_option Elab.async false
set_option linter.all false
set_option maxRecDepth 100000
set_option maxHeartbeats 400000
/-! Pi2: what the item reader tells: specs of the methods that change nothing. -/
namespace Pl
open PySem PySem.Spec PyProof.Rows L2 Mp
theorem OpsR.len : ∀ {gs : List Gn} {ks : List (Nat × Nat)} {os : List Op}, OpsR gs ks os → ks.length = os.length
  | _, [], [], _ => rfl
  | _, (_, _) :: ks, _ :: os, h => congrArg Nat.succ (OpsR.len h.2.2)
  | _, [], _ :: _, h => h.elim
  | _, _ :: _, [], h => h.elim
theorem OpsR.cut : ∀ {gs : List Gn} {ks : List (Nat × Nat)} {os : List Op}, OpsR gs ks os → (ks = [] ∧ os = []) ∨ ∃ k j ks0 o os0, ks = (k, j) :: ks0 ∧ os = o :: os0 ∧ gs[k]? = some (.ins "OpenItem" (opF o j)) ∧ gs[j]? = some (.lst (o.inner.map .d)) ∧ OpsR gs ks0 os0
  | _, [], [], _ => .inl ⟨rfl, rfl⟩
  | _, (k, j) :: ks, o :: os, h => .inr ⟨k, j, ks, o, os, rfl, rfl, h⟩
  | _, [], _ :: _, h => h.elim
  | _, _ :: _, [], h => h.elim
def room (r : Rd) : Option Int := match r.opens with
  | [] => none
  | o :: _ => o.room.map (· - r.place)
def fillsM (m : Option Int) (low high : Int) (b : Bool) : Bool := match m with
  | none => true
  | some m => decide (low ≤ m - 2) || (decide (low ≤ m ∧ m ≤ high) && !(b && decide (m = 1)))
def fillsB (m : Option Int) (low high : Int) (b : Bool) : Bool := if b = true ∧ high = 1 then false else fillsM m low high b
def lenFills (m : Option Int) (number : Int) (rest : Nat) (b : Bool) : Bool :=
  if 65535 < number * 2 ^ (8 * rest) then false else fillsB (m.map (· - rest)) (number * 2 ^ (8 * rest)) (if 65535 < number * 2 ^ (8 * rest) + 2 ^ (8 * rest) - 1 then 65535 else number * 2 ^ (8 * rest) + 2 ^ (8 * rest) - 1) b
def badDig (w i x : Int) (l : Bool) : Bool := if l then decide (i ≤ 0) && (if w = 1 then decide (x < 128) else decide (x = 0)) else decide (i < w - 2) && decide (x ≠ 0)
section
variable {hp : List O} {i : Nat} {r : Rd} {R : S → List O → Prop} {Xp : MX}
@[simp] theorem isNon_i {x : Int} : isNon (.int x) = false := rfl
@[simp] theorem isNon_no : isNon .non = true := rfl
@[simp] theorem isNon_oi {m : Option Int} : isNon (oi m) = m.isNone := by cases m <;> rfl
theorem sp_raise {tg : Tg (m_ItemReader_raise_spoilt, R, Xp)} (h : Has hp i r) (hk : 0 ≤ r.place ∧ r.place < 2 ^ 60)
    (q : match r.spoilt with
      | .no => R (.d .non) hp
      | .ref => Xp ⟨"Refused", [("place", .int r.place)]⟩ hp
      | .deep => Xp ⟨"Deep", [("place", .int r.place)]⟩ hp) : mfH m_ItemReader_raise_spoilt hp [.ob i 0] R Xp tg := by
  obtain ⟨gs, ix, z, e⟩ := h
  obtain ⟨p, hp0⟩ := Int.eq_ofNat_of_zero_le hk.1
  have hl := lg (z := p) (by omega)
  refine mfH_of ?_
  unfold m_ItemReader_raise_spoilt
  rw [hp0] at q
  cases hs : r.spoilt with
  | no => rw [hs] at q; simp [e, z.z0, hs, sq_ref, sq_deep]; exact q
  | ref => rw [hs] at q; simp [e, z.z0, hs, sq_ref, sq_deep, hp0]; exact ⟨hl, q⟩
  | deep => rw [hs] at q; simp [e, z.z0, hs, sq_ref, sq_deep, hp0]; exact ⟨hl, q⟩
theorem sp_room {tg : Tg (m_ItemReader_room_left, R, Xp)} (h : Has hp i r) (q : R (.d (oi (room r))) hp) : mfH m_ItemReader_room_left hp [.ob i 0] R Xp tg := by
  obtain ⟨gs, ix, z, e⟩ := h
  refine mfH_of ?_
  unfold m_ItemReader_room_left
  rcases z.zo.cut with ⟨e1, e2⟩ | ⟨k, j, ks0, o, os0, e1, e2, h2, h3, _⟩
  · have za := z.za
    rw [e1] at za
    simp only [room, e2] at q
    simp [e, z.z0, za]
    exact q
  · have za := z.za
    rw [e1, ksN_cons] at za
    have zl : atI (ksN ks0 ++ [Nd.nd k]) (-1) = some (.nd k) := at_last
    simp only [room, e2] at q
    have hne : ¬ ((ks0.length : Int) + 1 = 0) := by omega
    cases ho : o.room with
    | none =>
      rw [ho] at q
      simp [e, z.z0, za, zl, h2, ho, hne]
      exact q
    | some m =>
      rw [ho] at q
      simp [e, z.z0, za, zl, h2, ho, hne]
      exact q
end
end Pl

set_option Elab.async false
set_option linter.all false
set_option maxRecDepth 100000
set_option maxHeartbeats 400000
/-! Pi2a: read_identifier. -/
namespace Pl
open PySem PySem.Spec PyProof.Rows L2 Mp
section
variable {hp : List O} {n : Nat} {o : O} {R : S → List O → Prop} {Xp : MX}
inductive Hr where
  | told (p v : Int) (b : Bool) (u : Nat) | ref (k : Nat) | en
def bt (f : Int) : Bool := decide (f / 32 % 2 = 1)
def rid : List Int → Hr
  | [] => .en
  | f :: r => if f % 32 < 31 then (if f / 64 = 0 ∧ f % 32 = 0 then .ref 0 else .told (f / 64) (f % 32) (bt f) 1) else match r with
    | [] => .en
    | h :: r2 => if h < 31 ∨ h = 128 then .ref 1 else if h < 128 then .told (f / 64) h (bt f) 2 else match r2 with
      | [] => .en
      | l :: _ => if 127 < l then .ref 2 else .told (f / 64) ((h - 128) * 128 + l) (bt f) 3
theorem bt2 {f : Int} (h0 : 0 ≤ f) (h1 : f ≤ 255) : (!decide (Builtin.bitAnd f 32 = 0)) = bt f := by
  have : ∀ z : Fin 256, (!decide (Builtin.bitAnd (z.val : Int) 32 = 0)) = bt (z.val : Int) := by decide +kernel
  have := this ⟨f.toNat, by omega⟩
  rwa [show ((f.toNat : Nat) : Int) = f by omega] at this
def dR (p v : Int) (b : Bool) (u : Nat) : D := .tup [.tup [.int p, .int v], .bl b, .int u]
theorem and31 {f : Int} (h0 : 0 ≤ f) (h1 : f ≤ 255) : Builtin.bitAnd f 31 = f % 32 := by
  have : ∀ z : Fin 256, Builtin.bitAnd (z.val : Int) 31 = (z.val : Int) % 32 := by decide +kernel
  have := this ⟨f.toNat, by omega⟩
  rwa [show ((f.toNat : Nat) : Int) = f by omega] at this
theorem sp_read_identifier {s : S} {g : List Int} {a : Nat} {tg : Tg (m_read_identifier, R, Xp)} (hv : val hp s = some (.lst (iL g))) (hb : Bd 0 255 g) (hl : g.length < 2 ^ 50) (ha : a < 2 ^ 50)
    (h : match rid (g.drop a) with
      | .told p v b u => R (.d (dR p v b u)) hp
      | .ref k => Xp ⟨"Refused", [("place", .int ((a : Int) + k))]⟩ hp
      | .en => Xp ⟨"Ended", [("place", .int g.length)]⟩ hp) : mfH m_read_identifier hp [s, .d (.int a)] R Xp tg := by
  refine mfH_of ?_
  unfold m_read_identifier
  simp [-x_seq]
  rw [x_seq]
  simp [-x_seq]
  refine sp_octet_at hv hl ?_
  by_cases hz : ¬ a < g.length
  · rw [if_neg hz]
    rw [drop_none hz] at h
    simpa [rid] using h
  have hz := Classical.not_not.mp hz
  rw [if_pos hz]
  rw [drop_some hz] at h
  have b1 := hb g[a] (List.getElem_mem _)
  have e1 : g[a]?.getD 0 = g[a] := by simp [hz]
  rw [e1]
  generalize g[a] = f at h b1
  simp
  rw [and31 b1.1 b1.2, show (!eqD (D.int (Builtin.bitAnd f 32)) (D.int 0)) = bt f from bt2 b1.1 b1.2]
  refine brH_of (fun hz => ?_) (fun hz => ?_)
  · have c1 := of_decide_eq_true hz
    simp only [rid, if_pos c1] at h
    by_cases c2 : f / 64 = 0
    · by_cases c3 : f % 32 = 0
      · rw [if_pos ⟨c2, c3⟩] at h
        simp [c2, c3]
        exact ⟨lg (by omega), by simpa using h⟩
      · rw [if_neg (fun z => c3 z.2)] at h
        simp [c2, c3]
        simpa [dR, c2] using h
    · rw [if_neg (fun z => c2 z.1)] at h
      simp [c2]
      simpa [dR] using h
  have c1 := of_decide_eq_false hz
  simp only [rid, if_neg c1] at h
  simp [-x_seq]
  rw [x_seq]
  simp [-x_seq]
  rw [show (a : Int) + 1 = ((a + 1 : Nat) : Int) by omega]
  refine sp_octet_at hv hl ?_
  by_cases hz : ¬ a + 1 < g.length
  · rw [if_neg hz]
    rw [drop_none hz] at h
    simpa using h
  have hz := Classical.not_not.mp hz
  rw [if_pos hz]
  rw [drop_some hz] at h
  have e1 : g[a + 1]?.getD 0 = g[a + 1] := by simp [hz]
  rw [e1]
  generalize g[a + 1] = y at h
  dsimp only at h
  by_cases c3 : y < 31
  · rw [if_pos (.inl c3)] at h
    simp [c3]
    exact ⟨lg (by omega), by simpa using h⟩
  by_cases c4 : y = 128
  · rw [if_pos (.inr c4)] at h
    subst c4
    simp
    exact ⟨lg (by omega), by simpa using h⟩
  rw [if_neg (by omega)] at h
  by_cases c5 : y < 128
  · rw [if_pos c5] at h
    simp [c3, c4, c5]
    simpa [dR] using h
  rw [if_neg c5] at h
  simp [c3, c4, c5]
  rw [show (a : Int) + 2 = ((a + 2 : Nat) : Int) by omega]
  refine sp_octet_at hv hl ?_
  by_cases hz : ¬ a + 2 < g.length
  · rw [if_neg hz]
    rw [drop_none hz] at h
    simpa using h
  have hz := Classical.not_not.mp hz
  rw [if_pos hz]
  rw [drop_some hz] at h
  have e1 : g[a + 2]?.getD 0 = g[a + 2] := by simp [hz]
  rw [e1]
  generalize g[a + 2] = z at h
  dsimp only at h
  by_cases c7 : 127 < z
  · have c8 : 128 ≤ z := by omega
    simp only [if_pos c7] at h
    simp [c8]
    exact ⟨lg (by omega), by simpa using h⟩
  have c8 : ¬ 128 ≤ z := by omega
  simp only [if_neg c7] at h
  simp [c8]
  simpa [dR] using h
end
end Pl

set_option Elab.async false
set_option linter.all false
set_option maxRecDepth 100000
set_option maxHeartbeats 400000
/-! Pi3: which octets the item reader allows. -/
namespace Pl
open PySem PySem.Spec PyProof.Rows L2 Mp
def allowsBegin (r : Rd) (x : Int) : Bool := if x = 0 then (match r.opens with
    | [] => false
    | o :: _ => o.end_.isNone)
  else if x = 32 then false else match room r with
    | none => true
    | some m => decide ((if x % 32 = 31 then 3 else 2) ≤ m)
def allowsChain (r : Rd) (x : Int) : Bool := if 1 < r.head.length then decide (x < 128) else if x < 31 ∨ x = 128 then false else match room r with
  | none => true
  | some m => decide ((if 128 < x then 3 else 2) ≤ m)
def allowsLength (r : Rd) (x : Int) : Bool :=
  if x = 128 then r.hbuilt && (match room r with
    | none => true
    | some m => decide (m = 2) || decide (4 ≤ m))
  else if r.strict = true ∧ r.hbuilt = true then false
  else if x < 128 then lenFills ((room r).map (· - 1)) x 0 r.hbuilt
  else if (if r.strict then 2 else 4) < x - 128 then false
  else lenFills ((room r).map (· - 1)) 0 (x - 128).toNat r.hbuilt
def allowsDigit (r : Rd) (x : Int) : Bool := if badDig r.dall r.dread x r.strict = true then false else
  lenFills ((room r).map (· - 1)) (r.lsf * 256 + x) (r.dall - r.dread - 1).toNat r.hbuilt
def allows (r : Rd) (x : Int) : Bool := match r.stage with
  | .item_ => allowsBegin r x
  | .chain_ => allowsChain r x
  | .length_ => allowsLength r x
  | .digit_ => allowsDigit r x
  | .content_ => true
  | .end_ => false
def tooDeep (r : Rd) (x : Int) : Bool := if r.opens.length < 20 then false else match r.stage with
  | .item_ => decide (x / 32 % 2 = 1) && decide (x % 32 ≠ 31)
  | .chain_ => decide (x < 128) && decide (r.head.headD 0 / 32 % 2 = 1)
  | _ => false
section
variable {hp : List O} {i : Nat} {r : Rd} {R : S → List O → Prop} {Xp : MX}
theorem sp_fills {m : Option Int} {low high : Int} {b : Bool} {tg : Tg (m_fills, R, Xp)} (q : R (.d (.bl (fillsB m low high b))) hp) : mfH m_fills hp [.d (oi m), .d (.int low), .d (.int high), .d (.bl b)] R Xp tg := by
  refine mfH_of ?_
  unfold m_fills
  simp only [x_def]
  refine seq_cut (fun hp' env' => hp = hp' ∧ env' = [some (.d (oi m)), some (.d (.int low)), some (.d (.int high)), some (.d (.bl b))] ∧ R (.d (.bl (fillsM m low high b))) hp) (fun M hM => ?_) ?_
  · unfold fillsB at q
    by_cases c : b = true ∧ high = 1
    · rw [if_pos c] at q
      obtain ⟨rfl, rfl⟩ := c
      simp
      exact q
    rw [if_neg c] at q
    cases b
    · simp
      exact hM _ _ ⟨rfl, rfl, q⟩
    · have c' : ¬ high = 1 := fun e => c ⟨rfl, e⟩
      simp [c']
      exact hM _ _ ⟨rfl, rfl, q⟩
  clear q
  rintro _ _ ⟨rfl, rfl, q⟩
  cases m with
  | none => simp; exact q
  | some m =>
    simp only [fillsM] at q
    by_cases c1 : low ≤ m - 2
    · simp [c1] at q
      simp [c1]
      exact q
    · simp [c1] at q
      by_cases c2 : low ≤ m
      · by_cases c3 : m ≤ high
        · cases b
          · simp [c2, c3] at q
            simp [c1, c2, c3]
            exact q
          · simp [c2, c3] at q
            by_cases c4 : m = 1
            · simp [c4] at q
              subst c4
              have c1' : ¬ low ≤ -1 := by omega
              simp [c1', c2, c3]
              exact q
            · simp [c4] at q
              simp [c1, c2, c3, c4]
              exact q
        · simp [c3] at q
          simp [c1, c2, c3]
          exact q
      · simp [c2] at q
        simp [c1, c2]
        exact q
theorem sp_length_fills {m : Option Int} {number : Int} {k : Nat} {b : Bool} {tg : Tg (m_length_fills, R, Xp)} (hk : k ≤ 4) (hn : 0 ≤ number ∧ number < 2 ^ 60) (q : R (.d (.bl (lenFills m number k b))) hp) : mfH m_length_fills hp [.d (oi m), .d (.int number), .d (.int k), .d (.bl b)] R Xp tg := by
  refine mfH_of ?_
  unfold m_length_fills
  unfold lenFills at q
  have e0 : (8 * (k : Int)).toNat = 8 * k := by omega
  have p1 : CPow number (8 * (k : Int)) := ⟨by omega, by omega, by omega⟩
  have p2 : CPow 1 (8 * (k : Int)) := ⟨by omega, by omega, by omega⟩
  by_cases c : 65535 < number * 2 ^ (8 * k)
  · simp [c] at q
    simp [e0, p1, c]
    exact q
  · rw [if_neg c] at q
    cases m with
    | none =>
      simp [e0, p1, p2, c]
      refine sp_fills (m := none) ?_
      simp
      exact q
    | some m =>
      simp [e0, p1, p2, c]
      refine sp_fills (m := some (m - k)) ?_
      simp
      exact q
theorem sp_bad_digit {w j x : Int} {l : Bool} {tg : Tg (m_bad_length_digit, R, Xp)} (hj : 0 ≤ j) (q : R (.d (.bl (badDig w j x l))) hp) : mfH m_bad_length_digit hp [.d (.int w), .d (.int j), .d (.int x), .d (.bl l)] R Xp tg := by
  refine mfH_of ?_
  unfold m_bad_length_digit
  unfold badDig at q
  cases l
  · by_cases c : j < w - 2
    · simp [c] at q
      simp [c]
      exact q
    · simp [c] at q
      simp [c]
      exact q
  · by_cases c : j ≤ 0
    · have c' : ¬ 0 < j := by omega
      by_cases c2 : w = 1
      · simp [c, c2] at q
        simp [c', c2]
        exact q
      · simp [c, c2] at q
        simp [c', c2]
        exact q
    · have c' : 0 < j := by omega
      simp [c] at q
      simp [c']
      exact q
theorem brH_b {b : Bool} {A B : Prop} {t : Tg (A, B)} {c : Bool} (e : b = c) (h : brH c A B .mk) : brH b A B t := by subst e; cases t; exact h
theorem sp_allows_begin {x : Int} {tg : Tg (m_ItemReader_allows_begin, R, Xp)} (h : Has hp i r) (hx : 0 ≤ x ∧ x ≤ 255) (q : R (.d (.bl (allowsBegin r x))) hp) : mfH m_ItemReader_allows_begin hp [.ob i 0, .d (.int x)] R Xp tg := by
  have h' := h
  obtain ⟨gs, ix, z, e⟩ := h
  refine mfH_of ?_
  unfold m_ItemReader_allows_begin
  unfold allowsBegin at q
  by_cases c0 : x = 0
  · subst c0
    rcases z.zo.cut with ⟨e1, e2⟩ | ⟨k, j, ks0, o, os0, e1, e2, h2, h3, _⟩
    · have za := z.za
      rw [e1] at za
      simp [e2] at q
      simp [e, z.z0, za]
      exact q
    · have za := z.za
      rw [e1, ksN_cons] at za
      have zl : atI (ksN ks0 ++ [Nd.nd k]) (-1) = some (.nd k) := at_last
      simp only [e2] at q
      have hne : (0 : Int) < (ks0.length : Int) + 1 := by omega
      simp at q
      simp [e, z.z0, za, zl, h2, hne]
      exact q
  · simp [c0] at q
    by_cases c1 : x = 32
    · subst c1
      simp at q
      simp
      exact q
    · simp [c1] at q
      simp [c0, c1, e, z.z0]
      refine sp_room h' ?_
      cases hm : room r with
      | none =>
        rw [hm] at q
        simp
        exact q
      | some m =>
        rw [hm] at q
        simp only [] at q
        simp [and31 hx.1 hx.2]
        by_cases c2 : x % 32 = 31
        · simp [c2] at q
          simp [c2]
          exact q
        · simp [c2] at q
          simp [c2]
          exact q
theorem sp_allows_chain {x : Int} {tg : Tg (m_ItemReader_allows_chain, R, Xp)} (h : Has hp i r) (q : R (.d (.bl (allowsChain r x))) hp) : mfH m_ItemReader_allows_chain hp [.ob i 0, .d (.int x)] R Xp tg := by
  have h' := h
  obtain ⟨gs, ix, z, e⟩ := h
  refine mfH_of ?_
  unfold m_ItemReader_allows_chain
  unfold allowsChain at q
  by_cases c0 : 1 < r.head.length
  · have c0' : (1 : Int) < r.head.length := by omega
    simp [c0] at q
    simp [e, z.z0, z.zb, c0']
    exact q
  · simp [c0] at q
    have c0' : ¬ (1 : Int) < r.head.length := by omega
    by_cases c1 : x < 31
    · simp [c1] at q
      simp [e, z.z0, z.zb, c0', c1]
      exact q
    by_cases c2 : x = 128
    · simp [c2] at q
      simp [e, z.z0, z.zb, c0', c1, c2]
      exact q
    simp [c1, c2] at q
    simp [e, z.z0, z.zb, c0', c1, c2]
    refine sp_room h' ?_
    cases hm : room r with
    | none =>
      rw [hm] at q
      simp
      exact q
    | some m =>
      rw [hm] at q
      simp only [] at q
      by_cases c3 : 128 < x
      · simp [c3] at q
        simp [c3]
        exact q
      · simp [c3] at q
        simp [c3]
        exact q
theorem sp_allows_length {x : Int} {tg : Tg (m_ItemReader_allows_length, R, Xp)} (h : Has hp i r) (hx : 0 ≤ x ∧ x ≤ 255) (q : R (.d (.bl (allowsLength r x))) hp) : mfH m_ItemReader_allows_length hp [.ob i 0, .d (.int x)] R Xp tg := by
  have h' := h
  obtain ⟨gs, ix, z, e⟩ := h
  refine mfH_of ?_
  unfold m_ItemReader_allows_length
  unfold allowsLength at q
  simp [-x_seq]
  rw [x_seq]
  simp [-x_seq, e, z.z0]
  refine sp_room h' ?_
  simp [-x_seq]
  by_cases c0 : x = 128
  · subst c0
    simp at q
    cases hb : r.hbuilt
    · simp [hb] at q
      simp [e, z.z0, hb]
      exact q
    · simp [hb] at q
      cases hm : room r with
      | none =>
        simp [hm] at q
        simp [e, z.z0, hb]
        exact q
      | some m =>
        simp [hm] at q
        by_cases c2 : m = 2
        · simp [c2] at q
          simp [e, z.z0, hb, c2]
          exact q
        · simp [c2] at q
          simp [e, z.z0, hb, c2]
          exact q
  simp only [if_neg c0] at q
  rw [x_seq]
  simp [-x_seq, c0]
  refine seq_cut (fun hp' env' => hp = hp' ∧ env' = [some (.ob i 0), some (.d (.int x)), some (.d (oi (room r))), none] ∧ ¬ (r.strict = true ∧ r.hbuilt = true)) (fun M hM => ?_) ?_
  · cases hs : r.strict
    · simp [e, z.z0, hs]
      exact hM _ _ ⟨rfl, rfl, by simp [hs]⟩
    · cases hb : r.hbuilt
      · simp [e, z.z0, hs, hb]
        exact hM _ _ ⟨rfl, rfl, by simp [hb]⟩
      · simp [hs, hb] at q
        simp [e, z.z0, hs, hb]
        exact q
  rintro _ _ ⟨rfl, rfl, c1⟩
  rw [if_neg c1] at q
  refine seq_cut (fun hp' env' => hp = hp' ∧ env' = [some (.ob i 0), some (.d (.int x)), some (.d (oi (room r))), some (.d (oi ((room r).map (· - 1))))]) (fun M hM => ?_) ?_
  · cases hm : room r with
    | none => simp; exact hM _ _ ⟨rfl, by rw [hm]; rfl⟩
    | some m => simp; exact hM _ _ ⟨rfl, by rw [hm]; rfl⟩
  rintro _ _ ⟨rfl, rfl⟩
  by_cases c2 : x < 128
  · rw [if_pos c2] at q
    simp [c2, e, z.z0]
    refine sp_length_fills (k := 0) (by omega) ⟨hx.1, by omega⟩ ?_
    simp
    exact q
  rw [if_neg c2] at q
  rw [x_seq]
  simp [-x_seq, c2]
  have hk : ((x - 128).toNat : Int) = x - 128 := by omega
  cases hs : r.strict
  · simp only [hs] at q
    by_cases c3 : (4 : Int) < x - 128
    · simp [c3] at q
      simp [e, z.z0, hs, c3]
      exact q
    · simp [c3] at q
      simp [e, z.z0, hs, c3]
      rw [← hk]
      refine sp_length_fills (k := (x - 128).toNat) (by omega) (by omega) ?_
      simp
      exact q
  · simp only [hs] at q
    by_cases c3 : (2 : Int) < x - 128
    · simp [c3] at q
      simp [e, z.z0, hs, c3]
      exact q
    · simp [c3] at q
      simp [e, z.z0, hs, c3]
      rw [← hk]
      refine sp_length_fills (k := (x - 128).toNat) (by omega) (by omega) ?_
      simp
      exact q
theorem sp_allows_digit {x : Int} {tg : Tg (m_ItemReader_allows_digit, R, Xp)} (h : Has hp i r) (hx : 0 ≤ x ∧ x ≤ 255) (hd : 0 ≤ r.dread ∧ r.dread < r.dall ∧ r.dall ≤ 4) (hl : 0 ≤ r.lsf ∧ r.lsf < 2 ^ 40) (q : R (.d (.bl (allowsDigit r x))) hp) : mfH m_ItemReader_allows_digit hp [.ob i 0, .d (.int x)] R Xp tg := by
  have h' := h
  obtain ⟨gs, ix, z, e⟩ := h
  refine mfH_of ?_
  unfold m_ItemReader_allows_digit
  unfold allowsDigit at q
  simp [-x_seq]
  rw [x_seq]
  simp [-x_seq, e, z.z0]
  refine sp_bad_digit hd.1 ?_
  simp [-x_seq]
  cases c : badDig r.dall r.dread x r.strict
  · simp [c] at q
    simp [-x_seq]
    rw [x_seq]
    simp [-x_seq, e, z.z0]
    refine sp_room h' ?_
    simp [-x_seq]
    refine seq_cut (fun hp' env' => hp = hp' ∧ env' = [some (.ob i 0), some (.d (.int x)), some (.d (oi (room r))), some (.d (oi ((room r).map (· - 1)))), none]) (fun M hM => ?_) ?_
    · cases hm : room r with
      | none => simp; exact hM _ _ ⟨rfl, by rw [hm]; rfl⟩
      | some m => simp; exact hM _ _ ⟨rfl, by rw [hm]; rfl⟩
    rintro _ _ ⟨rfl, rfl⟩
    have hk : ((r.dall - r.dread - 1).toNat : Int) = r.dall - r.dread - 1 := by omega
    simp [e, z.z0]
    rw [← hk]
    refine sp_length_fills (k := (r.dall - r.dread - 1).toNat) (by omega) (by omega) ?_
    simp
    exact q
  · simp [c] at q
    simp
    exact q
theorem sp_allows {x : Int} {tg : Tg (m_ItemReader_allows_octet, R, Xp)} (h : Has hp i r) (hx : 0 ≤ x ∧ x ≤ 255) (hd : r.stage = .digit_ → (0 ≤ r.dread ∧ r.dread < r.dall ∧ r.dall ≤ 4) ∧ (0 ≤ r.lsf ∧ r.lsf < 2 ^ 40)) (q : R (.d (.bl (allows r x))) hp) : mfH m_ItemReader_allows_octet hp [.ob i 0, .d (.int x)] R Xp tg := by
  have h' := h
  obtain ⟨gs, ix, z, e⟩ := h
  refine mfH_of ?_
  unfold m_ItemReader_allows_octet
  unfold allows at q
  cases hs : r.stage with
  | item_ =>
    simp only [hs] at q
    simp [e, z.z0, hs, sg_item, sg_chain, sg_length, sg_digit, sg_content]
    refine sp_allows_begin h' hx ?_
    simpa using q
  | chain_ =>
    simp only [hs] at q
    simp [e, z.z0, hs, sg_item, sg_chain, sg_length, sg_digit, sg_content]
    refine sp_allows_chain h' ?_
    simpa using q
  | length_ =>
    simp only [hs] at q
    simp [e, z.z0, hs, sg_item, sg_chain, sg_length, sg_digit, sg_content]
    refine sp_allows_length h' hx ?_
    simpa using q
  | digit_ =>
    simp only [hs] at q
    simp [e, z.z0, hs, sg_item, sg_chain, sg_length, sg_digit, sg_content]
    refine sp_allows_digit h' hx (hd hs).1 (hd hs).2 ?_
    simpa using q
  | content_ =>
    simp only [hs] at q
    simp [e, z.z0, hs, sg_item, sg_chain, sg_length, sg_digit, sg_content]
    exact q
  | end_ =>
    simp only [hs] at q
    simp [e, z.z0, hs, sg_item, sg_chain, sg_length, sg_digit, sg_content]
    exact q
theorem sp_too_deep {x : Int} {tg : Tg (m_ItemReader_is_too_deep, R, Xp)} (h : Has hp i r) (hx : 0 ≤ x ∧ x ≤ 255) (hd : r.stage = .chain_ → ∃ f l, r.head = f :: l ∧ 0 ≤ f ∧ f ≤ 255) (q : R (.d (.bl (tooDeep r x))) hp) : mfH m_ItemReader_is_too_deep hp [.ob i 0, .d (.int x)] R Xp tg := by
  obtain ⟨gs, ix, z, e⟩ := h
  refine mfH_of ?_
  unfold m_ItemReader_is_too_deep
  unfold tooDeep at q
  have hl := z.zo.len
  by_cases c0 : r.opens.length < 20
  · have c0' : (ix.ks.length : Int) < 20 := by omega
    simp [c0] at q
    simp [e, z.z0, z.za, c0']
    exact q
  have c0' : ¬ (ix.ks.length : Int) < 20 := by omega
  simp only [if_neg c0] at q
  cases hs : r.stage with
  | item_ =>
    simp only [hs] at q
    simp [e, z.z0, z.za, c0', hs, sg_item, sg_chain]
    rw [bt2 hx.1 hx.2]
    unfold bt
    by_cases c1 : x / 32 % 2 = 1
    · simp [c1] at q
      simp [c1, and31 hx.1 hx.2]
      exact q
    · simp [c1] at q
      simp [c1]
      exact q
  | chain_ =>
    obtain ⟨f, l, hh, f0, f1⟩ := hd hs
    simp only [hs, hh, List.headD_cons] at q
    have zb := z.zb
    rw [hh] at zb
    have hv : val hp (.ob i ix.b) = some (.lst (iL (f :: l))) := val_node e zb
    have a0 : atI (f :: l) 0 = some f := at_0
    simp [e, z.z0, z.za, c0', hs, sg_item, sg_chain]
    by_cases c1 : x < 128
    · simp [c1] at q
      simp [c1, e, z.z0, hv, a0]
      rw [bt2 f0 f1]
      exact q
    · simp [c1] at q
      simp [c1]
      exact q
  | length_ =>
    simp only [hs] at q
    simp [e, z.z0, z.za, c0', hs, sg_item, sg_chain]
    exact q
  | digit_ =>
    simp only [hs] at q
    simp [e, z.z0, z.za, c0', hs, sg_item, sg_chain]
    exact q
  | content_ =>
    simp only [hs] at q
    simp [e, z.z0, z.za, c0', hs, sg_item, sg_chain]
    exact q
  | end_ =>
    simp only [hs] at q
    simp [e, z.z0, z.za, c0', hs, sg_item, sg_chain]
    exact q
end
end Pl

set_option Elab.async false
set_option linter.all false
set_option maxRecDepth 100000
set_option maxHeartbeats 400000
/-! Pi4: changes of the region that bears the item reader. -/
namespace Pl
open PySem PySem.Spec PyProof.Rows L2 Mp
section
variable {gs : List Gn} {ix : Ix} {r : Rd}
def fl2 (ks : List (Nat × Nat)) : List Nat := ks.flatMap fun p => [p.1, p.2]
theorem fl2_cons {p : Nat × Nat} {ks : List (Nat × Nat)} : fl2 (p :: ks) = p.1 :: p.2 :: fl2 ks := rfl
theorem OpsR.set {m : Nat} {g : Gn} : ∀ {gs : List Gn} {ks : List (Nat × Nat)} {os : List Op}, m ∉ fl2 ks → OpsR gs ks os → OpsR (gs.set m g) ks os
  | _, [], [], _, _ => trivial
  | _, (k, j) :: ks, _ :: os, hm, h => by
    rw [fl2_cons] at hm
    simp only [List.mem_cons, not_or] at hm
    exact ⟨by rw [List.getElem?_set_ne hm.1]; exact h.1, by rw [List.getElem?_set_ne hm.2.1]; exact h.2.1, OpsR.set hm.2.2 h.2.2⟩
  | _, [], _ :: _, _, h => h.elim
  | _, _ :: _, [], _, h => h.elim
theorem OpsR.more {l : List Gn} : ∀ {gs : List Gn} {ks : List (Nat × Nat)} {os : List Op}, OpsR gs ks os → OpsR (gs ++ l) ks os
  | _, [], [], _ => trivial
  | _, (k, j) :: ks, _ :: os, h => ⟨at_app h.1 l, at_app h.2.1 l, OpsR.more h.2.2⟩
  | _, [], _ :: _, h => h.elim
  | _, _ :: _, [], h => h.elim
theorem OpsR.bound : ∀ {gs : List Gn} {ks : List (Nat × Nat)} {os : List Op}, OpsR gs ks os → ∀ m ∈ fl2 ks, m < gs.length
  | _, [], [], _, m, hm => by cases hm
  | _, (k, j) :: ks, _ :: os, h, m, hm => by
    rw [fl2_cons] at hm
    rcases List.mem_cons.mp hm with rfl | hm
    · exact (List.getElem?_eq_some_iff.mp h.1).1
    rcases List.mem_cons.mp hm with rfl | hm
    · exact (List.getElem?_eq_some_iff.mp h.2.1).1
    · exact OpsR.bound h.2.2 m hm
  | _, [], _ :: _, h, _, _ => h.elim
  | _, _ :: _, [], h, _, _ => h.elim
/-- what stands apart -/
structure Apart (ix : Ix) : Prop where
  a0 : ix.a ≠ 0
  b0 : ix.b ≠ 0
  c0 : ix.c ≠ 0
  ab : ix.a ≠ ix.b
  ac : ix.a ≠ ix.c
  bc : ix.b ≠ ix.c
  k0 : 0 ∉ fl2 ix.ks
  ka : ix.a ∉ fl2 ix.ks
  kb : ix.b ∉ fl2 ix.ks
  kc : ix.c ∉ fl2 ix.ks
  kk : (fl2 ix.ks).Nodup
theorem apart_iff : ix.all.Nodup ↔ Apart ix := by
  have e : ix.all = 0 :: ix.a :: ix.b :: ix.c :: fl2 ix.ks := rfl
  rw [e]
  simp only [List.nodup_cons, List.mem_cons, not_or]
  constructor
  · rintro ⟨⟨h1, h2, h3, h4⟩, ⟨h5, h6, h7⟩, ⟨h8, h9⟩, h10, h11⟩
    exact ⟨Ne.symm h1, Ne.symm h2, Ne.symm h3, h5, h6, h8, h4, h7, h9, h10, h11⟩
  · intro h
    exact ⟨⟨Ne.symm h.a0, Ne.symm h.b0, Ne.symm h.c0, h.k0⟩, ⟨h.ab, h.ac, h.ka⟩, ⟨h.bc, h.kb⟩, h.kc, h.kk⟩
theorem RdR.ap (z : RdR gs ix r) : Apart ix := apart_iff.mp z.nd
theorem lt_of {τ : Type} {l : List τ} {n : Nat} {x : τ} (h : l[n]? = some x) : n < l.length := (List.getElem?_eq_some_iff.mp h).1
/-- other fields -/
theorem RdR.fld {r' : Rd} (z : RdR gs ix r) (h1 : r'.opens = r.opens) (h2 : r'.head = r.head) (h3 : r'.content = r.content) : RdR (gs.set 0 (.ins "ItemReader" (flds r' ix))) ix r' := by
  have A := z.ap
  refine ⟨List.getElem?_set_self (lt_of z.z0), ?_, ?_, ?_, ?_, z.nd⟩
  · rw [List.getElem?_set_ne (Ne.symm A.a0)]; exact z.za
  · rw [List.getElem?_set_ne (Ne.symm A.b0), h2]; exact z.zb
  · rw [List.getElem?_set_ne (Ne.symm A.c0), h3]; exact z.zc
  · rw [h1]; exact z.zo.set A.k0
theorem RdR.happ {x : Int} (z : RdR gs ix r) : RdR (gs.set ix.b (.lst ((iL (r.head ++ [x])).map .d))) ix { r with head := r.head ++ [x] } := by
  have A := z.ap
  refine ⟨?_, ?_, List.getElem?_set_self (lt_of z.zb), ?_, z.zo.set A.kb, z.nd⟩
  · rw [List.getElem?_set_ne A.b0]; exact z.z0
  · rw [List.getElem?_set_ne (Ne.symm A.ab)]; exact z.za
  · rw [List.getElem?_set_ne A.bc]; exact z.zc
theorem RdR.capp {x : Int} (z : RdR gs ix r) : RdR (gs.set ix.c (.lst ((iL (r.content ++ [x])).map .d))) ix { r with content := r.content ++ [x] } := by
  have A := z.ap
  refine ⟨?_, ?_, ?_, List.getElem?_set_self (lt_of z.zc), z.zo.set A.kc, z.nd⟩
  · rw [List.getElem?_set_ne A.c0]; exact z.z0
  · rw [List.getElem?_set_ne (Ne.symm A.ac)]; exact z.za
  · rw [List.getElem?_set_ne (Ne.symm A.bc)]; exact z.zb
theorem at_new {τ : Type} {l : List τ} {x : τ} : (l ++ [x])[l.length]? = some x := by simp
theorem RdR.hnew {xs : List Int} (z : RdR gs ix r) : RdR ((gs ++ [Gn.lst ((iL xs).map .d)]).set 0 (.ins "ItemReader" (flds { r with head := xs } { ix with b := gs.length }))) { ix with b := gs.length } { r with head := xs } := by
  have A := z.ap
  have l0 := lt_of z.z0
  have la := lt_of z.za
  have lc := lt_of z.zc
  have lk := z.zo.bound
  refine ⟨List.getElem?_set_self (by simp), ?_, ?_, ?_, z.zo.more.set A.k0, apart_iff.mpr ⟨A.a0, ?_, A.c0, ?_, A.ac, ?_, A.k0, A.ka, ?_, A.kc, A.kk⟩⟩
  · rw [List.getElem?_set_ne (Ne.symm A.a0)]; exact at_app z.za _
  · show (List.set _ 0 _)[gs.length]? = _
    rw [List.getElem?_set_ne (by omega)]; exact at_new
  · rw [List.getElem?_set_ne (Ne.symm A.c0)]; exact at_app z.zc _
  · show gs.length ≠ 0; omega
  · show ix.a ≠ gs.length; omega
  · show gs.length ≠ ix.c; omega
  · intro h
    have := lk _ h
    have : gs.length < gs.length := this
    omega
theorem RdR.cnew {xs : List Int} (z : RdR gs ix r) : RdR ((gs ++ [Gn.lst ((iL xs).map .d)]).set 0 (.ins "ItemReader" (flds { r with content := xs } { ix with c := gs.length }))) { ix with c := gs.length } { r with content := xs } := by
  have A := z.ap
  have l0 := lt_of z.z0
  have la := lt_of z.za
  have lb := lt_of z.zb
  have lk := z.zo.bound
  refine ⟨List.getElem?_set_self (by simp), ?_, ?_, ?_, z.zo.more.set A.k0, apart_iff.mpr ⟨A.a0, A.b0, ?_, A.ab, ?_, ?_, A.k0, A.ka, A.kb, ?_, A.kk⟩⟩
  · rw [List.getElem?_set_ne (Ne.symm A.a0)]; exact at_app z.za _
  · rw [List.getElem?_set_ne (Ne.symm A.b0)]; exact at_app z.zb _
  · show (List.set _ 0 _)[gs.length]? = _
    rw [List.getElem?_set_ne (by omega)]; exact at_new
  · show gs.length ≠ 0; omega
  · show ix.a ≠ gs.length; omega
  · show ix.b ≠ gs.length; omega
  · intro h
    have := lk _ h
    have : gs.length < gs.length := this
    omega
/-- one more open item -/
theorem RdR.push {o : Op} (z : RdR gs ix r) (ho : o.inner = []) : RdR ((gs ++ [Gn.ins "OpenItem" (opF o (gs.length + 1)), Gn.lst []]).set ix.a (Gn.lst (ksN ix.ks ++ [Nd.nd gs.length]))) { ix with ks := (gs.length, gs.length + 1) :: ix.ks } { r with opens := o :: r.opens } := by
  have A := z.ap
  have l0 := lt_of z.z0
  have la := lt_of z.za
  have lb := lt_of z.zb
  have lc := lt_of z.zc
  have lk := z.zo.bound
  have na : gs.length ∉ fl2 ix.ks := fun h => by have := lk _ h; omega
  have nb : gs.length + 1 ∉ fl2 ix.ks := fun h => by have := lk _ h; omega
  refine ⟨?_, ?_, ?_, ?_, ⟨?_, ?_, z.zo.more.set A.ka⟩, apart_iff.mpr ⟨A.a0, A.b0, A.c0, A.ab, A.ac, A.bc, ?_, ?_, ?_, ?_, ?_⟩⟩
  · rw [List.getElem?_set_ne A.a0]; exact at_app z.z0 _
  · show _ = some (Gn.lst (ksN (_ :: _)))
    rw [ksN_cons]
    exact List.getElem?_set_self (by simp; omega)
  · rw [List.getElem?_set_ne A.ab]; exact at_app z.zb _
  · rw [List.getElem?_set_ne A.ac]; exact at_app z.zc _
  · rw [List.getElem?_set_ne (by omega)]; simp
  · rw [List.getElem?_set_ne (by omega), ho]; simp
  all_goals
    show _
    rw [fl2_cons]
    simp only [List.mem_cons, not_or, List.nodup_cons]
  · exact ⟨by omega, by omega, A.k0⟩
  · exact ⟨by show ix.a ≠ _; omega, by show ix.a ≠ _; omega, A.ka⟩
  · exact ⟨by show ix.b ≠ _; omega, by show ix.b ≠ _; omega, A.kb⟩
  · exact ⟨by show ix.c ≠ _; omega, by show ix.c ≠ _; omega, A.kc⟩
  · exact ⟨⟨by omega, na⟩, nb, A.kk⟩
/-- the innermost one goes -/
theorem RdR.pop {k j : Nat} {ks : List (Nat × Nat)} {o : Op} {os : List Op} (z : RdR gs ix r) (e1 : ix.ks = (k, j) :: ks) (e2 : r.opens = o :: os) : RdR (gs.set ix.a (.lst (ksN ks))) { ix with ks := ks } { r with opens := os } := by
  have A := z.ap
  have ka := A.ka
  have kb := A.kb
  have kc := A.kc
  have k0 := A.k0
  have kk := A.kk
  have zo := z.zo
  rw [e1] at ka kb kc k0 kk zo
  rw [e2] at zo
  rw [fl2_cons] at ka kb kc k0 kk
  simp only [List.mem_cons, not_or, List.nodup_cons] at ka kb kc k0 kk
  refine ⟨?_, List.getElem?_set_self (lt_of z.za), ?_, ?_, zo.2.2.set ka.2.2, apart_iff.mpr ⟨A.a0, A.b0, A.c0, A.ab, A.ac, A.bc, k0.2.2, ka.2.2, kb.2.2, kc.2.2, kk.2.2⟩⟩
  · rw [List.getElem?_set_ne A.a0]; exact z.z0
  · rw [List.getElem?_set_ne A.ab]; exact z.zb
  · rw [List.getElem?_set_ne A.ac]; exact z.zc
/-- .. gets one more inner item -/
theorem RdR.inner {k j : Nat} {ks : List (Nat × Nat)} {o : Op} {os : List Op} {d : D} (z : RdR gs ix r) (e1 : ix.ks = (k, j) :: ks) (e2 : r.opens = o :: os) : RdR (gs.set j (.lst ((o.inner ++ [d]).map .d))) ix { r with opens := { o with inner := o.inner ++ [d] } :: os } := by
  have A := z.ap
  have ka := A.ka
  have kb := A.kb
  have kc := A.kc
  have k0 := A.k0
  have kk := A.kk
  have zo := z.zo
  rw [e1] at ka kb kc k0 kk zo
  rw [e2] at zo
  rw [fl2_cons] at ka kb kc k0 kk
  simp only [List.mem_cons, not_or, List.nodup_cons] at ka kb kc k0 kk
  refine ⟨?_, ?_, ?_, ?_, ?_, z.nd⟩
  · rw [List.getElem?_set_ne (Ne.symm k0.2.1)]; exact z.z0
  · rw [List.getElem?_set_ne (Ne.symm ka.2.1)]; exact z.za
  · rw [List.getElem?_set_ne (Ne.symm kb.2.1)]; exact z.zb
  · rw [List.getElem?_set_ne (Ne.symm kc.2.1)]; exact z.zc
  · show OpsR _ ix.ks _
    rw [e1]
    exact ⟨by rw [List.getElem?_set_ne (Ne.symm kk.1.1)]; exact zo.1, List.getElem?_set_self (lt_of zo.2.1), zo.2.2.set kk.2.1⟩
end
end Pl

set_option Elab.async false
set_option linter.all false
set_option maxRecDepth 100000
set_option maxHeartbeats 400000
/-! Pi5: the methods that change the item reader. -/
namespace Pl
open PySem PySem.Spec PyProof.Rows L2 Mp
def builtD (o : Op) (p : Int) : D := .tup [.str "built", o.tag, .tup o.inner, .int o.first, .int p]
def goesOn (o : Op) (p : Int) : Bool := match o.end_ with
  | none => true
  | some e => decide (p < e)
def putO : List Op → Int → D → List Op × Option D
  | [], _, it => ([], some it)
  | o :: os, p, it => if goesOn o p = true then ({ o with inner := o.inner ++ [it] } :: os, none) else putO os p (builtD { o with inner := o.inner ++ [it] } p)
def put (r : Rd) (it : D) : Rd := match (putO r.opens r.place it).2 with
  | none => { r with opens := (putO r.opens r.place it).1, stage := .item_ }
  | some w => { r with opens := (putO r.opens r.place it).1, whole := w, stage := .end_ }
section
variable {hp : List O} {i : Nat} {r : Rd} {R : S → List O → Prop} {Xp : MX}
theorem upd_take {gs : List Gn} {G : List O} {ix : Ix} (z : RdR gs ix r) : Upd hp i r ((hp.set i (.reg gs) ++ G).take hp.length) := ⟨gs, ix, z, take_app2⟩
theorem upd_set {gs : List Gn} {ix : Ix} (z : RdR gs ix r) : Upd hp i r (hp.set i (.reg gs)) := ⟨gs, ix, z, rfl⟩
theorem ks_last {ks : List Nd} {x : Nd} : (ks ++ [x])[(ks ++ [x]).length - 1]? = some x := by simp
theorem sp_close {o : Op} {os : List Op} {tg : Tg (m_ItemReader_close_item, R, Xp)} (h : Has hp i r) (e2 : r.opens = o :: os) (hl : o.inner.length ≤ 1000000) (q : ∀ hp', Upd hp i { r with opens := os } hp' → R (.d (builtD o r.place)) hp') : mfH m_ItemReader_close_item hp [.ob i 0] R Xp tg := by
  have hi := h.lt
  obtain ⟨gs, ix, z, e⟩ := h
  rcases z.zo.cut with ⟨e1, e2'⟩ | ⟨k, j, ks0, o', os0, e1, e2', h2, h3, _⟩
  · rw [e2'] at e2; cases e2
  rw [e2'] at e2
  cases e2
  refine mfH_of ?_
  unfold m_ItemReader_close_item
  have za := z.za
  rw [e1, ksN_cons] at za
  have A := z.ap
  have ka := A.ka
  rw [e1, fl2_cons] at ka
  simp only [List.mem_cons, not_or] at ka
  have z' := z.pop e1 e2'
  have d1 : (ksN ks0 ++ [Nd.nd k]).dropLast = ksN ks0 := List.dropLast_concat
  have i1 : ∀ g, (hp.set i (.reg g))[i]? = some (.reg g) := fun g => List.getElem?_set_self hi
  have k1 : (gs.set ix.a (.lst (ksN ks0)))[k]? = some (.ins "OpenItem" (opF o j)) := by rw [List.getElem?_set_ne ka.1]; exact h2
  have j1 : (gs.set ix.a (.lst (ksN ks0)))[j]? = some (.lst (o.inner.map .d)) := by rw [List.getElem?_set_ne ka.2.1]; exact h3
  have hv : val (hp.set i (.reg (gs.set ix.a (.lst (ksN ks0))))) (.ob i j) = some (.lst o.inner) := val_node (i1 _) j1
  simp [e, z.z0, za, d1]
  simp [e, i1, k1, hv, z'.z0, hl, d1]
  exact q _ (upd_set z')
theorem Upd.take_ {hp' : List O} (u : Upd hp i r hp') : hp'.take hp.length = hp' := by
  obtain ⟨_, _, _, rfl⟩ := u
  rw [List.take_of_length_le (by simp)]
theorem Upd.past {X : O} {G hp' : List O} (u : Upd (hp.set i X ++ G) i r hp') (hi : i < hp.length) : Upd hp i r (hp'.take hp.length) := by
  obtain ⟨gs, ix, z, rfl⟩ := u
  rw [app_set4 hi]
  exact upd_take z
@[simp] theorem iL_nil' : iL [] = [] := rfl
theorem absorb_lst {gs : List Gn} {ds : List D} (e : hp[i]? = some (.reg gs)) : absorb (hp ++ [.lst ds]) i (.mu hp.length) = some (hp.set i (.reg (gs ++ [.lst (ds.map .d)])) ++ [.gone], .nd gs.length) := by
  have hi := lt_of e
  have e1 : (hp ++ [O.lst ds])[i]? = some (.reg gs) := at_app e _
  have e2 : (hp ++ [O.lst ds])[hp.length]? = some (.lst ds) := at_new
  rw [absorb_mu (gs := gs) (gs' := [.lst (ds.map .d)]) (by rw [e1]; rfl) (by rw [e2]; rfl) (by omega), List.set_append_left _ _ hi, List.set_append_right _ _ (by simp)]
  simp [shG, shN, Function.comp_def]
theorem at_len {τ : Type} {hp G : List τ} {x : τ} : (hp ++ x :: G)[hp.length]? = some x := by
  rw [List.getElem?_append_right (Nat.le_refl _)]
  simp
theorem set_len {τ : Type} {hp G : List τ} {x y : τ} : (hp ++ x :: G).set hp.length y = hp ++ y :: G := by
  simp [List.set_append]
theorem absorb_new {gs : List Gn} {ds : List D} : absorb (hp ++ [.reg gs, .lst ds]) hp.length (.mu (hp.length + 1)) = some (hp ++ [.reg (gs ++ [.lst (ds.map .d)]), .gone], .nd gs.length) := by
  have e1 : (hp ++ [O.reg gs, .lst ds])[hp.length + 1]? = some (.lst ds) := by
    rw [List.getElem?_append_right (by omega), show hp.length + 1 - hp.length = 1 by omega]
    rfl
  rw [absorb_mu (gs := gs) (gs' := [.lst (ds.map .d)]) (by rw [at_len]; rfl) (by rw [e1]; rfl) (by omega), set_len]
  have e2 : (hp ++ [O.reg (gs ++ List.map (shG gs.length) [Gn.lst (List.map Nd.d ds)]), O.lst ds]).set (hp.length + 1) .gone = hp ++ [.reg (gs ++ [.lst (ds.map .d)]), .gone] := by
    rw [List.set_append, if_neg (by omega), show hp.length + 1 - hp.length = 1 by omega]
    simp [shG, shN, Function.comp_def]
  rw [e2]
theorem put_len {gs : List Gn} {G : List O} {k : Nat} {g : Gn} : putH (rgO (hp ++ O.reg gs :: G)[hp.length]?) (hp ++ O.reg gs :: G) hp.length k g = hp ++ O.reg (gs.set k g) :: G := by
  rw [at_len]
  exact set_len
theorem take_two {τ : Type} {hp : List τ} {a b : τ} : (hp ++ [a, b]).take (hp.length + 1) = hp ++ [a] := by
  rw [show hp ++ [a, b] = (hp ++ [a]) ++ [b] by simp, List.take_left' (by simp)]
def OpsOk (os : List Op) : Prop := ∀ o ∈ os, o.inner.length ≤ 900000
theorem Has.set {r' : Rd} {gs : List Gn} {ix : Ix} (h : Has hp i r) (z : RdR gs ix r') : Has (hp.set i (.reg gs)) i r' := ⟨gs, ix, z, List.getElem?_set_self h.lt⟩
theorem sp_put_item {it : D} {tg : Tg (m_ItemReader_put_item, R, Xp)} (h : Has hp i r) (hb : OpsOk r.opens) (q : ∀ hp', Upd hp i (put r it) hp' → R (.d .non) hp') : mfH m_ItemReader_put_item hp [.ob i 0, .d it] R Xp tg := by
  have hi := h.lt
  have i1 : ∀ g, (hp.set i (.reg g))[i]? = some (.reg g) := fun g => List.getElem?_set_self hi
  refine mfH_of ?_
  unfold m_ItemReader_put_item
  simp [-x_seq]
  rw [x_seq]
  simp [-x_seq]
  refine seq_cut (fun hp' env' => ∃ (it' : D) (gs : List Gn) (ix : Ix) (y : Option S), putO r.opens r.place it = ([], some it') ∧ RdR gs ix { r with opens := [] } ∧ hp' = hp.set i (.reg gs) ∧ env' = [some (.ob i 0), some (.d it), some (.d it'), y]) (fun M hM => ?_) ?_
  · simp
    refine whileH_of (fun m hp' env' => ∃ (os : List Op) (it' : D) (gs : List Gn) (ix : Ix) (y : Option S), os.length = m ∧ putO r.opens r.place it = putO os r.place it' ∧ RdR gs ix { r with opens := os } ∧ OpsOk os ∧ hp' = hp.set i (.reg gs) ∧ env' = [some (.ob i 0), some (.d it), some (.d it'), y]) r.opens.length ?_ ?_
    · obtain ⟨gs, ix, z, e⟩ := h
      exact ⟨r.opens, it, gs, ix, _, rfl, rfl, z, hb, (set_same e).symm, rfl⟩
    rintro m _ _ N ⟨os, it', gs, ix, y, rfl, ep, z, hb', rfl, rfl⟩ hN
    rcases z.zo.cut with ⟨e1, e2⟩ | ⟨k, j, ks0, o, os0, e1, e2, h2, h3, _⟩
    · have za := z.za
      rw [e1] at za
      simp [i1, z.z0, za]
      have e2 : os = [] := e2
      subst e2
      exact hM _ _ ⟨it', gs, ix, _, ep, z, rfl, rfl⟩
    · have e2 : os = o :: os0 := e2
      subst e2
      have za := z.za
      rw [e1, ksN_cons] at za
      have A := z.ap
      have zl : atI (ksN ks0 ++ [Nd.nd k]) (-1) = some (.nd k) := at_last
      have hne : (0 : Int) < (ks0.length : Int) + 1 := by omega
      have hol := hb' o (List.mem_cons_self ..)
      have kk := A.kk
      have k0 := A.k0
      rw [e1, fl2_cons] at kk k0
      simp only [List.mem_cons, not_or, List.nodup_cons] at kk k0
      have z1 := z.inner (d := it') e1 rfl
      have k1 : (gs.set j (.lst ((o.inner ++ [it']).map .d)))[k]? = some (.ins "OpenItem" (opF o j)) := by rw [List.getElem?_set_ne (Ne.symm kk.1.1)]; exact h2
      have d1 : dsOf (o.inner.map Nd.d) = some o.inner := dsOf_map o.inner
      simp only [putO] at ep
      have mo : List.map Nd.d o.inner ++ [Nd.d it'] = (o.inner ++ [it']).map Nd.d := by simp
      simp [-x_seq, i1, z.z0, za, hne]
      rw [x_seq]
      simp [-x_seq, i1, z.z0, za, zl]
      rw [x_seq]
      simp [-x_seq, i1, z.z0, h2, h3, d1]
      refine ⟨by omega, ?_⟩
      rw [mo]
      generalize hg1 : gs.set j (.lst ((o.inner ++ [it']).map Nd.d)) = gs1 at z1 k1
      have nxt : goesOn o r.place = false → mAsg (mMe (Str.ofString "ItemReader") (Str.ofString "close_item") 1 m_ItemReader_close_item [] (mVar 0) mNil) (mgName 2) ⟨hp.set i (O.reg gs1), [some (S.ob i 0), some (S.d it), some (S.d it'), some (S.ob i k)], hp.length⟩ { nx := N, bk := M, ct := N, rt := retP hp.length false R, ex := fun x hp' => Xp x (List.take hp.length hp') } := fun hg => by
        rw [if_neg (by rw [hg]; simp)] at ep
        simp [i1, z1.z0]
        refine sp_close (r := { r with opens := { o with inner := o.inner ++ [it'] } :: os0 }) ⟨gs1, ix, z1, i1 _⟩ rfl (by simp; omega) ?_
        rintro _ ⟨gs2, ix2, z2, rfl⟩
        simp
        exact hN _ _ _ (by simp) ⟨os0, _, gs2, ix2, _, rfl, ep, z2, fun o' ho' => hb' o' (List.mem_cons_of_mem _ ho'), rfl, rfl⟩
      have stp : goesOn o r.place = true → ∀ hp', Upd hp i { r with opens := { o with inner := o.inner ++ [it'] } :: os0, stage := .item_ } hp' → R (.d .non) hp' := fun hg => by
        rw [if_pos hg] at ep
        have : put r it = { r with opens := { o with inner := o.inner ++ [it'] } :: os0, stage := .item_ } := by simp only [put, ep]
        rw [← this]
        exact q
      have z3 := z1.fld (r' := { r with opens := { o with inner := o.inner ++ [it'] } :: os0, stage := .item_ }) rfl rfl rfl
      cases he : o.end_ with
      | none =>
        have hg : goesOn o r.place = true := by simp [goesOn, he]
        simp [i1, z1.z0, k1, he]
        exact stp hg _ (upd_set z3)
      | some en =>
        by_cases c : r.place < en
        · have hg : goesOn o r.place = true := by simp [goesOn, he, c]
          simp [i1, z1.z0, k1, he, c]
          exact stp hg _ (upd_set z3)
        · have hg : goesOn o r.place = false := by simp [goesOn, he, c]
          have := nxt hg
          simp [-x_asg, i1, z1.z0, k1, he, c]
          exact this
  · rintro _ _ ⟨it', gs, ix, y, ep, z, rfl, rfl⟩
    have hp1 : put r it = { r with opens := [], whole := it', stage := .end_ } := by simp only [put, ep]
    rw [hp1] at q
    have z3 := (z.fld (r' := { r with opens := [], whole := it' }) rfl rfl rfl).fld (r' := { r with opens := [], whole := it', stage := .end_ }) rfl rfl rfl
    have g0 : ∀ x, (gs.set 0 x)[0]? = some x := fun x => List.getElem?_set_self (lt_of z.z0)
    simp [i1, z.z0, g0]
    rw [List.set_set] at z3
    exact q _ (upd_set z3)
/-- a plain item's end -/
def endPlain (r : Rd) : Rd := put r (.tup [.str "plain", r.htag, .tup (iL r.content), .int r.hplace, .int r.place])
theorem sp_end_plain {tg : Tg (m_ItemReader_end_plain, R, Xp)} (h : Has hp i r) (hb : OpsOk r.opens) (hl : r.content.length ≤ 1000000) (q : ∀ hp', Upd hp i (endPlain r) hp' → R (.d .non) hp') : mfH m_ItemReader_end_plain hp [.ob i 0] R Xp tg := by
  have h' := h
  obtain ⟨gs, ix, z, e⟩ := h
  refine mfH_of ?_
  unfold m_ItemReader_end_plain
  have hv : val hp (.ob i ix.c) = some (.lst (iL r.content)) := val_node e z.zc
  simp [e, z.z0, hv]
  refine sp_put_item h' hb fun hp' u => ?_
  simp
  rw [u.take_]
  exact q _ u
/-- the identifier's end -/
def endId (r : Rd) : Rd := match rid r.head with
  | .told p v b _ => { r with htag := .tup [.int p, .int v], hbuilt := b, stage := .length_ }
  | _ => r
theorem sp_end_identifier {p v : Int} {b : Bool} {u : Nat} {tg : Tg (m_ItemReader_end_identifier, R, Xp)} (h : Has hp i r) (hb : Bd 0 255 r.head) (hl : r.head.length < 2 ^ 50) (ht : rid r.head = .told p v b u) (q : ∀ hp', Upd hp i (endId r) hp' → R (.d .non) hp') : mfH m_ItemReader_end_identifier hp [.ob i 0] R Xp tg := by
  have hi := h.lt
  have i1 : ∀ g, (hp.set i (.reg g))[i]? = some (.reg g) := fun g => List.getElem?_set_self hi
  obtain ⟨gs, ix, z, e⟩ := h
  have g0 : ∀ x, (gs.set 0 x)[0]? = some x := fun x => List.getElem?_set_self (lt_of z.z0)
  have hv : val hp (.ob i ix.b) = some (.lst (iL r.head)) := val_node e z.zb
  refine mfH_of ?_
  unfold m_ItemReader_end_identifier
  simp [e, z.z0]
  refine sp_read_identifier (a := 0) hv hb hl (by omega) ?_
  rw [List.drop_zero, ht]
  simp [dR, e, z.z0, i1, g0]
  have e2 : endId r = { r with htag := .tup [.int p, .int v], hbuilt := b, stage := .length_ } := by simp only [endId, ht]
  rw [e2] at q
  exact q _ (upd_set (z.fld rfl rfl rfl))
/-- an item begins -/
def accBegin (r : Rd) (x : Int) : Rd := if x = 0 then match r.opens with
    | [] => r
    | o :: os => put { r with opens := os } (builtD o r.place)
  else if x % 32 = 31 then { r with head := [x], hplace := r.place - 1, stage := .chain_ } else endId { r with head := [x], hplace := r.place - 1 }
theorem sp_accept_begin {x : Int} {tg : Tg (m_ItemReader_accept_begin, R, Xp)} (h : Has hp i r) (hx : 0 ≤ x ∧ x ≤ 255) (hb : OpsOk r.opens) (h0 : x = 0 → r.opens ≠ []) (ht : x ≠ 0 → ¬ x % 32 = 31 → ∃ p v b u, rid [x] = .told p v b u) (q : ∀ hp', Upd hp i (accBegin r x) hp' → R (.d .non) hp') : mfH m_ItemReader_accept_begin hp [.ob i 0, .d (.int x)] R Xp tg := by
  have hi := h.lt
  have h' := h
  have i1 : ∀ g, (hp.set i (.reg g))[i]? = some (.reg g) := fun g => List.getElem?_set_self hi
  obtain ⟨gs, ix, z, e⟩ := h
  have g0 : ∀ x, (gs.set 0 x)[0]? = some x := fun x => List.getElem?_set_self (lt_of z.z0)
  refine mfH_of ?_
  unfold m_ItemReader_accept_begin
  by_cases c0 : x = 0
  · subst c0
    cases ho : r.opens with
    | nil => exact absurd ho (h0 rfl)
    | cons o os =>
      have hb0 := hb o (by rw [ho]; exact List.mem_cons_self ..)
      simp [e, z.z0]
      refine sp_close h' ho (by omega) fun hp1 u1 => ?_
      simp
      refine sp_put_item (u1.has hi) (fun o' ho' => hb o' (by rw [ho]; exact List.mem_cons_of_mem _ ho')) fun hp2 u2 => ?_
      simp
      have e2 : accBegin r 0 = put { r with opens := os } (builtD o r.place) := by simp only [accBegin, ho, if_pos]
      rw [e2] at q
      have u3 := u1.trans u2
      rw [u3.take_]
      exact q _ u3
  · have zn := z.hnew (xs := [x])
    rw [show (iL [x]).map Nd.d = [Nd.d (.int x)] from rfl] at zn
    have ab := absorb_lst (hp := hp) (i := i) (ds := [D.int x]) e
    have i2 : ∀ g l, (hp.set i (.reg g) ++ l)[i]? = some (.reg g) := fun g l => app_at3 hi
    have sa : ∀ u o l, (hp.set i u ++ l).set i o = hp.set i o ++ l := fun u o l => app_set4 hi
    have a1 : (hp ++ [O.lst [D.int x]])[i]? = some (.reg gs) := at_app e _
    have z00 : (gs ++ [Gn.lst (List.map Nd.d [D.int x])])[0]? = some (.ins "ItemReader" (flds r ix)) := at_app z.z0 _
    have g1 : ∀ y, ((gs ++ [Gn.lst (List.map Nd.d [D.int x])]).set 0 y)[0]? = some y := fun y => List.getElem?_set_self (by simp)
    simp only [List.map_cons, List.map_nil] at ab z00 g1 zn
    simp only [accBegin, if_neg c0] at q
    by_cases c1 : x % 32 = 31
    · rw [if_pos c1] at q
      simp [c0, a1, z.z0, ab, i2, sa, z00, g1, and31 hx.1 hx.2, c1]
      have z3 := (zn.fld (r' := { r with head := [x], hplace := r.place - 1, stage := .chain_ }) rfl rfl rfl)
      rw [List.set_set] at z3
      exact q _ (upd_set z3)
    · rw [if_neg c1] at q
      simp [c0, a1, z.z0, ab, i2, sa, z00, g1, and31 hx.1 hx.2, c1]
      have z3 := (zn.fld (r' := { r with head := [x], hplace := r.place - 1 }) rfl rfl rfl)
      rw [List.set_set] at z3
      obtain ⟨p, v, b, u, ht⟩ := ht c0 c1
      refine sp_end_identifier (r := { r with head := [x], hplace := r.place - 1 }) ⟨_, _, z3, i2 _ _⟩ (fun y hy => by simp at hy; subst hy; exact hx) (by simp) ht fun hp' u => ?_
      simp
      exact q _ (u.past hi)
/-- an item opens -/
def openI (r : Rd) (en rm : Option Int) : Rd := { r with opens := ⟨r.htag, r.hplace, en, rm, []⟩ :: r.opens }
theorem sp_open_init {t : D} {e1 e2 : Option Int} {f : Int} {tg : Tg (m_OpenItem___init__, R, Xp)} (q : R (.d .non) (hp ++ [.reg [.ins "OpenItem" (opF ⟨t, f, e1, e2, []⟩ 1), .lst []]])) : mfH m_OpenItem___init__ (hp ++ [.reg [.ins "OpenItem" []]]) [.ob hp.length 0, .d t, .d (.int f), .d (oi e1), .d (oi e2)] R Xp tg := by
  refine mfH_of ?_
  unfold m_OpenItem___init__
  have p1 : ∀ x, putNd (Str.ofString "tag_pair") x [] = [(Str.ofString "tag_pair", x)] := fun _ => rfl
  have p2 : ∀ x y, putNd (Str.ofString "first_place") y [(Str.ofString "tag_pair", x)] = [(Str.ofString "tag_pair", x), (Str.ofString "first_place", y)] := fun _ _ => rfl
  have p3 : ∀ x y z, putNd (Str.ofString "end_place") z [(Str.ofString "tag_pair", x), (Str.ofString "first_place", y)] = [(Str.ofString "tag_pair", x), (Str.ofString "first_place", y), (Str.ofString "end_place", z)] := fun _ _ _ => rfl
  have p4 : ∀ x y z w, putNd (Str.ofString "room_end") w [(Str.ofString "tag_pair", x), (Str.ofString "first_place", y), (Str.ofString "end_place", z)] = [(Str.ofString "tag_pair", x), (Str.ofString "first_place", y), (Str.ofString "end_place", z), (Str.ofString "room_end", w)] := fun _ _ _ _ => rfl
  have p5 : ∀ x y z w v, putNd (Str.ofString "inner_items") v [(Str.ofString "tag_pair", x), (Str.ofString "first_place", y), (Str.ofString "end_place", z), (Str.ofString "room_end", w)] = [(Str.ofString "tag_pair", x), (Str.ofString "first_place", y), (Str.ofString "end_place", z), (Str.ofString "room_end", w), (Str.ofString "inner_items", v)] := fun _ _ _ _ _ => rfl
  simp [p1, p2, p3, p4]
  rw [absorb_new]
  simp [put_len, p5]
  rw [take_two]
  exact q
theorem absorb_op {gs : List Gn} {o : Op} (e : hp[i]? = some (.reg gs)) (ho : o.inner = []) : absorb (hp ++ [.reg [.ins "OpenItem" (opF o 1), .lst []]]) i (.ob hp.length 0) = some (hp.set i (.reg (gs ++ [.ins "OpenItem" (opF o (gs.length + 1)), .lst []])) ++ [.gone], .nd gs.length) := by
  have hi := lt_of e
  have e1 : (hp ++ [O.reg [.ins "OpenItem" (opF o 1), .lst []]])[i]? = some (.reg gs) := at_app e _
  have e2 : (hp ++ [O.reg [.ins "OpenItem" (opF o 1), .lst []]])[hp.length]? = some (.reg [.ins "OpenItem" (opF o 1), .lst []]) := at_new
  rw [absorb_ob (gs := gs) (gs' := [.ins "OpenItem" (opF o 1), .lst []]) (by rw [e1]; rfl) (by rw [e2]; rfl) (by omega) (by simp), List.set_append_left _ _ hi, List.set_append_right _ _ (by simp), Nat.zero_add]
  simp [shG, shN, opF, Nat.add_comm]
/-- contents begin -/
def beginC (r : Rd) (l : Int) : Rd := if r.hbuilt = true then (if l = 0 then put { r with stage := .item_ } (builtD ⟨r.htag, r.hplace, some (r.place + l), some (r.place + l), []⟩ r.place) else { openI r (some (r.place + l)) (some (r.place + l)) with stage := .item_ })
  else if l = 0 then endPlain { r with content := [], due := l, stage := .content_ } else { r with content := [], due := l, stage := .content_ }
theorem sp_begin_contents {l : Int} {tg : Tg (m_ItemReader_begin_contents, R, Xp)} (h : Has hp i r) (hb : OpsOk r.opens) (hl : r.opens.length ≤ 1000) (q : ∀ hp', Upd hp i (beginC r l) hp' → R (.d .non) hp') : mfH m_ItemReader_begin_contents hp [.ob i 0, .d (.int l)] R Xp tg := by
  have hi := h.lt
  have h' := h
  have i1 : ∀ g, (hp.set i (.reg g))[i]? = some (.reg g) := fun g => List.getElem?_set_self hi
  have i2 : ∀ g l, (hp.set i (.reg g) ++ l)[i]? = some (.reg g) := fun g l => app_at3 hi
  have sa : ∀ u o l, (hp.set i u ++ l).set i o = hp.set i o ++ l := fun u o l => app_set4 hi
  obtain ⟨gs, ix, z, e⟩ := h
  have hks := z.zo.len
  refine mfH_of ?_
  unfold m_ItemReader_begin_contents
  cases hbu : r.hbuilt
  · simp only [beginC, hbu] at q
    have zn := z.cnew (xs := [])
    have ab := absorb_lst (hp := hp) (i := i) (ds := []) e
    have a1 : (hp ++ [O.lst []])[i]? = some (.reg gs) := at_app e _
    simp only [iL_nil', List.map_nil] at ab zn
    have g1 : ∀ y, ((gs ++ [Gn.lst []]).set 0 y)[0]? = some y := fun y => List.getElem?_set_self (by simp)
    have z00 : (gs ++ [Gn.lst []])[0]? = some (.ins "ItemReader" (flds r ix)) := at_app z.z0 _
    have z3 := (zn.fld (r' := { r with content := [], due := l, stage := .content_ }) rfl rfl rfl)
    rw [List.set_set] at z3
    simp only [hbu] at z3
    by_cases c : l = 0
    · subst c
      simp at q
      simp [e, z.z0, hbu, a1, ab, i2, sa, z00, g1]
      refine sp_end_plain ⟨_, _, z3, i2 _ _⟩ hb (by simp) fun hp' u => ?_
      simp
      exact q _ (u.past hi)
    · simp [c] at q
      simp [e, z.z0, hbu, a1, ab, i2, sa, z00, g1, c]
      exact q _ (upd_set z3)
  · rw [beginC, if_pos hbu] at q
    obtain ⟨o, ho⟩ : ∃ o : Op, o = ⟨r.htag, r.hplace, some (r.place + l), some (r.place + l), []⟩ := ⟨_, rfl⟩
    have zn := z.push (o := o) (by rw [ho])
    have ab := absorb_op (hp := hp) (i := i) (o := o) e (by rw [ho])
    simp [-x_seq, e, z.z0, z.za, hbu]
    rw [x_seq]
    simp [-x_seq, e, z.z0, z.za, hbu]
    rw [x_seq]
    simp [-x_seq, e, z.z0, z.za, hbu]
    refine sp_open_init (e1 := some (r.place + l)) (e2 := some (r.place + l)) ?_
    rw [← ho]
    have a1 : (hp ++ [O.reg [.ins "OpenItem" (opF o 1), .lst []]])[i]? = some (.reg gs) := at_app e _
    generalize hgn : (gs ++ [Gn.ins "OpenItem" (opF o (gs.length + 1)), Gn.lst []]).set ix.a (Gn.lst (ksN ix.ks ++ [Nd.nd gs.length])) = gn at zn
    have g1 : ∀ y, (gn.set 0 y)[0]? = some y := fun y => List.getElem?_set_self (lt_of zn.z0)
    have z3 := zn.fld (r' := { r with opens := o :: r.opens, stage := .item_ }) rfl rfl rfl
    by_cases c : l = 0
    · rw [if_pos c] at q
      simp [ab, a1, z.za, i2, sa, hgn, zn.z0, g1, c]
      refine ⟨by omega, ?_⟩
      refine sp_close (r := { r with opens := o :: r.opens, stage := .item_ }) ⟨_, _, z3, i2 _ _⟩ rfl (by rw [ho]; simp) fun hp1 u1 => ?_
      try simp
      refine sp_put_item (u1.has (by simp; omega)) hb fun hp2 u2 => ?_
      have u3 := (u1.trans u2).past hi
      rw [ho] at u3
      exact q _ u3
    · rw [if_neg c] at q
      simp [ab, a1, z.za, i2, sa, hgn, zn.z0, g1, c]
      refine ⟨by omega, ?_⟩
      rw [ho] at z3
      exact q _ (upd_set z3)
end
end Pl

set_option Elab.async false
set_option linter.all false
set_option maxRecDepth 100000
set_option maxHeartbeats 400000
/-! Pi6: an octet is taken; pieces are pushed. -/
namespace Pl
open PySem PySem.Spec PyProof.Rows L2 Mp
def accLength (r : Rd) (x : Int) : Rd := if x < 128 then beginC r x else if 128 < x then { r with lsf := 0, dall := x - 128, dread := 0, stage := .digit_ }
  else { openI r none ((room r).map fun m => r.place + m - 1) with stage := .item_ }
def acc (r0 : Rd) (x : Int) : Rd :=
  let r := { r0 with place := r0.place + 1 }
  match r0.stage with
  | .item_ => accBegin r x
  | .chain_ => if x < 128 then endId { r with head := r.head ++ [x] } else { r with head := r.head ++ [x] }
  | .length_ => accLength r x
  | .digit_ => if r.dread + 1 = r.dall then beginC { r with lsf := r.lsf * 256 + x, dread := r.dread + 1 } (r.lsf * 256 + x) else { r with lsf := r.lsf * 256 + x, dread := r.dread + 1 }
  | _ => if r.due - 1 = 0 then endPlain { r with content := r.content ++ [x], due := r.due - 1 } else { r with content := r.content ++ [x], due := r.due - 1 }
/-- what holds of a reader at any time -/
structure ROk (r : Rd) : Prop where
  pl : 0 ≤ r.place
  ops : ∀ o ∈ r.opens, (o.inner.length : Int) ≤ r.place
  ct : (r.content.length : Int) ≤ r.place
  ol : r.opens.length ≤ 20
  bl : (r.stage = .length_ ∨ r.stage = .digit_) → r.hbuilt = true → r.opens.length < 20
  hd : r.stage = .chain_ → ∃ f, 0 ≤ f ∧ f ≤ 255 ∧ f % 32 = 31 ∧ (r.head = [f] ∨ ∃ h, 128 < h ∧ h ≤ 255 ∧ r.head = [f, h])
  dg : r.stage = .digit_ → 0 ≤ r.dread ∧ r.dread < r.dall ∧ r.dall ≤ 4 ∧ 0 ≤ r.lsf ∧ r.lsf < 256 ^ r.dread.toNat
theorem rid_one {x : Int} (h0 : 0 ≤ x) (h1 : x ≤ 255) (c0 : x ≠ 0) (c32 : x ≠ 32) (c1 : ¬ x % 32 = 31) : rid [x] = .told (x / 64) (x % 32) (bt x) 1 := by
  simp only [rid]
  rw [if_pos (by omega), if_neg (by omega)]
theorem rid_two {f h : Int} (c1 : f % 32 = 31) (c2 : 31 ≤ h) (c3 : h < 128) : rid [f, h] = .told (f / 64) h (bt f) 2 := by
  simp only [rid]
  rw [if_neg (by omega)]
  rw [if_neg (by omega), if_pos c3]
theorem rid_three {f h l : Int} (c1 : f % 32 = 31) (c2 : 128 < h) (c3 : l < 128) : rid [f, h, l] = .told (f / 64) ((h - 128) * 128 + l) (bt f) 3 := by
  simp only [rid]
  rw [if_neg (by omega)]
  rw [if_neg (by omega), if_neg (by omega), if_neg (by omega)]
section
variable {hp : List O} {i : Nat} {r : Rd} {R : S → List O → Prop} {Xp : MX}
theorem sp_accept_length {x : Int} {tg : Tg (m_ItemReader_accept_length, R, Xp)} (h : Has hp i r) (hb : OpsOk r.opens) (hl : r.opens.length ≤ 1000) (q : ∀ hp', Upd hp i (accLength r x) hp' → R (.d .non) hp') : mfH m_ItemReader_accept_length hp [.ob i 0, .d (.int x)] R Xp tg := by
  have hi := h.lt
  have h' := h
  have i1 : ∀ g, (hp.set i (.reg g))[i]? = some (.reg g) := fun g => List.getElem?_set_self hi
  have i2 : ∀ g l, (hp.set i (.reg g) ++ l)[i]? = some (.reg g) := fun g l => app_at3 hi
  have sa : ∀ u o l, (hp.set i u ++ l).set i o = hp.set i o ++ l := fun u o l => app_set4 hi
  obtain ⟨gs, ix, z, e⟩ := h
  have hks := z.zo.len
  have g0 : ∀ x, (gs.set 0 x)[0]? = some x := fun x => List.getElem?_set_self (lt_of z.z0)
  refine mfH_of ?_
  unfold m_ItemReader_accept_length
  unfold accLength at q
  by_cases c1 : x < 128
  · rw [if_pos c1] at q
    simp [c1, e, z.z0]
    refine sp_begin_contents h' hb hl fun hp' u => ?_
    simp
    rw [u.take_]
    exact q _ u
  rw [if_neg c1] at q
  by_cases c2 : 128 < x
  · rw [if_pos c2] at q
    have z3 := z.fld (r' := { r with lsf := 0, dall := x - 128, dread := 0, stage := .digit_ }) rfl rfl rfl
    simp [c1, c2, e, z.z0, i1, g0]
    exact q _ (upd_set z3)
  · rw [if_neg c2] at q
    obtain ⟨o, ho⟩ : ∃ o : Op, o = ⟨r.htag, r.hplace, none, (room r).map fun m => r.place + m - 1, []⟩ := ⟨_, rfl⟩
    have zn := z.push (o := o) (by rw [ho])
    have ab := absorb_op (hp := hp) (i := i) (o := o) e (by rw [ho])
    have a1 : (hp ++ [O.reg [.ins "OpenItem" (opF o 1), .lst []]])[i]? = some (.reg gs) := at_app e _
    generalize hgn : (gs ++ [Gn.ins "OpenItem" (opF o (gs.length + 1)), Gn.lst []]).set ix.a (Gn.lst (ksN ix.ks ++ [Nd.nd gs.length])) = gn at zn
    have g1 : ∀ y, (gn.set 0 y)[0]? = some y := fun y => List.getElem?_set_self (lt_of zn.z0)
    have z3 := zn.fld (r' := { r with opens := o :: r.opens, stage := .item_ }) rfl rfl rfl
    simp [-x_seq, c1, c2, e, z.z0]
    rw [x_seq]
    simp [-x_seq, e, z.z0]
    refine sp_room h' ?_
    simp [-x_seq]
    refine seq_cut (fun hp' env' => hp = hp' ∧ env' = [some (.ob i 0), some (.d (.int x)), some (.d (oi (room r))), some (.d (oi ((room r).map fun m => r.place + m - 1)))]) (fun M hM => ?_) ?_
    · cases hm : room r with
      | none => simp; exact hM _ _ ⟨rfl, by rw [hm]; rfl⟩
      | some m => simp [e, z.z0]; exact hM _ _ ⟨rfl, by rw [hm]; rfl⟩
    rintro _ _ ⟨rfl, rfl⟩
    rw [x_seq]
    simp [-x_seq, e, z.z0, z.za]
    refine sp_open_init (e1 := none) (e2 := (room r).map fun m => r.place + m - 1) ?_
    rw [← ho]
    simp [ab, a1, z.za, i2, sa, hgn, zn.z0, g1]
    refine ⟨by omega, ?_⟩
    rw [ho] at z3
    exact q _ (upd_set z3)
def sgB (t u : Sg) : Bool := decide (t = u)
theorem stg_item {g : Sg} (h : g = .item_) : (g.s == Str.ofString "item") = true ∧ (g.s == Str.ofString "chain") = false ∧ (g.s == Str.ofString "length") = false ∧ (g.s == Str.ofString "digit") = false ∧ (g.s == Str.ofString "content") = false ∧ (g.s == Str.ofString "end") = false := by
  subst h
  exact ⟨by rw [sg_item]; rfl, by rw [sg_chain]; rfl, by rw [sg_length]; rfl, by rw [sg_digit]; rfl, by rw [sg_content]; rfl, by rw [sg_end]; rfl⟩
theorem stg_chain {g : Sg} (h : g = .chain_) : (g.s == Str.ofString "item") = false ∧ (g.s == Str.ofString "chain") = true ∧ (g.s == Str.ofString "length") = false ∧ (g.s == Str.ofString "digit") = false ∧ (g.s == Str.ofString "content") = false ∧ (g.s == Str.ofString "end") = false := by
  subst h
  exact ⟨by rw [sg_item]; rfl, by rw [sg_chain]; rfl, by rw [sg_length]; rfl, by rw [sg_digit]; rfl, by rw [sg_content]; rfl, by rw [sg_end]; rfl⟩
theorem stg_length {g : Sg} (h : g = .length_) : (g.s == Str.ofString "item") = false ∧ (g.s == Str.ofString "chain") = false ∧ (g.s == Str.ofString "length") = true ∧ (g.s == Str.ofString "digit") = false ∧ (g.s == Str.ofString "content") = false ∧ (g.s == Str.ofString "end") = false := by
  subst h
  exact ⟨by rw [sg_item]; rfl, by rw [sg_chain]; rfl, by rw [sg_length]; rfl, by rw [sg_digit]; rfl, by rw [sg_content]; rfl, by rw [sg_end]; rfl⟩
theorem stg_digit {g : Sg} (h : g = .digit_) : (g.s == Str.ofString "item") = false ∧ (g.s == Str.ofString "chain") = false ∧ (g.s == Str.ofString "length") = false ∧ (g.s == Str.ofString "digit") = true ∧ (g.s == Str.ofString "content") = false ∧ (g.s == Str.ofString "end") = false := by
  subst h
  exact ⟨by rw [sg_item]; rfl, by rw [sg_chain]; rfl, by rw [sg_length]; rfl, by rw [sg_digit]; rfl, by rw [sg_content]; rfl, by rw [sg_end]; rfl⟩
theorem stg_content {g : Sg} (h : g = .content_) : (g.s == Str.ofString "item") = false ∧ (g.s == Str.ofString "chain") = false ∧ (g.s == Str.ofString "length") = false ∧ (g.s == Str.ofString "digit") = false ∧ (g.s == Str.ofString "content") = true ∧ (g.s == Str.ofString "end") = false := by
  subst h
  exact ⟨by rw [sg_item]; rfl, by rw [sg_chain]; rfl, by rw [sg_length]; rfl, by rw [sg_digit]; rfl, by rw [sg_content]; rfl, by rw [sg_end]; rfl⟩
theorem stg_end {g : Sg} (h : g = .end_) : (g.s == Str.ofString "item") = false ∧ (g.s == Str.ofString "chain") = false ∧ (g.s == Str.ofString "length") = false ∧ (g.s == Str.ofString "digit") = false ∧ (g.s == Str.ofString "content") = false ∧ (g.s == Str.ofString "end") = true := by
  subst h
  exact ⟨by rw [sg_item]; rfl, by rw [sg_chain]; rfl, by rw [sg_length]; rfl, by rw [sg_digit]; rfl, by rw [sg_content]; rfl, by rw [sg_end]; rfl⟩
theorem acc_item {x : Int} (hs : r.stage = .item_) : acc r x = accBegin { r with place := r.place + 1 } x := by simp only [acc, hs]
theorem acc_length {x : Int} (hs : r.stage = .length_) : acc r x = accLength { r with place := r.place + 1 } x := by simp only [acc, hs]
theorem acc_chain {x : Int} (hs : r.stage = .chain_) : acc r x = if x < 128 then endId { r with place := r.place + 1, head := r.head ++ [x] } else { r with place := r.place + 1, head := r.head ++ [x] } := by simp only [acc, hs]
theorem acc_digit {x : Int} (hs : r.stage = .digit_) : acc r x = if r.dread + 1 = r.dall then beginC { r with place := r.place + 1, lsf := r.lsf * 256 + x, dread := r.dread + 1 } (r.lsf * 256 + x) else { r with place := r.place + 1, lsf := r.lsf * 256 + x, dread := r.dread + 1 } := by simp only [acc, hs]
theorem acc_content {x : Int} (hs : r.stage = .content_) : acc r x = if r.due - 1 = 0 then endPlain { r with place := r.place + 1, content := r.content ++ [x], due := r.due - 1 } else { r with place := r.place + 1, content := r.content ++ [x], due := r.due - 1 } := by simp only [acc, hs]
theorem dsOf_iL {xs : List Int} : dsOf ((iL xs).map Nd.d) = some (iL xs) := dsOf_map _
theorem sp_accept_octet {x : Int} {tg : Tg (m_ItemReader_accept_octet, R, Xp)} (h : Has hp i r) (hx : 0 ≤ x ∧ x ≤ 255) (k : ROk r) (hpl : r.place < 900000) (al : allows r x = true) (q : ∀ hp', Upd hp i (acc r x) hp' → R (.d .non) hp') : mfH m_ItemReader_accept_octet hp [.ob i 0, .d (.int x)] R Xp tg := by
  have hi := h.lt
  have i1 : ∀ g, (hp.set i (.reg g))[i]? = some (.reg g) := fun g => List.getElem?_set_self hi
  obtain ⟨gs, ix, z, e⟩ := h
  have g0 : ∀ x, (gs.set 0 x)[0]? = some x := fun x => List.getElem?_set_self (lt_of z.z0)
  have z1 := z.fld (r' := { r with place := r.place + 1 }) rfl rfl rfl
  have hb : OpsOk r.opens := fun o ho => by have := k.ops o ho; omega
  have hct := k.ct
  have A := z.ap
  have h1 : Has (hp.set i (.reg (gs.set 0 (.ins "ItemReader" (flds { r with place := r.place + 1 } ix))))) i { r with place := r.place + 1 } := ⟨_, _, z1, i1 _⟩
  have bk : ∀ {r2 : Rd} {hp' : List O}, Upd (hp.set i (.reg (gs.set 0 (.ins "ItemReader" (flds { r with place := r.place + 1 } ix))))) i r2 hp' → Upd hp i r2 hp' := fun u => (upd_set z1).trans u
  refine mfH_of ?_
  unfold m_ItemReader_accept_octet
  unfold allows at al
  cases hs : r.stage with
  | item_ =>
    rw [acc_item hs] at q
    simp only [hs] at al
    obtain ⟨s1, s2, s3, s4, s5, s6⟩ := stg_item hs
    simp [e, z.z0, i1, g0, s1, s2, s3, s4]
    have c32 : x ≠ 32 := fun c => by subst c; simp [allowsBegin] at al
    have cz : x = 0 → r.opens ≠ [] := fun c hn => by subst c; simp [allowsBegin, hn] at al
    refine sp_accept_begin h1 hx hb cz (fun c0 c1 => ⟨_, _, _, _, rid_one hx.1 hx.2 c0 c32 c1⟩) fun hp' u => ?_
    simp
    have u2 := bk u
    rw [u2.take_]
    exact q _ u2
  | length_ =>
    rw [acc_length hs] at q
    simp only [hs] at al
    obtain ⟨s1, s2, s3, s4, s5, s6⟩ := stg_length hs
    simp [e, z.z0, i1, g0, s1, s2, s3, s4]
    refine sp_accept_length h1 hb (by have := k.ol; show r.opens.length ≤ _; omega) fun hp' u => ?_
    simp
    have u2 := bk u
    rw [u2.take_]
    exact q _ u2
  | chain_ =>
    rw [acc_chain hs] at q
    simp only [hs] at al
    obtain ⟨s1, s2, s3, s4, s5, s6⟩ := stg_chain hs
    have zb := z1.zb
    have z2 := z1.happ (x := x)
    have d1 := dsOf_iL (xs := r.head)
    generalize hG : (gs.set 0 (.ins "ItemReader" (flds { r with place := r.place + 1 } ix))).set ix.b (.lst ((iL (r.head ++ [x])).map .d)) = G at z2
    obtain ⟨f, f0, f1, fm, hh⟩ := k.hd hs
    have hl : r.head.length ≤ 2 := by rcases hh with hh | ⟨h, _, _, hh⟩ <;> simp [hh]
    have hbd : Bd 0 255 (r.head ++ [x]) := fun y hy => by
      rcases hh with hh | ⟨h, h0, h1, hh⟩
      · simp [hh] at hy; omega
      · simp [hh] at hy; omega
    by_cases c : x < 128
    · have ht : ∃ p v b u, rid (r.head ++ [x]) = .told p v b u := by
        rcases hh with hh | ⟨h, h0, h1, hh⟩
        · have h31 : 31 ≤ x := by
            simp only [allowsChain, hh, List.length_singleton, Nat.lt_irrefl, if_false] at al
            by_cases c31 : x < 31 ∨ x = 128
            · rw [if_pos c31] at al; cases al
            · omega
          exact ⟨_, _, _, _, by rw [hh]; exact rid_two fm h31 c⟩
        · exact ⟨_, _, _, _, by rw [hh]; exact rid_three fm h0 c⟩
      obtain ⟨p, v, b, u, ht⟩ := ht
      rw [if_pos c] at q
      simp [e, z.z0, i1, g0, s1, s2, s3, s4, zb, d1, c, hG, z2.z0]
      refine ⟨by omega, ?_⟩
      refine sp_end_identifier (r := { r with place := r.place + 1, head := r.head ++ [x] }) ⟨_, _, z2, i1 _⟩ hbd (by simp; omega) ht fun hp' u => ?_
      simp
      have u2 := (upd_set z2).trans u
      rw [u2.take_]
      exact q _ u2
    · rw [if_neg c] at q
      simp [e, z.z0, i1, g0, s1, s2, s3, s4, zb, d1, c, hG, z2.z0]
      exact ⟨by omega, q _ (upd_set z2)⟩
  | digit_ =>
    rw [acc_digit hs] at q
    simp only [hs] at al
    obtain ⟨s1, s2, s3, s4, s5, s6⟩ := stg_digit hs
    have z2 := z1.fld (r' := { r with place := r.place + 1, lsf := r.lsf * 256 + x, dread := r.dread + 1 }) rfl rfl rfl
    rw [List.set_set] at z2
    by_cases c : r.dread + 1 = r.dall
    · rw [if_pos c] at q
      rw [c] at q z2
      simp [e, z.z0, i1, g0, s1, s2, s3, s4, c]
      refine sp_begin_contents (r := { r with place := r.place + 1, lsf := r.lsf * 256 + x, dread := r.dall }) ⟨_, _, z2, i1 _⟩ hb (by have := k.ol; show r.opens.length ≤ _; omega) fun hp' u => ?_
      simp
      have u2 := (upd_set z2).trans u
      rw [u2.take_]
      exact q _ u2
    · simp [c] at q
      simp [e, z.z0, i1, g0, s1, s2, s3, s4, c]
      exact q _ (upd_set z2)
  | content_ =>
    rw [acc_content hs] at q
    simp only [hs] at al
    obtain ⟨s1, s2, s3, s4, s5, s6⟩ := stg_content hs
    have zc := z1.zc
    have d1 := dsOf_iL (xs := r.content)
    have z2 := z1.capp (x := x)
    generalize hG : (gs.set 0 (.ins "ItemReader" (flds { r with place := r.place + 1 } ix))).set ix.c (.lst ((iL (r.content ++ [x])).map .d)) = G at z2
    have g2 : ∀ y, (G.set 0 y)[0]? = some y := fun y => List.getElem?_set_self (lt_of z2.z0)
    have z3 := z2.fld (r' := { r with place := r.place + 1, content := r.content ++ [x], due := r.due - 1 }) rfl rfl rfl
    by_cases c : r.due - 1 = 0
    · rw [if_pos c] at q
      simp [e, z.z0, i1, g0, s1, s2, s3, s4, zc, d1, hG, z2.z0, g2, c]
      refine ⟨by omega, ?_⟩
      rw [c] at z3 q
      refine sp_end_plain (r := { r with place := r.place + 1, content := r.content ++ [x], due := 0 }) ⟨_, _, z3, i1 _⟩ hb (by simp; omega) fun hp' u => ?_
      simp
      have u2 := (upd_set z3).trans u
      rw [u2.take_]
      exact q _ u2
    · rw [if_neg c] at q
      simp [e, z.z0, i1, g0, s1, s2, s3, s4, zc, d1, hG, z2.z0, g2, c]
      exact ⟨by omega, q _ (upd_set z3)⟩
  | end_ =>
    simp only [hs] at al
    cases al
end
end Pl

set_option Elab.async false
set_option linter.all false
set_option maxRecDepth 100000
set_option maxHeartbeats 400000
/-! Pi7: what holds at any time goes on. -/
namespace Pl
open PySem PySem.Spec PyProof.Rows L2 Mp
theorem putO_ok : ∀ (os : List Op) (p : Int) (it : D), (∀ o ∈ os, (o.inner.length : Int) + 1 ≤ p) → (putO os p it).1.length ≤ os.length ∧ ∀ o ∈ (putO os p it).1, (o.inner.length : Int) ≤ p
  | [], _, _, _ => ⟨by simp [putO], fun o ho => by simp [putO] at ho⟩
  | o :: os, p, it, h => by
    by_cases c : goesOn o p = true
    · simp only [putO, if_pos c]
      refine ⟨by simp, fun o' ho' => ?_⟩
      rcases List.mem_cons.mp ho' with rfl | ho'
      · have := h o (List.mem_cons_self ..); simp; omega
      · have := h o' (List.mem_cons_of_mem _ ho'); omega
    · simp only [putO, if_neg c]
      have := putO_ok os p (builtD { o with inner := o.inner ++ [it] } p) fun o' ho' => h o' (List.mem_cons_of_mem _ ho')
      exact ⟨Nat.le_succ_of_le this.1, this.2⟩
theorem put_stage {r : Rd} {it : D} : (put r it).stage = .item_ ∨ (put r it).stage = .end_ := by
  unfold put
  cases (putO r.opens r.place it).2
  · exact .inl rfl
  · exact .inr rfl
theorem put_place {r : Rd} {it : D} : (put r it).place = r.place ∧ (put r it).content = r.content ∧ (put r it).opens = (putO r.opens r.place it).1 ∧ (put r it).spoilt = r.spoilt ∧ (put r it).strict = r.strict := by
  unfold put
  cases (putO r.opens r.place it).2 <;> exact ⟨rfl, rfl, rfl, rfl, rfl⟩
theorem ROk.of {r : Rd} (h1 : 0 ≤ r.place) (h2 : ∀ o ∈ r.opens, (o.inner.length : Int) ≤ r.place) (h3 : (r.content.length : Int) ≤ r.place) (h4 : r.opens.length ≤ 20) (h5 : r.stage = .item_ ∨ r.stage = .end_ ∨ r.stage = .content_) : ROk r := by
  refine ⟨h1, h2, h3, h4, fun h => ?_, fun h => ?_, fun h => ?_⟩
  · rcases h5 with e | e | e <;> rw [e] at h <;> rcases h with h | h <;> cases h
  · rcases h5 with e | e | e <;> rw [e] at h <;> cases h
  · rcases h5 with e | e | e <;> rw [e] at h <;> cases h
theorem put_ok {r : Rd} {it : D} (h1 : 0 ≤ r.place) (h2 : ∀ o ∈ r.opens, (o.inner.length : Int) + 1 ≤ r.place) (h3 : (r.content.length : Int) ≤ r.place) (h4 : r.opens.length ≤ 20) : ROk (put r it) := by
  obtain ⟨e1, e2, e3, _, _⟩ := put_place (r := r) (it := it)
  obtain ⟨q1, q2⟩ := putO_ok r.opens r.place it h2
  exact .of (by rw [e1]; exact h1) (by rw [e1, e3]; exact q2) (by rw [e1, e2]; exact h3) (by rw [e3]; omega) (put_stage.imp id .inl)
theorem endId_ok {r : Rd} {p v : Int} {b : Bool} {u : Nat} (ht : rid r.head = .told p v b u) (h1 : 0 ≤ r.place) (h2 : ∀ o ∈ r.opens, (o.inner.length : Int) ≤ r.place) (h3 : (r.content.length : Int) ≤ r.place) (h4 : r.opens.length ≤ 20) (h5 : b = true → r.opens.length < 20) : ROk (endId r) := by
  have e2 : endId r = { r with htag := .tup [.int p, .int v], hbuilt := b, stage := .length_ } := by simp only [endId, ht]
  rw [e2]
  exact ⟨h1, h2, h3, h4, fun _ => h5, fun h => (by cases h), fun h => (by cases h)⟩
theorem beginC_ok {r : Rd} {l : Int} (h1 : 0 ≤ r.place) (h2 : ∀ o ∈ r.opens, (o.inner.length : Int) + 1 ≤ r.place) (h3 : (r.content.length : Int) ≤ r.place) (h4 : r.opens.length ≤ 20) (h5 : r.hbuilt = true → r.opens.length < 20) : ROk (beginC r l) := by
  unfold beginC
  by_cases c : r.hbuilt = true
  · rw [if_pos c]
    by_cases c2 : l = 0
    · rw [if_pos c2]
      exact put_ok h1 h2 h3 h4
    · rw [if_neg c2]
      refine .of h1 (fun o ho => ?_) h3 (h5 c) (.inl rfl)
      rcases List.mem_cons.mp ho with rfl | ho
      · show ((0 : Nat) : Int) ≤ r.place; omega
      · have := h2 o ho
        show (o.inner.length : Int) ≤ r.place
        omega
  · rw [if_neg c]
    by_cases c2 : l = 0
    · rw [if_pos c2]
      exact put_ok h1 h2 (by simpa using h1) h4
    · rw [if_neg c2]
      exact .of h1 (fun o ho => by have := h2 o ho; show (o.inner.length : Int) ≤ r.place; omega) (by simpa using h1) h4 (.inr (.inr rfl))
theorem acc_ok {r : Rd} {x : Int} (k : ROk r) (hx : 0 ≤ x ∧ x ≤ 255) (al : allows r x = true) (td : tooDeep r x = false) : ROk (acc r x) := by
  have pl := k.pl
  have ops' : ∀ o ∈ r.opens, (o.inner.length : Int) + 1 ≤ r.place + 1 := fun o ho => by have := k.ops o ho; omega
  have ops2 : ∀ o ∈ r.opens, (o.inner.length : Int) ≤ r.place + 1 := fun o ho => by have := k.ops o ho; omega
  have ct := k.ct
  have ol := k.ol
  cases hs : r.stage with
  | item_ =>
    rw [acc_item hs]
    simp only [allows, hs] at al
    unfold accBegin
    by_cases c0 : x = 0
    · subst c0
      rw [if_pos rfl]
      cases ho : r.opens with
      | nil => simp [allowsBegin, ho] at al
      | cons o os =>
        refine put_ok (by show 0 ≤ r.place + 1; omega) (fun o' ho' => ops' o' (by rw [ho]; exact List.mem_cons_of_mem _ ho')) (by show (r.content.length : Int) ≤ r.place + 1; omega) ?_
        rw [ho] at ol
        simp at ol
        show os.length ≤ 20
        omega
    · rw [if_neg c0]
      by_cases c1 : x % 32 = 31
      · rw [if_pos c1]
        exact ⟨by show 0 ≤ r.place + 1; omega, ops2, by show (r.content.length : Int) ≤ r.place + 1; omega, ol, fun h => (by rcases h with h | h <;> cases h), fun _ => ⟨x, hx.1, hx.2, c1, .inl rfl⟩, fun h => (by cases h)⟩
      · rw [if_neg c1]
        have c32 : x ≠ 32 := fun c => by subst c; simp [allowsBegin] at al
        refine endId_ok (rid_one hx.1 hx.2 c0 c32 c1) (by show 0 ≤ r.place + 1; omega) ops2 (by show (r.content.length : Int) ≤ r.place + 1; omega) ol fun hb => ?_
        have hb : x / 32 % 2 = 1 := of_decide_eq_true hb
        by_cases c : r.opens.length < 20
        · exact c
        · simp [tooDeep, c, hs, hb, c1] at td
  | chain_ =>
    rw [acc_chain hs]
    simp only [allows, hs] at al
    obtain ⟨f, f0, f1, fm, hh⟩ := k.hd hs
    by_cases c : x < 128
    · rw [if_pos c]
      have fin : ∀ {p v : Int} {u : Nat}, rid (r.head ++ [x]) = .told p v (bt f) u → r.head.headD 0 = f → ROk (endId { r with place := r.place + 1, head := r.head ++ [x] }) := fun ht hf => by
        refine endId_ok ht (by show 0 ≤ r.place + 1; omega) ops2 (by show (r.content.length : Int) ≤ r.place + 1; omega) ol fun hb => ?_
        have hb : f / 32 % 2 = 1 := of_decide_eq_true hb
        by_cases c9 : r.opens.length < 20
        · exact c9
        · simp only [tooDeep, if_neg c9, hs, hf, hb] at td
          simp [c] at td
      rcases hh with hh | ⟨h, h0, h1, hh⟩
      · have h31 : 31 ≤ x := by
          simp only [allowsChain, hh, List.length_singleton, Nat.lt_irrefl, if_false] at al
          by_cases c31 : x < 31 ∨ x = 128
          · rw [if_pos c31] at al; cases al
          · omega
        exact fin (by rw [hh]; exact rid_two fm h31 c) (by rw [hh]; rfl)
      · exact fin (by rw [hh]; exact rid_three fm h0 c) (by rw [hh]; rfl)
    · rw [if_neg c]
      refine ⟨by show 0 ≤ r.place + 1; omega, ops2, by show (r.content.length : Int) ≤ r.place + 1; omega, ol, fun h => (by rcases h with h | h <;> (have h : r.stage = _ := h; rw [hs] at h; cases h)), fun _ => ⟨f, f0, f1, fm, ?_⟩, fun h => by have h : r.stage = _ := h; rw [hs] at h; cases h⟩
      rcases hh with hh | ⟨h, h0, h1, hh⟩
      · have hx8 : x ≠ 128 := fun c8 => by subst c8; simp [allowsChain, hh] at al
        exact .inr ⟨x, by omega, hx.2, by show r.head ++ [x] = _; rw [hh]; rfl⟩
      · simp [allowsChain, hh] at al
        omega
  | length_ =>
    rw [acc_length hs]
    simp only [allows, hs] at al
    unfold accLength
    have hbl := k.bl (.inl hs)
    by_cases c : x < 128
    · rw [if_pos c]
      exact beginC_ok (by show 0 ≤ r.place + 1; omega) ops' (by show (r.content.length : Int) ≤ r.place + 1; omega) ol hbl
    · rw [if_neg c]
      by_cases c2 : 128 < x
      · rw [if_pos c2]
        have h4 : x - 128 ≤ 4 := by
          have c8 : ¬ x = 128 := by omega
          simp only [allowsLength, if_neg c8, if_neg c] at al
          by_cases c9 : r.strict = true ∧ r.hbuilt = true
          · rw [if_pos c9] at al; cases al
          rw [if_neg c9] at al
          by_cases c10 : (if r.strict = true then 2 else 4) < x - 128
          · rw [if_pos c10] at al; cases al
          · split at c10 <;> omega
        exact ⟨by show 0 ≤ r.place + 1; omega, ops2, by show (r.content.length : Int) ≤ r.place + 1; omega, ol, fun _ => hbl, fun h => (by cases h), fun _ => ⟨by show (0 : Int) ≤ 0; omega, by show (0 : Int) < x - 128; omega, h4, by show (0 : Int) ≤ 0; omega, by show (0 : Int) < 1; omega⟩⟩
      · rw [if_neg c2]
        have hb : r.hbuilt = true := by
          have c8 : x = 128 := by omega
          subst c8
          simp [allowsLength] at al
          exact al.1
        refine .of (by show 0 ≤ r.place + 1; omega) (fun o ho => ?_) (by show (r.content.length : Int) ≤ r.place + 1; omega) (hbl hb) (.inl rfl)
        rcases List.mem_cons.mp ho with rfl | ho
        · show ((0 : Nat) : Int) ≤ r.place + 1; omega
        · exact ops2 o ho
  | digit_ =>
    rw [acc_digit hs]
    obtain ⟨d1, d2, d3, d4, d5⟩ := k.dg hs
    have hbl := k.bl (.inr hs)
    by_cases c : r.dread + 1 = r.dall
    · rw [if_pos c]
      exact beginC_ok (by show 0 ≤ r.place + 1; omega) ops' (by show (r.content.length : Int) ≤ r.place + 1; omega) ol hbl
    · rw [if_neg c]
      refine ⟨by show 0 ≤ r.place + 1; omega, ops2, by show (r.content.length : Int) ≤ r.place + 1; omega, ol, fun _ => hbl, fun h => (by have h : r.stage = _ := h; rw [hs] at h; cases h), fun _ => ⟨by show 0 ≤ r.dread + 1; omega, by show r.dread + 1 < r.dall; omega, d3, by show 0 ≤ r.lsf * 256 + x; omega, ?_⟩⟩
      show r.lsf * 256 + x < 256 ^ (r.dread + 1).toNat
      have e : (r.dread + 1).toNat = r.dread.toNat + 1 := by omega
      rw [e, Int.pow_succ]
      omega
  | content_ =>
    rw [acc_content hs]
    have hc : ((r.content ++ [x]).length : Int) ≤ r.place + 1 := by simp; omega
    by_cases c : r.due - 1 = 0
    · rw [if_pos c]
      exact put_ok (by show 0 ≤ r.place + 1; omega) ops' hc ol
    · rw [if_neg c]
      exact .of (by show 0 ≤ r.place + 1; omega) ops2 hc ol (.inr (.inr hs))
  | end_ =>
    simp only [allows, hs] at al
    cases al
theorem acc_place {r : Rd} {x : Int} : (acc r x).place = r.place + 1 ∧ (acc r x).spoilt = r.spoilt ∧ (acc r x).strict = r.strict := by
  have e1 : ∀ q : Rd, (endId q).place = q.place ∧ (endId q).spoilt = q.spoilt ∧ (endId q).strict = q.strict := fun q => by unfold endId; split <;> exact ⟨rfl, rfl, rfl⟩
  have e2 : ∀ (q : Rd) it, (put q it).place = q.place ∧ (put q it).spoilt = q.spoilt ∧ (put q it).strict = q.strict := fun q it => by obtain ⟨h1, _, _, h4, h5⟩ := put_place (r := q) (it := it); exact ⟨h1, h4, h5⟩
  have e3 : ∀ (q : Rd) l, (beginC q l).place = q.place ∧ (beginC q l).spoilt = q.spoilt ∧ (beginC q l).strict = q.strict := fun q l => by
    unfold beginC endPlain
    split <;> split <;> first | exact e2 _ _ | exact ⟨rfl, rfl, rfl⟩
  cases hs : r.stage with
  | item_ =>
    rw [acc_item hs]
    unfold accBegin
    split
    · cases r.opens <;> first | exact e2 _ _ | exact ⟨rfl, rfl, rfl⟩
    · split <;> first | exact e1 _ | exact ⟨rfl, rfl, rfl⟩
  | chain_ =>
    rw [acc_chain hs]
    split <;> first | exact e1 _ | exact ⟨rfl, rfl, rfl⟩
  | length_ =>
    rw [acc_length hs]
    unfold accLength
    split
    · exact e3 _ _
    · split <;> exact ⟨rfl, rfl, rfl⟩
  | digit_ =>
    rw [acc_digit hs]
    split <;> first | exact e3 _ _ | exact ⟨rfl, rfl, rfl⟩
  | content_ =>
    rw [acc_content hs]
    unfold endPlain
    split <;> first | exact e2 _ _ | exact ⟨rfl, rfl, rfl⟩
  | end_ =>
    simp only [acc, hs]
    unfold endPlain
    split <;> first | exact e2 _ _ | exact ⟨rfl, rfl, rfl⟩
end Pl

set_option Elab.async false
set_option linter.all false
set_option maxRecDepth 100000
set_option maxHeartbeats 400000
/-! Pi8: push, finish. -/
namespace Pl
open PySem PySem.Spec PyProof.Rows L2 Mp
def feed : Rd → List Int → Rd
  | r, [] => r
  | r, x :: xs => if allows r x = false then { r with spoilt := .ref } else if tooDeep r x = true then { r with spoilt := .deep } else feed (acc r x) xs
section
variable {hp : List O} {i : Nat} {r : Rd} {R : S → List O → Prop} {Xp : MX}
/-- a list that is not the reader -/
def Off (hp : List O) (i : Nat) (s : S) (ds : List D) : Prop := ∃ v, ∀ g, walkO (hp.set i g) s = some (v, ds) ∧ still v ds (hp.set i g)
theorem Off.d {ds : List D} : Off hp i (.d (.lst ds)) ds := ⟨none, fun g => ⟨by simp [items], trivial⟩⟩
theorem Off.mu {ds : List D} {m : Nat} (h : hp[m]? = some (.lst ds)) (ne : m ≠ i) : Off hp i (.mu m) ds := ⟨some (.mu m), fun g => by
  have e : (hp.set i g)[m]? = some (.lst ds) := by rw [List.getElem?_set_ne (Ne.symm ne)]; exact h
  exact ⟨by simp [e], e⟩⟩
theorem allow_dg (k : ROk r) : r.stage = .digit_ → (0 ≤ r.dread ∧ r.dread < r.dall ∧ r.dall ≤ 4) ∧ (0 ≤ r.lsf ∧ r.lsf < 2 ^ 40) := fun hs => by
  obtain ⟨d1, d2, d3, d4, d5⟩ := k.dg hs
  refine ⟨⟨d1, d2, d3⟩, d4, ?_⟩
  have h4 : r.dread.toNat = 0 ∨ r.dread.toNat = 1 ∨ r.dread.toNat = 2 ∨ r.dread.toNat = 3 := by omega
  rcases h4 with h4 | h4 | h4 | h4 <;> rw [h4] at d5 <;> omega
theorem head_ch (k : ROk r) : r.stage = .chain_ → ∃ f l, r.head = f :: l ∧ 0 ≤ f ∧ f ≤ 255 := fun hs => by
  obtain ⟨f, f0, f1, _, hh⟩ := k.hd hs
  rcases hh with hh | ⟨h, _, _, hh⟩
  · exact ⟨f, [], hh, f0, f1⟩
  · exact ⟨f, [h], hh, f0, f1⟩
theorem sp_push_r {xs : List Int} {s : S} {tg : Tg (m_ItemReader_push, R, Xp)} (h : Has hp i r) (hs : Off hp i s (iL xs)) (k : ROk r) (hno : r.spoilt = .no) (hb : Bd 0 255 xs) (hpl : r.place + xs.length < 900000)
    (q : ∀ hp', Upd hp i (feed r xs) hp' → match (feed r xs).spoilt with
      | .no => R (.d .non) hp'
      | .ref => Xp ⟨"Refused", [("place", .int (feed r xs).place)]⟩ hp'
      | .deep => Xp ⟨"Deep", [("place", .int (feed r xs).place)]⟩ hp') : mfH m_ItemReader_push hp [.ob i 0, s] R Xp tg := by
  have hi := h.lt
  obtain ⟨v, hv⟩ := hs
  refine mfH_of ?_
  unfold m_ItemReader_push
  have hw0 : walkO hp s = some (v, iL xs) := by
    obtain ⟨gs, ix, z, e⟩ := h
    have := (hv (.reg gs)).1
    rwa [set_same e] at this
  have h0 := h
  obtain ⟨gs, ix, z, e⟩ := h
  have pl0 := k.pl
  simp [-x_seq]
  rw [x_seq]
  simp [-x_seq, e, z.z0]
  refine sp_raise h0 ⟨pl0, by omega⟩ ?_
  rw [hno]
  simp [-x_seq]
  refine seq_cut (fun hp' env' => Upd hp i (feed r xs) hp' ∧ 0 ≤ (feed r xs).place ∧ (feed r xs).place < 900000 ∧ ∃ y, env' = [some (.ob i 0), some s, y]) (fun M hM => ?_) ?_
  · simp [hw0]
    refine forH_ints (xs := xs) (fun l rest hp' env' => ∃ (r' : Rd) (y : Option S), Upd hp i r' hp' ∧ r'.spoilt = .no ∧ ROk r' ∧ feed r' rest = feed r xs ∧ r'.place + rest.length = r.place + xs.length ∧ env' = [some (.ob i 0), some s, y]) ⟨r, _, h0.upd, hno, k, rfl, rfl, rfl⟩ ?_ ?_
    · rintro l x rest _ _ N en ⟨r', y, u, hn', k', ef, ep, rfl⟩ hN
      have hx := hb x (by rw [en]; simp)
      have pl1 := k'.pl
      have h1 := u.has hi
      obtain ⟨gs', ix', z', rfl⟩ := u
      have i1 : ∀ g, (hp.set i (.reg g))[i]? = some (.reg g) := fun g => List.getElem?_set_self hi
      have g0 : ∀ x, (gs'.set 0 x)[0]? = some x := fun x => List.getElem?_set_self (lt_of z'.z0)
      have lr : ((x :: rest).length : Int) = rest.length + 1 := by simp
      simp only [feed] at ef
      simp [-x_seq]
      rw [x_seq]
      simp [-x_seq, i1, z'.z0]
      refine sp_allows h1 hx (allow_dg k') ?_
      simp [-x_seq]
      cases al : allows r' x
      · rw [if_pos al] at ef
        have z3 := z'.fld (r' := { r' with spoilt := .ref }) rfl rfl rfl
        simp [i1, z'.z0, g0, sq_no]
        rw [← ef] at hM
        exact hM _ _ ⟨upd_set z3, by show 0 ≤ r'.place; omega, by show r'.place < 900000; omega, _, rfl⟩
      · rw [if_neg (by rw [al]; simp)] at ef
        simp [-x_seq, i1, z'.z0]
        refine sp_too_deep h1 hx (head_ch k') ?_
        simp [-x_seq]
        cases td : tooDeep r' x
        · rw [if_neg (by rw [td]; simp)] at ef
          simp [i1, z'.z0, g0, hn', sq_no]
          refine sp_accept_octet h1 hx k' (by omega) al fun hp2 u2 => ?_
          obtain ⟨a1, a2, _⟩ := acc_place (r := r') (x := x)
          exact hN _ _ (by obtain ⟨_, _, _, rfl⟩ := u2; rw [List.set_set]; exact (hv _).2) ⟨acc r' x, _, (upd_set z').trans u2, by rw [a2, hn'], acc_ok k' hx al td, ef, by rw [a1]; omega, rfl⟩
        · rw [if_pos td] at ef
          have z3 := z'.fld (r' := { r' with spoilt := .deep }) rfl rfl rfl
          simp [i1, z'.z0, g0, sq_no]
          rw [← ef] at hM
          exact hM _ _ ⟨upd_set z3, by show 0 ≤ r'.place; omega, by show r'.place < 900000; omega, _, rfl⟩
    · rintro _ _ ⟨r', y, u, hn', k', ef, ep, rfl⟩
      simp only [feed] at ef
      subst ef
      exact hM _ _ ⟨u, k'.pl, by simp at ep; omega, _, rfl⟩
  rintro _ _ ⟨u, p0, p1, y, rfl⟩
  have h2 := u.has hi
  have q2 := q _ u
  obtain ⟨gs2, ix2, z2, rfl⟩ := u
  simp [List.getElem?_set_self hi, z2.z0]
  refine sp_raise h2 ⟨p0, by omega⟩ ?_
  cases hsp : (feed r xs).spoilt
  all_goals
    rw [hsp] at q2
    simp
    exact q2
theorem sp_finish {tg : Tg (m_ItemReader_finish, R, Xp)} (h : Has hp i r) (p0 : 0 ≤ r.place) (p1 : r.place < 900000)
    (q : match r.spoilt with
      | .ref => Xp ⟨"Refused", [("place", .int r.place)]⟩ hp
      | .deep => Xp ⟨"Deep", [("place", .int r.place)]⟩ hp
      | .no => if r.stage = .end_ then R (.d r.whole) hp else Xp ⟨"Ended", [("place", .int r.place)]⟩ hp) : mfH m_ItemReader_finish hp [.ob i 0] R Xp tg := by
  have h0 := h
  obtain ⟨gs, ix, z, e⟩ := h
  refine mfH_of ?_
  unfold m_ItemReader_finish
  simp [-x_seq]
  rw [x_seq]
  simp [-x_seq, e, z.z0]
  refine sp_raise h0 ⟨p0, by omega⟩ ?_
  cases hsp : r.spoilt with
  | ref => rw [hsp] at q; simp; exact q
  | deep => rw [hsp] at q; simp; exact q
  | no =>
    rw [hsp] at q
    obtain ⟨p, hp0⟩ := Int.eq_ofNat_of_zero_le p0
    have hl := lg (z := p) (by omega)
    by_cases c : r.stage = .end_
    · simp only [if_pos c] at q
      obtain ⟨s1, s2, s3, s4, s5, s6⟩ := stg_end c
      simp [e, z.z0, s6]
      exact q
    · simp only [if_neg c] at q
      have s6 : (r.stage.s == Str.ofString "end") = false := by rw [sg_end]; simpa using c
      rw [hp0] at q
      simp [e, z.z0, s6, hp0]
      exact ⟨hl, q⟩
def rd0 (b : Bool) : Rd := ⟨b, 0, .no, .item_, [], [], 0, .non, false, 0, 0, 0, [], 0, .non⟩
theorem rd0_ok {b : Bool} : ROk (rd0 b) := .of (by show (0 : Int) ≤ 0; omega) (fun o ho => by cases ho) (by show ((0 : Nat) : Int) ≤ 0; omega) (by show (0 : Nat) ≤ 20; omega) (.inl rfl)
/-- what read_item gives -/
inductive Rr where
  | told (d : D) | ref (p : Int) | deep (p : Int) | ended (p : Int)
def outc (r : Rd) : Rr := match r.spoilt with
  | .ref => .ref r.place
  | .deep => .deep r.place
  | .no => if r.stage = .end_ then .told r.whole else .ended r.place
def readI (b : Bool) (xs : List Int) : Rr := outc (feed (rd0 b) xs)
def RrK (R : S → List O → Prop) (Xp : MX) (hp : List O) : Rr → Prop
  | .told d => R (.d d) hp
  | .ref p => Xp ⟨"Refused", [("place", .int p)]⟩ hp
  | .deep p => Xp ⟨"Deep", [("place", .int p)]⟩ hp
  | .ended p => Xp ⟨"Ended", [("place", .int p)]⟩ hp
theorem feed_place : ∀ (xs : List Int) (r : Rd), 0 ≤ r.place → 0 ≤ (feed r xs).place ∧ (feed r xs).place ≤ r.place + xs.length
  | [], r, h => by simp [feed]; exact h
  | x :: xs, r, h => by
    simp only [feed]
    split
    · simp; omega
    · split
      · simp; omega
      · obtain ⟨a1, _, _⟩ := acc_place (r := r) (x := x)
        have := feed_place xs (acc r x) (by omega)
        simp
        omega
end
end Pl

set_option Elab.async false
set_option linter.all false
set_option maxRecDepth 100000
set_option maxHeartbeats 1000000
/-! Pi9: a reader is made; read_item (printed by tools/pi9.py). -/
namespace Pl
open PySem PySem.Spec PyProof.Rows L2 Mp
section
variable {hp : List O} {i : Nat} {r : Rd} {R : S → List O → Prop} {Xp : MX}
theorem absorb_new2 {gs : List Gn} {ds : List D} : absorb (hp ++ [.reg gs, .gone, .lst ds]) hp.length (.mu (hp.length + 2)) = some (hp ++ [.reg (gs ++ [.lst (ds.map .d)]), .gone, .gone], .nd gs.length) := by
  have e1 : (hp ++ [O.reg gs, .gone, .lst ds])[hp.length + 2]? = some (.lst ds) := by
    rw [List.getElem?_append_right (by omega), show hp.length + 2 - hp.length = 2 by omega]
    rfl
  rw [absorb_mu (gs := gs) (gs' := [.lst (ds.map .d)]) (by rw [at_len]; rfl) (by rw [e1]; rfl) (by omega), set_len]
  have e2 : (hp ++ [O.reg (gs ++ List.map (shG gs.length) [Gn.lst (List.map Nd.d ds)]), .gone, O.lst ds]).set (hp.length + 2) .gone = hp ++ [.reg (gs ++ [.lst (ds.map .d)]), .gone, .gone] := by
    rw [List.set_append, if_neg (by omega), show hp.length + 2 - hp.length = 2 by omega]
    simp [shG, shN, Function.comp_def]
  rw [e2]
theorem absorb_new3 {gs : List Gn} {ds : List D} : absorb (hp ++ [.reg gs, .gone, .gone, .lst ds]) hp.length (.mu (hp.length + 3)) = some (hp ++ [.reg (gs ++ [.lst (ds.map .d)]), .gone, .gone, .gone], .nd gs.length) := by
  have e1 : (hp ++ [O.reg gs, .gone, .gone, .lst ds])[hp.length + 3]? = some (.lst ds) := by
    rw [List.getElem?_append_right (by omega), show hp.length + 3 - hp.length = 3 by omega]
    rfl
  rw [absorb_mu (gs := gs) (gs' := [.lst (ds.map .d)]) (by rw [at_len]; rfl) (by rw [e1]; rfl) (by omega), set_len]
  have e2 : (hp ++ [O.reg (gs ++ List.map (shG gs.length) [Gn.lst (List.map Nd.d ds)]), .gone, .gone, O.lst ds]).set (hp.length + 3) .gone = hp ++ [.reg (gs ++ [.lst (ds.map .d)]), .gone, .gone, .gone] := by
    rw [List.set_append, if_neg (by omega), show hp.length + 3 - hp.length = 3 by omega]
    simp [shG, shN, Function.comp_def]
  rw [e2]
theorem take_four {τ : Type} {hp : List τ} {a b c d : τ} : (hp ++ [a, b, c, d]).take (hp.length + 1) = hp ++ [a] := by
  rw [show hp ++ [a, b, c, d] = (hp ++ [a]) ++ [b, c, d] by simp, List.take_left' (by simp)]
theorem ini1 : ∀ x1 : Nd, putNd (Str.ofString "only_strict") x1 [] = [(Str.ofString "only_strict", x1)] := fun _ => rfl
theorem ini2 : ∀ x1 x2 : Nd, putNd (Str.ofString "place") x2 [(Str.ofString "only_strict", x1)] = [(Str.ofString "only_strict", x1), (Str.ofString "place", x2)] := fun _ _ => rfl
theorem ini3 : ∀ x1 x2 x3 : Nd, putNd (Str.ofString "spoilt_by") x3 [(Str.ofString "only_strict", x1), (Str.ofString "place", x2)] = [(Str.ofString "only_strict", x1), (Str.ofString "place", x2), (Str.ofString "spoilt_by", x3)] := fun _ _ _ => rfl
theorem ini4 : ∀ x1 x2 x3 x4 : Nd, putNd (Str.ofString "stage") x4 [(Str.ofString "only_strict", x1), (Str.ofString "place", x2), (Str.ofString "spoilt_by", x3)] = [(Str.ofString "only_strict", x1), (Str.ofString "place", x2), (Str.ofString "spoilt_by", x3), (Str.ofString "stage", x4)] := fun _ _ _ _ => rfl
theorem ini5 : ∀ x1 x2 x3 x4 x5 : Nd, putNd (Str.ofString "open_items") x5 [(Str.ofString "only_strict", x1), (Str.ofString "place", x2), (Str.ofString "spoilt_by", x3), (Str.ofString "stage", x4)] = [(Str.ofString "only_strict", x1), (Str.ofString "place", x2), (Str.ofString "spoilt_by", x3), (Str.ofString "stage", x4), (Str.ofString "open_items", x5)] := fun _ _ _ _ _ => rfl
theorem ini6 : ∀ x1 x2 x3 x4 x5 x6 : Nd, putNd (Str.ofString "head_octets") x6 [(Str.ofString "only_strict", x1), (Str.ofString "place", x2), (Str.ofString "spoilt_by", x3), (Str.ofString "stage", x4), (Str.ofString "open_items", x5)] = [(Str.ofString "only_strict", x1), (Str.ofString "place", x2), (Str.ofString "spoilt_by", x3), (Str.ofString "stage", x4), (Str.ofString "open_items", x5), (Str.ofString "head_octets", x6)] := fun _ _ _ _ _ _ => rfl
theorem ini7 : ∀ x1 x2 x3 x4 x5 x6 x7 : Nd, putNd (Str.ofString "head_place") x7 [(Str.ofString "only_strict", x1), (Str.ofString "place", x2), (Str.ofString "spoilt_by", x3), (Str.ofString "stage", x4), (Str.ofString "open_items", x5), (Str.ofString "head_octets", x6)] = [(Str.ofString "only_strict", x1), (Str.ofString "place", x2), (Str.ofString "spoilt_by", x3), (Str.ofString "stage", x4), (Str.ofString "open_items", x5), (Str.ofString "head_octets", x6), (Str.ofString "head_place", x7)] := fun _ _ _ _ _ _ _ => rfl
theorem ini8 : ∀ x1 x2 x3 x4 x5 x6 x7 x8 : Nd, putNd (Str.ofString "head_tag") x8 [(Str.ofString "only_strict", x1), (Str.ofString "place", x2), (Str.ofString "spoilt_by", x3), (Str.ofString "stage", x4), (Str.ofString "open_items", x5), (Str.ofString "head_octets", x6), (Str.ofString "head_place", x7)] = [(Str.ofString "only_strict", x1), (Str.ofString "place", x2), (Str.ofString "spoilt_by", x3), (Str.ofString "stage", x4), (Str.ofString "open_items", x5), (Str.ofString "head_octets", x6), (Str.ofString "head_place", x7), (Str.ofString "head_tag", x8)] := fun _ _ _ _ _ _ _ _ => rfl
theorem ini9 : ∀ x1 x2 x3 x4 x5 x6 x7 x8 x9 : Nd, putNd (Str.ofString "head_built") x9 [(Str.ofString "only_strict", x1), (Str.ofString "place", x2), (Str.ofString "spoilt_by", x3), (Str.ofString "stage", x4), (Str.ofString "open_items", x5), (Str.ofString "head_octets", x6), (Str.ofString "head_place", x7), (Str.ofString "head_tag", x8)] = [(Str.ofString "only_strict", x1), (Str.ofString "place", x2), (Str.ofString "spoilt_by", x3), (Str.ofString "stage", x4), (Str.ofString "open_items", x5), (Str.ofString "head_octets", x6), (Str.ofString "head_place", x7), (Str.ofString "head_tag", x8), (Str.ofString "head_built", x9)] := fun _ _ _ _ _ _ _ _ _ => rfl
theorem ini10 : ∀ x1 x2 x3 x4 x5 x6 x7 x8 x9 x10 : Nd, putNd (Str.ofString "length_so_far") x10 [(Str.ofString "only_strict", x1), (Str.ofString "place", x2), (Str.ofString "spoilt_by", x3), (Str.ofString "stage", x4), (Str.ofString "open_items", x5), (Str.ofString "head_octets", x6), (Str.ofString "head_place", x7), (Str.ofString "head_tag", x8), (Str.ofString "head_built", x9)] = [(Str.ofString "only_strict", x1), (Str.ofString "place", x2), (Str.ofString "spoilt_by", x3), (Str.ofString "stage", x4), (Str.ofString "open_items", x5), (Str.ofString "head_octets", x6), (Str.ofString "head_place", x7), (Str.ofString "head_tag", x8), (Str.ofString "head_built", x9), (Str.ofString "length_so_far", x10)] := fun _ _ _ _ _ _ _ _ _ _ => rfl
theorem ini11 : ∀ x1 x2 x3 x4 x5 x6 x7 x8 x9 x10 x11 : Nd, putNd (Str.ofString "digits_all") x11 [(Str.ofString "only_strict", x1), (Str.ofString "place", x2), (Str.ofString "spoilt_by", x3), (Str.ofString "stage", x4), (Str.ofString "open_items", x5), (Str.ofString "head_octets", x6), (Str.ofString "head_place", x7), (Str.ofString "head_tag", x8), (Str.ofString "head_built", x9), (Str.ofString "length_so_far", x10)] = [(Str.ofString "only_strict", x1), (Str.ofString "place", x2), (Str.ofString "spoilt_by", x3), (Str.ofString "stage", x4), (Str.ofString "open_items", x5), (Str.ofString "head_octets", x6), (Str.ofString "head_place", x7), (Str.ofString "head_tag", x8), (Str.ofString "head_built", x9), (Str.ofString "length_so_far", x10), (Str.ofString "digits_all", x11)] := fun _ _ _ _ _ _ _ _ _ _ _ => rfl
theorem ini12 : ∀ x1 x2 x3 x4 x5 x6 x7 x8 x9 x10 x11 x12 : Nd, putNd (Str.ofString "digits_read") x12 [(Str.ofString "only_strict", x1), (Str.ofString "place", x2), (Str.ofString "spoilt_by", x3), (Str.ofString "stage", x4), (Str.ofString "open_items", x5), (Str.ofString "head_octets", x6), (Str.ofString "head_place", x7), (Str.ofString "head_tag", x8), (Str.ofString "head_built", x9), (Str.ofString "length_so_far", x10), (Str.ofString "digits_all", x11)] = [(Str.ofString "only_strict", x1), (Str.ofString "place", x2), (Str.ofString "spoilt_by", x3), (Str.ofString "stage", x4), (Str.ofString "open_items", x5), (Str.ofString "head_octets", x6), (Str.ofString "head_place", x7), (Str.ofString "head_tag", x8), (Str.ofString "head_built", x9), (Str.ofString "length_so_far", x10), (Str.ofString "digits_all", x11), (Str.ofString "digits_read", x12)] := fun _ _ _ _ _ _ _ _ _ _ _ _ => rfl
theorem ini13 : ∀ x1 x2 x3 x4 x5 x6 x7 x8 x9 x10 x11 x12 x13 : Nd, putNd (Str.ofString "content_so_far") x13 [(Str.ofString "only_strict", x1), (Str.ofString "place", x2), (Str.ofString "spoilt_by", x3), (Str.ofString "stage", x4), (Str.ofString "open_items", x5), (Str.ofString "head_octets", x6), (Str.ofString "head_place", x7), (Str.ofString "head_tag", x8), (Str.ofString "head_built", x9), (Str.ofString "length_so_far", x10), (Str.ofString "digits_all", x11), (Str.ofString "digits_read", x12)] = [(Str.ofString "only_strict", x1), (Str.ofString "place", x2), (Str.ofString "spoilt_by", x3), (Str.ofString "stage", x4), (Str.ofString "open_items", x5), (Str.ofString "head_octets", x6), (Str.ofString "head_place", x7), (Str.ofString "head_tag", x8), (Str.ofString "head_built", x9), (Str.ofString "length_so_far", x10), (Str.ofString "digits_all", x11), (Str.ofString "digits_read", x12), (Str.ofString "content_so_far", x13)] := fun _ _ _ _ _ _ _ _ _ _ _ _ _ => rfl
theorem ini14 : ∀ x1 x2 x3 x4 x5 x6 x7 x8 x9 x10 x11 x12 x13 x14 : Nd, putNd (Str.ofString "content_due") x14 [(Str.ofString "only_strict", x1), (Str.ofString "place", x2), (Str.ofString "spoilt_by", x3), (Str.ofString "stage", x4), (Str.ofString "open_items", x5), (Str.ofString "head_octets", x6), (Str.ofString "head_place", x7), (Str.ofString "head_tag", x8), (Str.ofString "head_built", x9), (Str.ofString "length_so_far", x10), (Str.ofString "digits_all", x11), (Str.ofString "digits_read", x12), (Str.ofString "content_so_far", x13)] = [(Str.ofString "only_strict", x1), (Str.ofString "place", x2), (Str.ofString "spoilt_by", x3), (Str.ofString "stage", x4), (Str.ofString "open_items", x5), (Str.ofString "head_octets", x6), (Str.ofString "head_place", x7), (Str.ofString "head_tag", x8), (Str.ofString "head_built", x9), (Str.ofString "length_so_far", x10), (Str.ofString "digits_all", x11), (Str.ofString "digits_read", x12), (Str.ofString "content_so_far", x13), (Str.ofString "content_due", x14)] := fun _ _ _ _ _ _ _ _ _ _ _ _ _ _ => rfl
theorem ini15 : ∀ x1 x2 x3 x4 x5 x6 x7 x8 x9 x10 x11 x12 x13 x14 x15 : Nd, putNd (Str.ofString "whole_item") x15 [(Str.ofString "only_strict", x1), (Str.ofString "place", x2), (Str.ofString "spoilt_by", x3), (Str.ofString "stage", x4), (Str.ofString "open_items", x5), (Str.ofString "head_octets", x6), (Str.ofString "head_place", x7), (Str.ofString "head_tag", x8), (Str.ofString "head_built", x9), (Str.ofString "length_so_far", x10), (Str.ofString "digits_all", x11), (Str.ofString "digits_read", x12), (Str.ofString "content_so_far", x13), (Str.ofString "content_due", x14)] = [(Str.ofString "only_strict", x1), (Str.ofString "place", x2), (Str.ofString "spoilt_by", x3), (Str.ofString "stage", x4), (Str.ofString "open_items", x5), (Str.ofString "head_octets", x6), (Str.ofString "head_place", x7), (Str.ofString "head_tag", x8), (Str.ofString "head_built", x9), (Str.ofString "length_so_far", x10), (Str.ofString "digits_all", x11), (Str.ofString "digits_read", x12), (Str.ofString "content_so_far", x13), (Str.ofString "content_due", x14), (Str.ofString "whole_item", x15)] := fun _ _ _ _ _ _ _ _ _ _ _ _ _ _ _ => rfl
theorem sp_reader_init {b : Bool} {tg : Tg (m_ItemReader___init__, R, Xp)} (q : R (.d .non) (hp ++ [.reg [.ins "ItemReader" (flds (rd0 b) ⟨1, 2, 3, []⟩), .lst [], .lst [], .lst []]])) : mfH m_ItemReader___init__ (hp ++ [.reg [.ins "ItemReader" []]]) [.ob hp.length 0, .d (.bl b)] R Xp tg := by
  refine mfH_of ?_
  unfold m_ItemReader___init__
  simp [ini1, ini2, ini3, ini4, ini5, ini6, ini7, ini8, ini9, ini10, ini11, ini12, ini13, ini14, ini15, absorb_new, absorb_new2, absorb_new3]
  rw [take_four]
  exact q
theorem rd0_R {b : Bool} : RdR [Gn.ins "ItemReader" (flds (rd0 b) ⟨1, 2, 3, []⟩), .lst [], .lst [], .lst []] ⟨1, 2, 3, []⟩ (rd0 b) := ⟨rfl, rfl, rfl, rfl, trivial, by decide⟩
theorem sp_read_item {b : Bool} {xs : List Int} {s : S} {tg : Tg (m_read_item, R, Xp)} (hv : val hp s = some (.lst (iL xs))) (hb : Bd 0 255 xs) (hl : xs.length < 800000) (q : RrK R Xp hp (readI b xs)) : mfH m_read_item hp [s, .d (.bl b)] R Xp tg := by
  refine mfH_of ?_
  unfold m_read_item
  simp [-x_seq]
  rw [x_seq]
  simp [-x_seq]
  refine sp_reader_init ?_
  simp [-x_seq]
  have H : Has (hp ++ [O.reg [Gn.ins "ItemReader" (flds (rd0 b) ⟨1, 2, 3, []⟩), .lst [], .lst [], .lst []]]) hp.length (rd0 b) := ⟨_, _, rd0_R, at_new⟩
  have hi := H.lt
  obtain ⟨v, hw⟩ := walkO_app hv
  have off : Off (hp ++ [O.reg [Gn.ins "ItemReader" (flds (rd0 b) ⟨1, 2, 3, []⟩), .lst [], .lst [], .lst []]]) hp.length s (iL xs) := ⟨v, fun g => by rw [set_len]; exact hw _⟩
  have p0 : (0 : Int) ≤ (rd0 b).place := by show (0 : Int) ≤ 0; omega
  have p1 : (rd0 b).place + xs.length < 900000 := by show (0 : Int) + _ < _; omega
  have fp := feed_place xs (rd0 b) p0
  simp only [readI, outc] at q
  rw [x_seq]
  simp [-x_seq]
  refine sp_push_r H off rd0_ok rfl hb p1 fun hp' u => ?_
  cases hsp : (feed (rd0 b) xs).spoilt with
  | ref =>
    rw [hsp] at q
    obtain ⟨gs, ix, z, rfl⟩ := u
    simp
    exact q
  | deep =>
    rw [hsp] at q
    obtain ⟨gs, ix, z, rfl⟩ := u
    simp
    exact q
  | no =>
    rw [hsp] at q
    have h2 := u.has hi
    obtain ⟨gs, ix, z, rfl⟩ := u
    rw [set_len] at h2
    simp [z.z0]
    refine sp_finish h2 fp.1 (by omega) ?_
    rw [hsp]
    by_cases c : (feed (rd0 b) xs).stage = .end_
    · simp only [if_pos c] at q ⊢
      simp
      exact q
    · simp only [if_neg c] at q ⊢
      simp
      exact q
end
end Pl

set_option Elab.async false
set_option linter.all false
set_option maxRecDepth 100000
set_option maxHeartbeats 400000
/-! Pj1: plans of items, their octets, their trees; runs of the reader. -/
namespace Pl
open PySem PySem.Spec PyProof.Rows L2 Mp
/-- an item as the laws draw it -/
inductive Plan where
  | pl (p v : Int) (c : List Int) (f : Nat)
  | bu (p v : Int) (ps : List Plan) (f : Nat)
mutual
def planD : Plan → D
  | .pl p v c f => .tup [.str "plain", .tup [.int p, .int v], .tup (iL c), .int f]
  | .bu p v ps f => .tup [.str "built", .tup [.int p, .int v], .tup (planDL ps), .int f]
def planDL : List Plan → List D
  | [] => []
  | x :: xs => planD x :: planDL xs
end
mutual
def dep : Plan → Nat
  | .pl _ _ _ _ => 0
  | .bu _ _ ps _ => depL ps + 1
def depL : List Plan → Nat
  | [] => 0
  | x :: xs => max (dep x) (depL xs)
end
def TagOk (p v : Int) : Prop := 0 ≤ p ∧ p ≤ 3 ∧ 0 ≤ v ∧ v ≤ 16383 ∧ ¬ (p = 0 ∧ v = 0)
mutual
def planOk : Plan → Prop
  | .pl p v c f => TagOk p v ∧ Bd 0 255 c ∧ c.length ≤ 65535 ∧ f ≤ 4
  | .bu p v ps f => TagOk p v ∧ planOkL ps ∧ f ≤ 5
def planOkL : List Plan → Prop
  | [] => True
  | x :: xs => planOk x ∧ planOkL xs
end
def idn (p v : Int) (b : Bool) : List Int := if v ≤ 30 then [p * 64 + (if b then 32 else 0) + v] else (p * 64 + (if b then 32 else 0) + 31) :: (if v < 128 then [v] else [128 + v / 128, v % 128])
/-- the lowest k digits, base 256 -/
def dgs : Nat → Int → List Int
  | 0, _ => []
  | k + 1, l => dgs k (l / 256) ++ [l % 256]
def least (l : Int) : List Int := if l < 128 then [l] else if l < 256 then [129, l] else [130, l / 256, l % 256]
def lenRow (l : Int) (f : Nat) : List Int := if 0 < f ∧ l < 256 ^ f then (128 + (f : Int)) :: dgs f l else least l
mutual
def octs : Plan → List Int
  | .pl p v c f => idn p v false ++ lenRow c.length f ++ c
  | .bu p v ps f => if f = 0 ∨ 65535 < (octsL ps).length then idn p v true ++ [128] ++ octsL ps ++ [0] else idn p v true ++ lenRow (octsL ps).length (f - 1) ++ octsL ps
def octsL : List Plan → List Int
  | [] => []
  | x :: xs => octs x ++ octsL xs
end
/-- where the contents begin, at q -/
def hdLen : Plan → Nat
  | .pl p v c f => (idn p v false).length + (lenRow c.length f).length
  | .bu p v ps f => if f = 0 ∨ 65535 < (octsL ps).length then (idn p v true).length + 1 else (idn p v true).length + (lenRow (octsL ps).length (f - 1)).length
mutual
def tree : Plan → Int → D
  | .pl p v c f, q => .tup [.str "plain", .tup [.int p, .int v], .tup (iL c), .int q, .int (q + (octs (.pl p v c f)).length)]
  | .bu p v ps f, q => .tup [.str "built", .tup [.int p, .int v], .tup (treeL ps (q + hdLen (.bu p v ps f))), .int q, .int (q + (octs (.bu p v ps f)).length)]
def treeL : List Plan → Int → List D
  | [], _ => []
  | x :: xs, q => tree x q :: treeL xs (q + (octs x).length)
end
/-- all octets are taken -/
def runs : Rd → List Int → Rd → Prop
  | r, [], r' => r' = r
  | r, x :: xs, r' => allows r x = true ∧ tooDeep r x = false ∧ runs (acc r x) xs r'
theorem runs_app : ∀ {xs ys : List Int} {r r1 r2 : Rd}, runs r xs r1 → runs r1 ys r2 → runs r (xs ++ ys) r2
  | [], _, _, _, _, h, g => by cases h; exact g
  | x :: xs, _, _, _, _, ⟨h1, h2, h3⟩, g => ⟨h1, h2, runs_app h3 g⟩
theorem runs_feed : ∀ {xs ys : List Int} {r r1 : Rd}, runs r xs r1 → feed r (xs ++ ys) = feed r1 ys
  | [], _, _, _, h => by cases h; rfl
  | x :: xs, ys, r, _, ⟨h1, h2, h3⟩ => by
    show feed r (x :: (xs ++ ys)) = _
    simp only [feed]
    rw [if_neg (by rw [h1]; simp), if_neg (by rw [h2]; simp)]
    exact runs_feed h3
theorem runs_one {r : Rd} {x : Int} (h1 : allows r x = true) (h2 : tooDeep r x = false) : runs r [x] (acc r x) := ⟨h1, h2, rfl⟩
theorem runs_pre : ∀ {xs ys : List Int} {r r2 : Rd}, runs r (xs ++ ys) r2 → ∃ r1, runs r xs r1 ∧ runs r1 ys r2
  | [], _, r, _, h => ⟨r, rfl, h⟩
  | x :: xs, _, _, _, ⟨h1, h2, h3⟩ => by
    obtain ⟨r1, a, b⟩ := runs_pre h3
    exact ⟨r1, ⟨h1, h2, a⟩, b⟩
theorem runs_place : ∀ {xs : List Int} {r r1 : Rd}, runs r xs r1 → r1.place = r.place + xs.length ∧ r1.spoilt = r.spoilt ∧ r1.strict = r.strict
  | [], _, _, h => by cases h; simp
  | x :: xs, r, _, ⟨_, _, h3⟩ => by
    obtain ⟨a1, a2, a3⟩ := acc_place (r := r) (x := x)
    obtain ⟨b1, b2, b3⟩ := runs_place h3
    exact ⟨by rw [b1, a1]; simp; omega, b2.trans a2, b3.trans a3⟩
/-- a proper part does not end -/
theorem runs_not_end {xs ys : List Int} {r r1 r2 : Rd} (h : runs r (xs ++ ys) r2) (hx : runs r xs r1) (hy : ys ≠ []) : r1.stage ≠ .end_ := by
  obtain ⟨r1', a, b⟩ := runs_pre h
  have e : ∀ {xs : List Int} {r a b : Rd}, runs r xs a → runs r xs b → a = b := by
    intro xs
    induction xs with
    | nil => intro r a b h g; cases h; cases g; rfl
    | cons x xs ih => intro r a b h g; exact ih h.2.2 g.2.2
  have := e a hx
  subst this
  cases ys with
  | nil => exact absurd rfl hy
  | cons y ys =>
    intro hs
    have := b.1
    simp [allows, hs] at this
/-! ### fitting -/
def Fit (m : Option Int) (n : Int) : Prop := ∀ x, m = some x → n = x ∨ n + 2 ≤ x
theorem lenFills_ok {m : Option Int} {number l : Int} {k : Nat} {b : Bool} (h0 : 0 ≤ number * 2 ^ (8 * k)) (h1 : number * 2 ^ (8 * k) ≤ l) (h2 : l < number * 2 ^ (8 * k) + 2 ^ (8 * k)) (hl : l ≤ 65535) (hf : Fit (m.map (· - k)) l) (hb : b = true → l ≠ 1) : lenFills m number k b = true := by
  unfold lenFills
  rw [if_neg (by omega)]
  generalize number * 2 ^ (8 * k) = low at *
  have hp : (1 : Int) ≤ 2 ^ (8 * k) := Int.pow_pos (by omega)
  have hr : k = 0 ∨ (256 : Int) ≤ 2 ^ (8 * k) := by
    cases k with
    | zero => exact .inl rfl
    | succ k =>
      right
      rw [show 8 * (k + 1) = 8 + 8 * k by omega, Int.pow_add]
      have : (1 : Int) ≤ 2 ^ (8 * k) := Int.pow_pos (by omega)
      omega
  have hk1 : k = 0 → (2 : Int) ^ (8 * k) = 1 := fun e => by subst e; rfl
  generalize (2 : Int) ^ (8 * k) = T at *
  have hh : l ≤ (if 65535 < low + T - 1 then 65535 else low + T - 1) := by split <;> omega
  have h1' : b = true → (if 65535 < low + T - 1 then 65535 else low + T - 1) ≠ 1 := fun e => by
    have := hb e
    rcases hr with hr | hr
    · have := hk1 hr
      split <;> omega
    · split <;> omega
  generalize (if 65535 < low + T - 1 then 65535 else low + T - 1) = high at *
  unfold fillsB
  rw [if_neg (fun e => h1' e.1 e.2)]
  cases hm : m.map (· - (k : Int)) with
  | none => rfl
  | some x =>
    simp only [fillsM]
    rcases hf x hm with e | e
    · subst e
      by_cases c : low ≤ l - 2
      · simp [c]
      · have c2 : ¬ (b = true ∧ l = 1) := fun e => hb e.1 e.2
        have c3 : low ≤ l ∧ l ≤ high := ⟨h1, hh⟩
        cases b
        · simp [c3]
        · have c4 : l ≠ 1 := hb rfl
          simp [c3, c4]
    · have c : low ≤ x - 2 := by omega
      simp [c]
end Pl

set_option Elab.async false
set_option linter.all false
set_option maxRecDepth 100000
set_option maxHeartbeats 400000
/-! Pj2: identifiers, lengths, contents are taken. -/
namespace Pl
open PySem PySem.Spec PyProof.Rows L2 Mp
structure At (r : Rd) (os : List Op) (q : Int) (b : Bool) : Prop where
  st : r.stage = .item_
  op : r.opens = os
  pl : r.place = q
  sr : r.strict = b
structure Hd (r : Rd) (os : List Op) (q1 q : Int) (b bb : Bool) (t : D) : Prop where
  st : r.stage = .length_
  op : r.opens = os
  pl : r.place = q1
  hp : r.hplace = q
  ht : r.htag = t
  hb : r.hbuilt = bb
  sr : r.strict = b
def rm (os : List Op) (q : Int) : Option Int := match os with
  | [] => none
  | o :: _ => o.room.map (· - q)
theorem room_rm {r : Rd} : room r = rm r.opens r.place := rfl
theorem rm_add {os : List Op} {q d : Int} : rm os (q + d) = (rm os q).map (· - d) := by
  cases os with
  | nil => rfl
  | cons o os =>
    simp only [rm, Option.map_map]
    cases o.room with
    | none => rfl
    | some m => simp; omega
def Room (m : Option Int) (n : Int) : Prop := ∀ x, m = some x → n ≤ x
theorem Fit.room {m : Option Int} {n k : Int} (h : Fit m n) (hk : k ≤ n) : Room m k := fun x e => by have := h x e; omega
theorem Room.sub {m : Option Int} {n d : Int} (h : Room m n) : Room (m.map (· - d)) (n - d) := fun x e => by
  cases m with
  | none => cases e
  | some y => have := h y rfl; have e' : y - d = x := Option.some.inj e; omega
theorem Fit.sub {m : Option Int} {n d : Int} (h : Fit m n) : Fit (m.map (· - d)) (n - d) := fun x e => by
  cases m with
  | none => cases e
  | some y => have := h y rfl; have e' : y - d = x := Option.some.inj e; omega
theorem begin_room {r : Rd} {x k : Int} (h0 : x ≠ 0) (h32 : x ≠ 32) (hr : Room (room r) k) (hk : (if x % 32 = 31 then 3 else 2) ≤ k) : allowsBegin r x = true := by
  unfold allowsBegin
  rw [if_neg h0, if_neg h32]
  cases hm : room r with
  | none => rfl
  | some m =>
    have := hr m hm
    simp only [decide_eq_true_eq]
    omega
theorem chain_room {r : Rd} {x k : Int} (h1 : ¬ 1 < r.head.length) (hx : 31 ≤ x) (h128 : x ≠ 128) (hr : Room (room r) k) (hk : (if 128 < x then 3 else 2) ≤ k) : allowsChain r x = true := by
  unfold allowsChain
  rw [if_neg h1, if_neg (by omega)]
  cases hm : room r with
  | none => rfl
  | some m =>
    have := hr m hm
    simp only [decide_eq_true_eq]
    omega
theorem endId_told {r : Rd} {p v : Int} {b : Bool} {u : Nat} (ht : rid r.head = .told p v b u) : endId r = { r with htag := .tup [.int p, .int v], hbuilt := b, stage := .length_ } := by simp only [endId, ht]
theorem take_id {r : Rd} {os : List Op} {q p v : Int} {b bb : Bool} (a : At r os q b) (t : TagOk p v) (hr : Room (rm os q) ((idn p v bb).length + 1)) (hd : bb = true → os.length < 20) :
    ∃ r1, runs r (idn p v bb) r1 ∧ Hd r1 os (q + (idn p v bb).length) q b bb (.tup [.int p, .int v]) := by
  obtain ⟨p0, p3, v0, v1, nz⟩ := t
  have hro : Room (room r) ((idn p v bb).length + 1) := by rw [room_rm, a.op, a.pl]; exact hr
  have w0 : (if bb then 32 else 0 : Int) = 0 ∨ (if bb then 32 else 0 : Int) = 32 := by cases bb <;> simp
  have wb : ∀ y : Int, 0 ≤ y → y < 32 → bt (p * 64 + (if bb then 32 else 0) + y) = bb := fun y y0 y1 => by
    unfold bt
    cases bb
    · simp; omega
    · simp; omega
  have td0 : ∀ (r2 : Rd) (x : Int), r2.opens = os → (x / 32 % 2 = 1 → bb = true) → r2.stage = .item_ → tooDeep r2 x = false := fun r2 x e1 e2 e3 => by
    unfold tooDeep
    by_cases c : r2.opens.length < 20
    · rw [if_pos c]
    · rw [if_neg c, e3]
      have : ¬ x / 32 % 2 = 1 := fun e => c (by rw [e1]; exact hd (e2 e))
      simp [this]
  by_cases c : v ≤ 30
  · have ei : idn p v bb = [p * 64 + (if bb then 32 else 0) + v] := by unfold idn; rw [if_pos c]
    rw [ei] at hro ⊢
    have wb2 := wb v v0 (by omega)
    have hx0 : p * 64 + (if bb then 32 else 0 : Int) + v ≠ 0 := by omega
    have hx32 : p * 64 + (if bb then 32 else 0 : Int) + v ≠ 32 := by omega
    have hxm : (p * 64 + (if bb then 32 else 0 : Int) + v) % 32 = v := by omega
    have hxd : (p * 64 + (if bb then 32 else 0 : Int) + v) / 64 = p := by omega
    have hxl : p * 64 + (if bb then 32 else 0 : Int) + v ≤ 255 := by omega
    have hxg : 0 ≤ p * 64 + (if bb then 32 else 0 : Int) + v := by omega
    generalize p * 64 + (if bb then 32 else 0 : Int) + v = x at *
    have al : allows r x = true := by
      simp only [allows, a.st]
      exact begin_room hx0 hx32 hro (by simp; split <;> omega)
    have td := td0 r x a.op (fun e => by have := wb2; unfold bt at this; rw [← this]; simpa using e) a.st
    refine ⟨_, runs_one al td, ?_⟩
    rw [acc_item a.st]
    unfold accBegin
    have ht := rid_one hxg hxl hx0 hx32 (by omega)
    rw [hxm, hxd, wb2] at ht
    rw [if_neg hx0, if_neg (by omega), endId_told (r := { r with place := r.place + 1, head := [x], hplace := r.place + 1 - 1 }) ht]
    exact ⟨rfl, a.op, by simp [a.pl], by show r.place + 1 - 1 = q; have := a.pl; omega, rfl, rfl, a.sr⟩
  · have hx0 : p * 64 + (if bb then 32 else 0 : Int) + 31 ≠ 0 := by omega
    have hx32 : p * 64 + (if bb then 32 else 0 : Int) + 31 ≠ 32 := by omega
    have hxm : (p * 64 + (if bb then 32 else 0 : Int) + 31) % 32 = 31 := by omega
    have hxd : (p * 64 + (if bb then 32 else 0 : Int) + 31) / 64 = p := by omega
    have wb2 := wb 31 (by omega) (by omega)
    have ei : idn p v bb = (p * 64 + (if bb then 32 else 0) + 31) :: (if v < 128 then [v] else [128 + v / 128, v % 128]) := by unfold idn; rw [if_neg c]
    rw [ei] at hro ⊢
    generalize p * 64 + (if bb then 32 else 0 : Int) + 31 = x at *
    have hlen : 3 ≤ ((x :: (if v < 128 then [v] else [128 + v / 128, v % 128])).length : Int) + 1 := by split <;> simp <;> omega
    have al : allows r x = true := by
      simp only [allows, a.st]
      exact begin_room hx0 hx32 hro (by rw [if_pos hxm]; exact hlen)
    have td : tooDeep r x = false := by
      unfold tooDeep
      rw [a.st]
      simp [hxm]
    have e1 : acc r x = { r with place := r.place + 1, head := [x], hplace := r.place + 1 - 1, stage := .chain_ } := by
      rw [acc_item a.st]
      unfold accBegin
      rw [if_neg hx0, if_pos hxm]
    have ro1 : Room (room (acc r x)) ((x :: (if v < 128 then [v] else [128 + v / 128, v % 128])).length) := by
      rw [e1]
      show Room (rm r.opens (r.place + 1)) _
      rw [rm_add]
      have := hro.sub (d := 1)
      rw [room_rm] at this
      simpa using this
    have bx : bb = true ↔ x / 32 % 2 = 1 := by
      unfold bt at wb2
      rw [← wb2]
      simp
    have tdc : ∀ (r2 : Rd) (y : Int) (l : List Int), r2.opens = os → r2.stage = .chain_ → r2.head = x :: l → tooDeep r2 y = false := fun r2 y l h1 h2 h3 => by
      unfold tooDeep
      by_cases c : r2.opens.length < 20
      · rw [if_pos c]
      · rw [if_neg c, h2, h3]
        have : ¬ x / 32 % 2 = 1 := fun e => c (by rw [h1]; exact hd (bx.mpr e))
        simp [this]
    by_cases c2 : v < 128
    · rw [if_pos c2] at ro1 ⊢
      have al2 : allows (acc r x) v = true := by
        rw [e1] at ro1 ⊢
        simp only [allows]
        exact chain_room (by simp) (by omega) (by omega) ro1 (by simp; omega)
      have td2 : tooDeep (acc r x) v = false := tdc _ v [] (by rw [e1]; exact a.op) (by rw [e1]) (by rw [e1])
      refine ⟨_, ⟨al, td, al2, td2, rfl⟩, ?_⟩
      rw [e1, acc_chain rfl, if_pos c2, endId_told (rid_two hxm (by omega) c2), hxd, wb2]
      exact ⟨rfl, a.op, by simp [a.pl]; omega, by show r.place + 1 - 1 = q; have := a.pl; omega, rfl, rfl, a.sr⟩
    · rw [if_neg c2] at ro1 ⊢
      have al2 : allows (acc r x) (128 + v / 128) = true := by
        rw [e1] at ro1 ⊢
        simp only [allows]
        exact chain_room (by simp) (by omega) (by omega) ro1 (by simp; omega)
      have td2 : tooDeep (acc r x) (128 + v / 128) = false := tdc _ _ [] (by rw [e1]; exact a.op) (by rw [e1]) (by rw [e1])
      have e2 : acc (acc r x) (128 + v / 128) = { r with place := r.place + 1 + 1, head := [x, 128 + v / 128], hplace := r.place + 1 - 1, stage := .chain_ } := by
        rw [e1, acc_chain rfl, if_neg (by omega)]
        rfl
      have al3 : allows (acc (acc r x) (128 + v / 128)) (v % 128) = true := by
        rw [e2]
        simp only [allows, allowsChain, List.length_cons, List.length_nil]
        rw [if_pos (by omega)]
        simp
        try omega
      have td3 : tooDeep (acc (acc r x) (128 + v / 128)) (v % 128) = false := tdc _ _ [128 + v / 128] (by rw [e2]; exact a.op) (by rw [e2]) (by rw [e2])
      refine ⟨_, ⟨al, td, al2, td2, al3, td3, rfl⟩, ?_⟩
      rw [e2, acc_chain rfl, if_pos (by omega), endId_told (rid_three (l := v % 128) hxm (by omega) (by omega)), hxd, wb2]
      exact ⟨rfl, a.op, by simp [a.pl]; omega, by show r.place + 1 - 1 = q; have := a.pl; omega, by show D.tup _ = _; rw [show (128 + v / 128 - 128) * 128 + v % 128 = v by omega], rfl, a.sr⟩
end Pl

set_option Elab.async false
set_option linter.all false
set_option maxRecDepth 100000
set_option maxHeartbeats 400000
/-! Pj3: lengths and contents are taken. -/
namespace Pl
open PySem PySem.Spec PyProof.Rows L2 Mp
theorem pow256 (k : Nat) : (2 : Int) ^ (8 * k) = 256 ^ k := by rw [Int.pow_mul]; rfl
theorem dgs_len : ∀ (k : Nat) (l : Int), (dgs k l).length = k
  | 0, _ => rfl
  | k + 1, l => by simp [dgs, dgs_len k]
theorem dgs_cons : ∀ (k : Nat) (l : Int), dgs (k + 1) l = (l / 256 ^ k % 256) :: dgs k l
  | 0, l => by simp [dgs]
  | k + 1, l => by
    show dgs (k + 1) (l / 256) ++ [l % 256] = _
    rw [dgs_cons k (l / 256), Int.ediv_ediv_of_nonneg (by omega), show (256 : Int) * 256 ^ k = 256 ^ (k + 1) by rw [Int.pow_succ, Int.mul_comm]]
    rfl
theorem tooDeep_len {r : Rd} {x : Int} (h : r.stage = .length_ ∨ r.stage = .digit_ ∨ r.stage = .content_) : tooDeep r x = false := by
  unfold tooDeep
  split
  · rfl
  · rcases h with h | h | h <;> rw [h]
/-- what a reader keeps while a length is read -/
structure Ln (r : Rd) (os : List Op) (q1 q : Int) (b bb : Bool) (t : D) : Prop where
  op : r.opens = os
  pl : r.place = q1
  hp : r.hplace = q
  ht : r.htag = t
  hb : r.hbuilt = bb
  sr : r.strict = b
theorem Hd.ln {r : Rd} {os : List Op} {q1 q : Int} {b bb : Bool} {t : D} (h : Hd r os q1 q b bb t) : Ln r os q1 q b bb t := ⟨h.op, h.pl, h.hp, h.ht, h.hb, h.sr⟩
theorem take_digits {os : List Op} {q : Int} {b bb : Bool} {t : D} {l : Int} {w : Nat} (l0 : 0 ≤ l) (l1 : l ≤ 65535) (lw : l < 256 ^ w) (hbb : bb = true → l ≠ 1) (hs : b = true → (w = 1 ∧ 128 ≤ l) ∨ (w = 2 ∧ 256 ≤ l)) : ∀ (k : Nat) (r : Rd) (q1 : Int), 0 < k → k ≤ w → Ln r os q1 q b bb t → r.stage = .digit_ → r.dall = w → r.dread = ((w - k : Nat) : Int) → r.lsf = l / 256 ^ k → Fit ((rm os q1).map (· - k)) l →
    ∃ r2, runs r (dgs k l) (beginC r2 l) ∧ Ln r2 os (q1 + k) q b bb t
  | 0, _, _, h, _, _, _, _, _, _, _ => absurd h (Nat.lt_irrefl 0)
  | k + 1, r, q1, _, hk, L, st, da, dr, lf, ft => by
    have e0 : r.lsf * 256 + l / 256 ^ k % 256 = l / 256 ^ k := by
      rw [lf, show (256 : Int) ^ (k + 1) = 256 ^ k * 256 by rw [Int.pow_succ], ← Int.ediv_ediv_of_nonneg (Int.le_of_lt (Int.pow_pos (by omega)))]
      omega
    have pk : (0 : Int) < 256 ^ k := Int.pow_pos (by omega)
    have hx0 : 0 ≤ l / 256 ^ k % 256 := by omega
    have dl : (r.dall - r.dread - 1).toNat = k := by rw [da, dr]; omega
    have al : allows r (l / 256 ^ k % 256) = true := by
      simp only [allows, st, allowsDigit]
      have bad : badDig r.dall r.dread (l / 256 ^ k % 256) r.strict = false := by
        rw [da, dr, L.sr]
        unfold badDig
        cases hb : b
        · simp
          intro h
          have : 2 ≤ k := by omega
          have h2 : (65536 : Int) ≤ 256 ^ k := by
            obtain ⟨c, rfl⟩ : ∃ c, k = c + 2 := ⟨k - 2, by omega⟩
            rw [Int.pow_add]
            have : (1 : Int) ≤ 256 ^ c := Int.pow_pos (by omega)
            omega
          rw [Int.ediv_eq_zero_of_lt l0 (by omega)]
          rfl
        · simp
          intro h
          rcases hs hb with ⟨rfl, hl⟩ | ⟨rfl, hl⟩
          · have : k = 0 := by omega
            subst this
            simp at lw ⊢
            omega
          · have : k = 1 := by omega
            subst this
            simp
            omega
      rw [bad]
      simp only [Bool.false_eq_true, if_false]
      rw [e0, dl]
      have hm := Int.mul_ediv_add_emod l (256 ^ k)
      have hm2 := Int.emod_nonneg l (Int.ne_of_gt pk)
      have hm3 := Int.emod_lt_of_pos l pk
      have hm4 : 0 ≤ l / 256 ^ k := Int.ediv_nonneg l0 (Int.le_of_lt pk)
      refine lenFills_ok (l := l) ?_ ?_ ?_ l1 ?_ (by rw [L.hb]; exact hbb)
      · rw [pow256]; exact Int.mul_nonneg hm4 (Int.le_of_lt pk)
      · rw [pow256, Int.mul_comm]; omega
      · rw [pow256, Int.mul_comm]; omega
      · rw [room_rm, L.op, L.pl, Option.map_map]
        have e : ((fun x => x - (k : Int)) ∘ fun x => x - 1) = fun x => x - ((k + 1 : Nat) : Int) := by funext x; simp; omega
        rw [e]
        exact ft
    have td := tooDeep_len (r := r) (x := l / 256 ^ k % 256) (.inr (.inl st))
    rw [dgs_cons]
    by_cases c : k = 0
    · subst c
      refine ⟨{ r with place := r.place + 1, lsf := l, dread := r.dread + 1 }, ⟨al, td, ?_⟩, ⟨L.op, by show r.place + 1 = _; rw [L.pl]; simp, L.hp, L.ht, L.hb, L.sr⟩⟩
      rw [acc_digit st, if_pos (by rw [da, dr]; omega), e0]
      simp [dgs, runs]
    · have e1 : acc r (l / 256 ^ k % 256) = { r with place := r.place + 1, lsf := l / 256 ^ k, dread := r.dread + 1 } := by
        rw [acc_digit st, if_neg (by rw [da, dr]; omega), e0]
      obtain ⟨r2, h1, h2⟩ := take_digits l0 l1 lw hbb hs k (acc r (l / 256 ^ k % 256)) (q1 + 1) (by omega) (by omega) (by rw [e1]; exact ⟨L.op, by show r.place + 1 = _; rw [L.pl], L.hp, L.ht, L.hb, L.sr⟩) (by rw [e1]; exact st) (by rw [e1]; exact da) (by rw [e1]; show r.dread + 1 = _; rw [dr]; omega) (by rw [e1]) (by
        rw [rm_add, Option.map_map]
        have e : ((fun x => x - (k : Int)) ∘ fun x => x - 1) = fun x => x - ((k + 1 : Nat) : Int) := by funext x; simp; omega
        rw [e]
        exact ft)
      refine ⟨r2, ⟨al, td, h1⟩, ?_⟩
      have : q1 + 1 + (k : Int) = q1 + ((k + 1 : Nat) : Int) := by omega
      rw [← this]
      exact h2
/-- the forms of a length -/
theorem lenRow_form {l : Int} {f : Nat} (l0 : 0 ≤ l) (l1 : l ≤ 65535) (hf : f ≤ 4) : (lenRow l f = [l] ∧ l < 128) ∨ ∃ g : Nat, 1 ≤ g ∧ g ≤ 4 ∧ lenRow l f = (128 + (g : Int)) :: dgs g l ∧ l < 256 ^ g ∧ (lenRow l f = least l → (g = 1 ∧ 128 ≤ l) ∨ (g = 2 ∧ 256 ≤ l)) := by
  unfold lenRow
  by_cases c : 0 < f ∧ l < 256 ^ f
  · rw [if_pos c]
    refine .inr ⟨f, c.1, hf, rfl, c.2, fun h => ?_⟩
    unfold least at h
    by_cases c1 : l < 128
    · rw [if_pos c1] at h
      have := congrArg List.length h
      simp [dgs_len] at this
      omega
    · rw [if_neg c1] at h
      by_cases c2 : l < 256
      · rw [if_pos c2] at h
        have := congrArg List.length h
        simp [dgs_len] at this
        exact .inl ⟨this, by omega⟩
      · rw [if_neg c2] at h
        have := congrArg List.length h
        simp [dgs_len] at this
        exact .inr ⟨this, by omega⟩
  · rw [if_neg c]
    unfold least
    by_cases c1 : l < 128
    · exact .inl ⟨by rw [if_pos c1], c1⟩
    · rw [if_neg c1]
      by_cases c2 : l < 256
      · rw [if_pos c2]
        refine .inr ⟨1, by omega, by omega, ?_, by simpa using c2, fun _ => .inl ⟨rfl, by omega⟩⟩
        simp [dgs]
        omega
      · rw [if_neg c2]
        refine .inr ⟨2, by omega, by omega, ?_, by omega, fun _ => .inr ⟨rfl, by omega⟩⟩
        simp [dgs]
        omega
theorem take_len {r : Rd} {os : List Op} {q1 q l : Int} {b bb : Bool} {t : D} {f : Nat} (H : Hd r os q1 q b bb t) (l0 : 0 ≤ l) (l1 : l ≤ 65535) (hf : f ≤ 4) (hbb : bb = true → l ≠ 1) (hs : b = true → bb = false ∧ lenRow l f = least l) (ft : Fit ((rm os q1).map (· - ((lenRow l f).length : Int))) l) :
    ∃ r2, runs r (lenRow l f) (beginC r2 l) ∧ Ln r2 os (q1 + (lenRow l f).length) q b bb t := by
  have nsb : ¬ (r.strict = true ∧ r.hbuilt = true) := fun h => by
    rw [H.sr, H.hb] at h
    rw [(hs h.1).1] at h
    exact Bool.noConfusion h.2
  have td : ∀ x, tooDeep r x = false := fun x => tooDeep_len (.inl H.st)
  rcases lenRow_form l0 l1 hf with ⟨e, hl⟩ | ⟨g, g1, g4, e, hl, hls⟩
  · rw [e] at ft ⊢
    have al : allows r l = true := by
      simp only [allows, H.st, allowsLength]
      rw [if_neg (by omega), if_neg nsb, if_pos hl]
      refine lenFills_ok (l := l) (by simp; exact l0) (by simp) (by simp; omega) l1 ?_ (by rw [H.hb]; exact hbb)
      rw [room_rm, H.op, H.pl, Option.map_map]
      have e : ((fun x => x - ((0 : Nat) : Int)) ∘ fun x => x - 1) = fun x : Int => x - (([l] : List Int).length : Int) := by funext x; simp
      rw [e]
      exact ft
    refine ⟨{ r with place := r.place + 1 }, ⟨al, td _, ?_⟩, ⟨H.op, by show r.place + 1 = _; rw [H.pl]; simp, H.hp, H.ht, H.hb, H.sr⟩⟩
    rw [acc_length H.st]
    unfold accLength
    rw [if_pos hl]
    rfl
  · rw [e] at ft ⊢
    have al : allows r (128 + (g : Int)) = true := by
      simp only [allows, H.st, allowsLength]
      rw [if_neg (by omega), if_neg nsb, if_neg (by omega), if_neg, show (128 + (g : Int) - 128).toNat = g by omega]
      · refine lenFills_ok (l := l) (by simp) (by simp; exact l0) (by simp; rw [pow256]; exact hl) l1 ?_ (by rw [H.hb]; exact hbb)
        rw [room_rm, H.op, H.pl, Option.map_map]
        have e : ((fun x => x - (g : Int)) ∘ fun x => x - 1) = fun x : Int => x - ((((128 + (g : Int)) :: dgs g l) : List Int).length : Int) := by funext x; simp [dgs_len]; omega
        rw [e]
        exact ft
      · rw [H.sr]
        cases hb : b
        · simp; omega
        · have := hls (hs hb).2
          simp; omega
    have e1 : acc r (128 + (g : Int)) = { r with place := r.place + 1, lsf := 0, dall := 128 + (g : Int) - 128, dread := 0, stage := .digit_ } := by
      rw [acc_length H.st]
      unfold accLength
      rw [if_neg (by omega), if_pos (by omega)]
    obtain ⟨r2, h1, h2⟩ := take_digits (os := os) (q := q) (b := b) (bb := bb) (t := t) (w := g) l0 l1 hl hbb (fun hb => hls (hs hb).2) g (acc r (128 + (g : Int))) (q1 + 1) g1 (Nat.le_refl _) (by rw [e1]; exact ⟨H.op, by show r.place + 1 = _; rw [H.pl], H.hp, H.ht, H.hb, H.sr⟩) (by rw [e1]) (by rw [e1]; show 128 + (g : Int) - 128 = g; omega) (by rw [e1]; show (0 : Int) = _; simp) (by rw [e1]; show (0 : Int) = _; rw [Int.ediv_eq_zero_of_lt l0 hl]) (by
      rw [rm_add, Option.map_map]
      have e : ((fun x => x - (g : Int)) ∘ fun x => x - 1) = fun x : Int => x - ((((128 + (g : Int)) :: dgs g l) : List Int).length : Int) := by funext x; simp [dgs_len]; omega
      rw [e]
      exact ft)
    refine ⟨r2, ⟨al, td _, h1⟩, ?_⟩
    have : q1 + 1 + (g : Int) = q1 + ((((128 + (g : Int)) :: dgs g l) : List Int).length : Int) := by simp [dgs_len]; omega
    rw [← this]
    exact h2
/-- contents -/
theorem take_content : ∀ (c : List Int) (r : Rd) (d : List Int), r.stage = .content_ → r.content = d → r.due = c.length → c ≠ [] → ∃ r2, runs r c (endPlain r2) ∧ r2.content = d ++ c ∧ r2.place = r.place + c.length ∧ r2.opens = r.opens ∧ r2.hplace = r.hplace ∧ r2.htag = r.htag ∧ r2.strict = r.strict
  | [], _, _, _, _, _, h => absurd rfl h
  | x :: c, r, d, st, ec, ed, _ => by
    have al : allows r x = true := by simp only [allows, st]
    have td := tooDeep_len (r := r) (x := x) (.inr (.inr st))
    by_cases h : c = []
    · subst h
      refine ⟨{ r with place := r.place + 1, content := r.content ++ [x], due := r.due - 1 }, ⟨al, td, ?_⟩, by rw [ec], by simp, rfl, rfl, rfl, rfl⟩
      rw [acc_content st, if_pos (by rw [ed]; simp)]
      rfl
    · have hl : 0 < c.length := List.length_pos_iff.mpr h
      have e1 : acc r x = { r with place := r.place + 1, content := r.content ++ [x], due := r.due - 1 } := by
        rw [acc_content st, if_neg (by rw [ed]; simp; omega)]
      obtain ⟨r2, h1, h2, h3, h4, h5, h6, h7⟩ := take_content c (acc r x) (d ++ [x]) (by rw [e1]; exact st) (by rw [e1, ← ec]) (by rw [e1]; show r.due - 1 = _; rw [ed]; simp) h
      rw [e1] at h3 h4 h5 h6 h7
      exact ⟨r2, ⟨al, td, h1⟩, by rw [h2]; simp, by rw [h3]; simp; omega, h4, h5, h6, h7⟩
end Pl

set_option Elab.async false
set_option linter.all false
set_option maxRecDepth 100000
set_option maxHeartbeats 400000
/-! Pj4: a planned item is read. -/
namespace Pl
open PySem PySem.Spec PyProof.Rows L2 Mp
mutual
def sOk : Plan → Prop
  | .pl _ _ c f => lenRow c.length f = least c.length
  | .bu _ _ ps f => (f = 0 ∨ 65535 < (octsL ps).length) ∧ sOkL ps
def sOkL : List Plan → Prop
  | [] => True
  | x :: xs => sOk x ∧ sOkL xs
end
theorem idn_len {p v : Int} {b : Bool} : 1 ≤ (idn p v b).length := by unfold idn; split <;> simp
theorem least_len {l : Int} : 1 ≤ (least l).length := by
  unfold least
  split
  · simp
  · split <;> simp
theorem lenRow_len {l : Int} {f : Nat} : 1 ≤ (lenRow l f).length := by
  unfold lenRow
  split
  · simp
  · exact least_len
theorem octs_len : ∀ p : Plan, 2 ≤ (octs p).length
  | .pl p v c f => by
    have := idn_len (p := p) (v := v) (b := false)
    have := lenRow_len (l := c.length) (f := f)
    simp only [octs, List.length_append]
    omega
  | .bu p v ps f => by
    have := idn_len (p := p) (v := v) (b := true)
    have := lenRow_len (l := (octsL ps).length) (f := f - 1)
    simp only [octs]
    split <;> simp <;> omega
theorem octsL_len {ps : List Plan} (h : ps ≠ []) : 2 ≤ (octsL ps).length := by
  cases ps with
  | nil => exact absurd rfl h
  | cons p ps =>
    have := octs_len p
    simp only [octsL, List.length_append]
    omega
theorem octsL_ne1 {ps : List Plan} : (octsL ps).length ≠ 1 := by
  cases ps with
  | nil => simp [octsL]
  | cons p ps => have := octsL_len (ps := p :: ps) (by simp); omega
theorem put_close {r : Rd} {o : Op} {os : List Op} {it : D} (e : r.opens = o :: os) (g : goesOn o r.place = false) : put r it = put { r with opens := os } (builtD { o with inner := o.inner ++ [it] } r.place) := by
  unfold put
  rw [e]
  simp only [putO]
  rw [if_neg (by rw [g]; simp)]
theorem put_more {r : Rd} {o : Op} {os : List Op} {it : D} (e : r.opens = o :: os) (g : goesOn o r.place = true) : put r it = { r with opens := { o with inner := o.inner ++ [it] } :: os, stage := .item_ } := by
  unfold put
  rw [e]
  simp only [putO]
  rw [if_pos g]
def Reads (b : Bool) (p : Plan) : Prop := ∀ (r : Rd) (os : List Op) (q : Int), At r os q b → Fit (rm os q) (octs p).length → os.length + dep p ≤ 20 → ∃ r2, runs r (octs p) (put r2 (tree p q)) ∧ r2.opens = os ∧ r2.place = q + (octs p).length ∧ r2.strict = b
theorem reads_def {b : Bool} {E : Int} {os : List Op} {t : D} {fst : Int} : ∀ (ps : List Plan) (ac : List D) (r : Rd) (q : Int), (∀ p ∈ ps, Reads b p) → ps ≠ [] → (∀ p ∈ ps, os.length + 1 + dep p ≤ 20) → At r (⟨t, fst, some E, some E, ac⟩ :: os) q b → E = q + (octsL ps).length →
    ∃ r2, runs r (octsL ps) (put r2 (builtD ⟨t, fst, some E, some E, ac ++ treeL ps q⟩ E)) ∧ r2.opens = os ∧ r2.place = E ∧ r2.strict = b
  | [], _, _, _, _, h, _, _, _ => absurd rfl h
  | p :: ps, ac, r, q, hR, _, hd, a, hE => by
    have l2 := octs_len p
    simp only [octsL, List.length_append] at hE
    have fit : Fit (rm (⟨t, fst, some E, some E, ac⟩ :: os) q) (octs p).length := fun x e => by
      have e' : E - q = x := Option.some.inj e
      by_cases c : ps = []
      · subst c; simp [octsL] at hE; omega
      · have := octsL_len c; omega
    obtain ⟨r2, h1, h2, h3, h4⟩ := hR p (List.mem_cons_self ..) r _ q a fit (by have := hd p (List.mem_cons_self ..); simp; omega)
    by_cases c : ps = []
    · subst c
      simp [octsL] at hE
      have g : goesOn ⟨t, fst, some E, some E, ac⟩ r2.place = false := by simp [goesOn]; omega
      rw [put_close h2 g] at h1
      refine ⟨{ r2 with opens := os }, ?_, rfl, by show r2.place = E; omega, h4⟩
      simp only [octsL, List.append_nil, treeL]
      have eE : builtD { (⟨t, fst, some E, some E, ac⟩ : Op) with inner := ac ++ [tree p q] } r2.place = builtD ⟨t, fst, some E, some E, ac ++ [tree p q]⟩ E := by rw [show r2.place = E by omega]
      rw [← eE]
      exact h1
    · have l3 := octsL_len c
      have g : goesOn ⟨t, fst, some E, some E, ac⟩ r2.place = true := by simp [goesOn]; omega
      rw [put_more h2 g] at h1
      obtain ⟨r3, k1, k2, k3, k4⟩ := reads_def (E := E) (t := t) (fst := fst) (os := os) ps (ac ++ [tree p q]) { r2 with opens := ⟨t, fst, some E, some E, ac ++ [tree p q]⟩ :: os, stage := .item_ } (q + (octs p).length) (fun p' hp' => hR p' (List.mem_cons_of_mem _ hp')) c (fun p' hp' => hd p' (List.mem_cons_of_mem _ hp')) ⟨rfl, rfl, h3, h4⟩ (by omega)
      refine ⟨r3, ?_, k2, k3, k4⟩
      simp only [octsL, treeL]
      rw [List.append_assoc] at k1
      exact runs_app h1 k1
theorem reads_beh {b : Bool} {rE : Option Int} {os : List Op} {t : D} {fst : Int} : ∀ (ps : List Plan) (ac : List D) (r : Rd) (q : Int), (∀ p ∈ ps, Reads b p) → (∀ p ∈ ps, os.length + 1 + dep p ≤ 20) → At r (⟨t, fst, none, rE, ac⟩ :: os) q b → (∀ e, rE = some e → q + (octsL ps).length = e ∨ q + (octsL ps).length + 2 ≤ e) →
    ∃ r2, runs r (octsL ps) r2 ∧ At r2 (⟨t, fst, none, rE, ac ++ treeL ps q⟩ :: os) (q + (octsL ps).length) b
  | [], ac, r, q, _, _, a, _ => ⟨r, rfl, by simpa [octsL, treeL] using a⟩
  | p :: ps, ac, r, q, hR, hd, a, hE => by
    have l2 := octs_len p
    simp only [octsL, List.length_append] at hE
    have fit : Fit (rm (⟨t, fst, none, rE, ac⟩ :: os) q) (octs p).length := fun x e => by
      cases hr : rE with
      | none => rw [hr] at e; cases e
      | some m =>
        rw [hr] at e
        have e' : m - q = x := Option.some.inj e
        have := hE m hr
        by_cases c : ps = []
        · subst c; simp [octsL] at this; omega
        · have := octsL_len c; omega
    obtain ⟨r2, h1, h2, h3, h4⟩ := hR p (List.mem_cons_self ..) r _ q a fit (by have := hd p (List.mem_cons_self ..); simp; omega)
    rw [put_more h2 rfl] at h1
    obtain ⟨r3, k1, k2⟩ := reads_beh (rE := rE) (t := t) (fst := fst) (os := os) ps (ac ++ [tree p q]) { r2 with opens := ⟨t, fst, none, rE, ac ++ [tree p q]⟩ :: os, stage := .item_ } (q + (octs p).length) (fun p' hp' => hR p' (List.mem_cons_of_mem _ hp')) (fun p' hp' => hd p' (List.mem_cons_of_mem _ hp')) ⟨rfl, rfl, h3, h4⟩ (fun e he => by have := hE e he; omega)
    refine ⟨r3, runs_app h1 k1, ?_⟩
    simp only [octsL, treeL, List.length_append]
    rw [List.append_assoc] at k2
    have e : q + (octs p).length + (octsL ps).length = q + (((octs p).length + (octsL ps).length : Nat) : Int) := by omega
    rw [← e]
    exact k2
theorem reads_plain {b : Bool} {p v : Int} {c : List Int} {f : Nat} (ok : planOk (.pl p v c f)) (hs : b = true → sOk (.pl p v c f)) : Reads b (.pl p v c f) := by
  intro r os q a ft hd
  obtain ⟨tk, cb, cl, f4⟩ := ok
  have e0 : octs (.pl p v c f) = idn p v false ++ lenRow c.length f ++ c := rfl
  have lr := lenRow_len (l := c.length) (f := f)
  rw [e0] at ft ⊢
  simp only [List.length_append] at ft
  obtain ⟨r1, h1, h2⟩ := take_id (bb := false) a tk (ft.room (by omega)) (fun h => by cases h)
  have ft2 : Fit ((rm os (q + (idn p v false).length)).map (· - ((lenRow c.length f).length : Int))) c.length := by
    rw [rm_add]
    have := (ft.sub (d := (idn p v false).length)).sub (d := (lenRow c.length f).length)
    rw [show (((idn p v false).length + (lenRow c.length f).length + c.length : Nat) : Int) - (idn p v false).length - (lenRow c.length f).length = c.length by omega] at this
    exact this
  obtain ⟨r2, k1, k2⟩ := take_len h2 (by omega) (by omega) f4 (fun h => by cases h) (fun h => ⟨rfl, hs h⟩) ft2
  have tr : tree (.pl p v c f) q = .tup [.str "plain", .tup [.int p, .int v], .tup (iL c), .int q, .int (q + (octs (.pl p v c f)).length)] := rfl
  have hE : q + (idn p v false).length + (lenRow c.length f).length + c.length = q + (octs (.pl p v c f)).length := by rw [e0]; simp; omega
  by_cases cz : c = []
  · subst cz
    have eb : beginC r2 (([] : List Int).length : Int) = put { r2 with content := [], due := 0, stage := .content_ } (tree (.pl p v [] f) q) := by
      unfold beginC
      rw [if_neg (by rw [k2.hb]; simp), if_pos (by simp)]
      unfold endPlain
      have : r2.place = q + (octs (.pl p v [] f)).length := by rw [k2.pl, ← hE]; simp
      simp only [k2.ht, k2.hp, this, tr, List.length_nil, Int.natCast_zero]
    rw [eb] at k1
    refine ⟨{ r2 with content := [], due := 0, stage := .content_ }, ?_, k2.op, by show r2.place = _; rw [k2.pl]; simp; omega, k2.sr⟩
    rw [List.append_nil]
    exact runs_app h1 k1
  · have hl : 0 < c.length := List.length_pos_iff.mpr cz
    have eb : beginC r2 (c.length : Int) = { r2 with content := [], due := c.length, stage := .content_ } := by
      unfold beginC
      rw [if_neg (by rw [k2.hb]; simp), if_neg (by omega)]
    rw [eb] at k1
    obtain ⟨r3, m1, m2, m3, m4, m5, m6, m7⟩ := take_content c { r2 with content := [], due := c.length, stage := .content_ } [] rfl rfl rfl cz
    have hpl : r3.place = q + (octs (.pl p v c f)).length := by
      rw [m3]
      show r2.place + _ = _
      rw [k2.pl, ← hE]
    have ee : endPlain r3 = put r3 (tree (.pl p v c f) q) := by
      unfold endPlain
      rw [m2, m5, m6, hpl, tr]
      show put r3 (.tup [_, r2.htag, _, .int r2.hplace, _]) = _
      rw [k2.ht, k2.hp]
      rfl
    rw [ee] at m1
    exact ⟨r3, runs_app (runs_app h1 k1) m1, m4.trans k2.op, by rw [← e0]; exact hpl, m7.trans k2.sr⟩
end Pl

set_option Elab.async false
set_option linter.all false
set_option maxRecDepth 100000
set_option maxHeartbeats 400000
/-! Pj5: built items are read; what read_item says of a planned row. -/
namespace Pl
open PySem PySem.Spec PyProof.Rows L2 Mp
theorem dep_mem : ∀ {ps : List Plan} {p : Plan}, p ∈ ps → dep p ≤ depL ps
  | x :: xs, p, h => by
    rcases List.mem_cons.mp h with rfl | h
    · simp only [depL]; omega
    · have := dep_mem h; simp only [depL]; omega
theorem ok_mem : ∀ {ps : List Plan} {p : Plan}, planOkL ps → p ∈ ps → planOk p
  | x :: xs, p, g, h => by
    rcases List.mem_cons.mp h with rfl | h
    · exact g.1
    · exact ok_mem g.2 h
theorem sOk_mem : ∀ {ps : List Plan} {p : Plan}, sOkL ps → p ∈ ps → sOk p
  | x :: xs, p, g, h => by
    rcases List.mem_cons.mp h with rfl | h
    · exact g.1
    · exact sOk_mem g.2 h
/-- the octet 128 of an item told behind -/
theorem take_behind {r : Rd} {os : List Op} {q1 q : Int} {b : Bool} {t : D} (H : Hd r os q1 q b true t) {m : Nat} (hm : m ≠ 1) (ft : Fit (rm os q1) (m + 2)) :
    ∃ rE r1, runs r [128] r1 ∧ At r1 (⟨t, q, none, rE, []⟩ :: os) (q1 + 1) b ∧ (∀ e, rE = some e → q1 + 1 + m = e ∨ q1 + 1 + m + 2 ≤ e) ∧ (rm os q1 = none → rE = none) := by
  have al : allows r 128 = true := by
    simp only [allows, H.st, allowsLength, if_pos]
    rw [H.hb, room_rm, H.op, H.pl]
    cases hr : rm os q1 with
    | none => rfl
    | some x =>
      have := ft x hr
      simp
      omega
  have td := tooDeep_len (r := r) (x := 128) (.inl H.st)
  have e1 : acc r 128 = { openI { r with place := r.place + 1 } none ((room { r with place := r.place + 1 }).map fun m => r.place + 1 + m - 1) with stage := .item_ } := by
    rw [acc_length H.st]
    unfold accLength
    rw [if_neg (by omega), if_neg (by omega)]
  refine ⟨_, _, runs_one al td, ⟨by rw [e1], by rw [e1]; show _ :: r.opens = _; rw [H.op, H.ht, H.hp], by rw [e1]; show r.place + 1 = _; rw [H.pl], by rw [e1]; exact H.sr⟩, ?_, fun hn => ?_⟩
  rotate_left
  · show ((rm os (r.place + 1)).map fun m => r.place + 1 + m - 1) = none
    rw [H.pl, rm_add, hn]
    rfl
  intro e he
  have he : ((rm os (r.place + 1)).map fun m => r.place + 1 + m - 1) = some e := he
  rw [H.pl] at he
  cases os with
  | nil => cases he
  | cons o os =>
    simp only [rm] at he ft
    cases hr : o.room with
    | none => rw [hr] at he; cases he
    | some y =>
      rw [hr] at he ft
      have he' : q1 + 1 + (y - (q1 + 1)) - 1 = e := Option.some.inj he
      have := ft (y - q1) rfl
      omega
theorem reads_built {b : Bool} {p v : Int} {ps : List Plan} {f : Nat} (ok : planOk (.bu p v ps f)) (hs : b = true → sOk (.bu p v ps f)) (hR : ∀ x ∈ ps, Reads b x) : Reads b (.bu p v ps f) := by
  intro r os q a ft hd
  obtain ⟨tk, okL, f5⟩ := ok
  simp only [dep] at hd
  have hdx : ∀ x ∈ ps, os.length + 1 + dep x ≤ 20 := fun x hx => by have := dep_mem hx; omega
  have ne1 := octsL_ne1 (ps := ps)
  by_cases c : f = 0 ∨ 65535 < (octsL ps).length
  · have e0 : octs (.bu p v ps f) = idn p v true ++ [128] ++ octsL ps ++ [0] := by simp only [octs]; rw [if_pos c]
    rw [e0] at ft ⊢
    simp only [List.length_append, List.length_singleton] at ft
    obtain ⟨r1, h1, h2⟩ := take_id (bb := true) a tk (ft.room (by omega)) (fun _ => by omega)
    obtain ⟨rE, r2, k1, k2, k3, _⟩ := take_behind h2 (m := (octsL ps).length) ne1 (by
      rw [rm_add]
      have := ft.sub (d := (idn p v true).length)
      rw [show (((idn p v true).length + 1 + (octsL ps).length + 1 : Nat) : Int) - (idn p v true).length = (octsL ps).length + 2 by omega] at this
      exact this)
    obtain ⟨r3, m1, m2⟩ := reads_beh ps [] r2 _ hR hdx k2 k3
    have al : allows r3 0 = true := by
      simp only [allows, m2.st, allowsBegin, if_pos, m2.op]
      rfl
    have td : tooDeep r3 0 = false := by
      unfold tooDeep
      rw [m2.st]
      split <;> rfl
    have hpl : r3.place + 1 = q + (octs (.bu p v ps f)).length := by rw [m2.pl, e0]; simp; omega
    have hdl : hdLen (.bu p v ps f) = (idn p v true).length + 1 := by simp only [hdLen]; rw [if_pos c]
    refine ⟨{ r3 with place := r3.place + 1, opens := os }, ?_, rfl, by show r3.place + 1 = _; rw [hpl, e0], m2.sr⟩
    refine runs_app (runs_app (runs_app h1 k1) m1) ⟨al, td, ?_⟩
    show put _ _ = acc r3 0
    rw [acc_item m2.st]
    unfold accBegin
    rw [if_pos rfl]
    simp only [m2.op]
    have e9 : builtD ⟨.tup [.int p, .int v], q, none, rE, [] ++ treeL ps (q + (idn p v true).length + 1)⟩ (r3.place + 1) = tree (.bu p v ps f) q := by
      unfold builtD
      rw [hpl, List.nil_append]
      simp only [tree]
      rw [hdl, show q + (idn p v true).length + 1 = q + (((idn p v true).length + 1 : Nat) : Int) by omega]
    rw [e9]
  · have c1 : ¬ b = true := fun h => c (hs h).1
    have e0 : octs (.bu p v ps f) = idn p v true ++ lenRow (octsL ps).length (f - 1) ++ octsL ps := by simp only [octs]; rw [if_neg c]
    have lr := lenRow_len (l := (octsL ps).length) (f := f - 1)
    rw [e0] at ft ⊢
    simp only [List.length_append] at ft
    obtain ⟨r1, h1, h2⟩ := take_id (bb := true) a tk (ft.room (by omega)) (fun _ => by omega)
    have ft2 : Fit ((rm os (q + (idn p v true).length)).map (· - ((lenRow (octsL ps).length (f - 1)).length : Int))) (octsL ps).length := by
      rw [rm_add]
      have := (ft.sub (d := (idn p v true).length)).sub (d := (lenRow (octsL ps).length (f - 1)).length)
      rw [show (((idn p v true).length + (lenRow (octsL ps).length (f - 1)).length + (octsL ps).length : Nat) : Int) - (idn p v true).length - (lenRow (octsL ps).length (f - 1)).length = (octsL ps).length by omega] at this
      exact this
    obtain ⟨r2, k1, k2⟩ := take_len h2 (by omega) (by omega) (by omega) (fun _ => by omega) (fun h => absurd h c1) ft2
    have hdl : hdLen (.bu p v ps f) = (idn p v true).length + (lenRow (octsL ps).length (f - 1)).length := by simp only [hdLen]; rw [if_neg c]
    have hE : q + (idn p v true).length + (lenRow (octsL ps).length (f - 1)).length + (octsL ps).length = q + (octs (.bu p v ps f)).length := by rw [e0]; simp; omega
    by_cases cz : ps = []
    · subst cz
      have eb : beginC r2 ((octsL []).length : Int) = put { r2 with stage := .item_ } (tree (.bu p v [] f) q) := by
        unfold beginC
        rw [if_pos k2.hb, if_pos (by simp [octsL])]
        have e9 : builtD ⟨r2.htag, r2.hplace, some (r2.place + ((octsL []).length : Int)), some (r2.place + ((octsL []).length : Int)), []⟩ r2.place = tree (.bu p v [] f) q := by
          unfold builtD
          have e10 : r2.place = q + (octs (.bu p v [] f)).length := by rw [k2.pl, ← hE]; simp [octsL]
          rw [e10, k2.ht, k2.hp]
          simp only [tree, treeL]
        rw [e9]
      rw [eb] at k1
      refine ⟨{ r2 with stage := .item_ }, ?_, k2.op, by show r2.place = _; rw [k2.pl]; simp [octsL]; omega, k2.sr⟩
      rw [show octsL [] = [] from rfl, List.append_nil]
      exact runs_app h1 k1
    · have l2 := octsL_len cz
      have eb : beginC r2 ((octsL ps).length : Int) = { openI r2 (some (r2.place + (octsL ps).length)) (some (r2.place + (octsL ps).length)) with stage := .item_ } := by
        unfold beginC
        rw [if_pos k2.hb, if_neg (by omega)]
      rw [eb] at k1
      have epl : r2.place + (octsL ps).length = q + (octs (.bu p v ps f)).length := by rw [k2.pl, hE]
      rw [epl] at k1
      obtain ⟨r3, m1, m2, m3, m4⟩ := reads_def (b := b) (E := q + (octs (.bu p v ps f)).length) (os := os) (t := .tup [.int p, .int v]) (fst := q) ps [] { openI r2 (some (q + (octs (.bu p v ps f)).length)) (some (q + (octs (.bu p v ps f)).length)) with stage := .item_ } r2.place hR cz hdx ⟨rfl, by show _ :: r2.opens = _; rw [k2.op, k2.ht, k2.hp], rfl, k2.sr⟩ epl.symm
      have e9 : builtD ⟨.tup [.int p, .int v], q, some (q + (octs (.bu p v ps f)).length), some (q + (octs (.bu p v ps f)).length), [] ++ treeL ps r2.place⟩ (q + (octs (.bu p v ps f)).length) = tree (.bu p v ps f) q := by
        unfold builtD
        rw [List.nil_append]
        simp only [tree]
        rw [hdl, k2.pl, show q + ((idn p v true).length : Int) + (lenRow (octsL ps).length (f - 1)).length = q + (((idn p v true).length + (lenRow (octsL ps).length (f - 1)).length : Nat) : Int) by omega]
      rw [e9] at m1
      exact ⟨r3, runs_app (runs_app h1 k1) m1, m2, by rw [m3, e0], m4⟩
theorem reads_all {b : Bool} : ∀ (n : Nat) (p : Plan), dep p ≤ n → planOk p → (b = true → sOk p) → Reads b p
  | _, .pl _ _ _ _, _, ok, hs => reads_plain ok hs
  | 0, .bu _ _ ps _, h, _, _ => by simp [dep] at h
  | n + 1, .bu p v ps f, h, ok, hs => reads_built ok hs fun x hx => reads_all n x (by have := dep_mem hx; simp [dep] at h; omega) (ok_mem ok.2.1 hx) fun hb => sOk_mem (hs hb).2 hx
/-- the whole row of a plan -/
theorem runs_plan {b : Bool} {p : Plan} (ok : planOk p) (hs : b = true → sOk p) (hd : dep p ≤ 20) : ∃ r, runs (rd0 b) (octs p) r ∧ r.stage = .end_ ∧ r.whole = tree p 0 ∧ r.spoilt = .no ∧ r.place = (octs p).length := by
  obtain ⟨r2, h1, h2, h3, h4⟩ := reads_all (b := b) (dep p) p (Nat.le_refl _) ok hs (rd0 b) [] 0 ⟨rfl, rfl, rfl, rfl⟩ (fun x e => by cases e) (by simpa using hd)
  have e : put r2 (tree p 0) = { r2 with opens := [], whole := tree p 0, stage := .end_ } := by unfold put; rw [h2]; rfl
  obtain ⟨q1, q2, _⟩ := runs_place h1
  exact ⟨_, h1, by rw [e], by rw [e], q2, by rw [q1]; show (0 : Int) + _ = _; omega⟩
theorem readI_plan {b : Bool} {p : Plan} (ok : planOk p) (hs : b = true → sOk p) (hd : dep p ≤ 20) : readI b (octs p) = .told (tree p 0) := by
  obtain ⟨r, h1, h2, h3, h4, _⟩ := runs_plan (b := b) ok hs hd
  have := runs_feed (ys := []) h1
  rw [List.append_nil] at this
  unfold readI
  rw [this]
  simp only [feed, outc, h4, h2, h3, if_true]
/-- a proper part of it -/
theorem readI_part {b : Bool} {p : Plan} (ok : planOk p) (hs : b = true → sOk p) (hd : dep p ≤ 20) {xs ys : List Int} (e : octs p = xs ++ ys) (hy : ys ≠ []) : readI b xs = .ended xs.length := by
  obtain ⟨r, h1, h2, h3, h4, _⟩ := runs_plan (b := b) ok hs hd
  rw [e] at h1
  obtain ⟨r1, a1, a2⟩ := runs_pre h1
  have ne := runs_not_end h1 a1 hy
  obtain ⟨q1, q2, _⟩ := runs_place a1
  have := runs_feed (ys := []) a1
  rw [List.append_nil] at this
  unfold readI
  rw [this]
  have q2' : r1.spoilt = .no := q2
  have q1' : r1.place = xs.length := by rw [q1]; show (0 : Int) + _ = _; simp
  simp only [feed, outc, q2', if_neg ne, q1']
/-- one octet behind it -/
theorem readI_behind {b : Bool} {p : Plan} (ok : planOk p) (hs : b = true → sOk p) (hd : dep p ≤ 20) (x : Int) : readI b (octs p ++ [x]) = .ref (octs p).length := by
  obtain ⟨r, h1, h2, h3, h4, h5⟩ := runs_plan (b := b) ok hs hd
  unfold readI
  rw [runs_feed h1]
  simp only [feed]
  rw [if_pos (by simp only [allows, h2])]
  simp only [outc, h5]
theorem readI_zero {b : Bool} {xs : List Int} : readI b (0 :: xs) = .ref 0 := rfl
end Pl

set_option Elab.async false
set_option linter.all false
set_option maxRecDepth 100000
set_option maxHeartbeats 400000
/-! Pj6: a strict reader refuses a loose writing. -/
namespace Pl
open PySem PySem.Spec PyProof.Rows L2 Mp
def Stops (r : Rd) (xs : List Int) : Prop := ∃ a x y r1, xs = a ++ x :: y ∧ a ≠ [] ∧ runs r a r1 ∧ allows r1 x = false
theorem Stops.app {r : Rd} {xs ys : List Int} (h : Stops r xs) : Stops r (xs ++ ys) := by
  obtain ⟨a, x, y, r1, rfl, h2, h3, h4⟩ := h
  exact ⟨a, x, y ++ ys, r1, by simp, h2, h3, h4⟩
theorem Stops.after {r r1 : Rd} {xs ys : List Int} (h : runs r xs r1) (g : Stops r1 ys) : Stops r (xs ++ ys) := by
  obtain ⟨a, x, y, r2, rfl, h2, h3, h4⟩ := g
  exact ⟨xs ++ a, x, y, r2, by simp, by simp [h2], runs_app h h3, h4⟩
def StopsP (p : Plan) : Prop := ∀ (r : Rd) (os : List Op) (q : Int), At r os q true → rm os q = none → os.length + dep p ≤ 20 → ¬ sOk p → Stops r (octs p)
theorem fit_none {n : Int} : Fit none n := fun x e => by cases e
theorem room_none {n : Int} : Room none n := fun x e => by cases e
theorem stops_plain {p v : Int} {c : List Int} {f : Nat} (ok : planOk (.pl p v c f)) : StopsP (.pl p v c f) := by
  intro r os q a hm hd ns
  obtain ⟨tk, cb, cl, f4⟩ := ok
  have ns : ¬ lenRow c.length f = least c.length := ns
  have e0 : octs (.pl p v c f) = idn p v false ++ lenRow c.length f ++ c := rfl
  obtain ⟨r1, h1, h2⟩ := take_id (bb := false) a tk (by rw [hm]; exact room_none) (fun h => by cases h)
  rw [e0, List.append_assoc]
  have hi := idn_len (p := p) (v := v) (b := false)
  have rn : room r1 = none := by rw [room_rm, h2.op, h2.pl, rm_add, hm]; rfl
  by_cases cf : 0 < f ∧ (c.length : Int) < 256 ^ f
  · have el : lenRow c.length f = (128 + (f : Int)) :: dgs f c.length := by unfold lenRow; rw [if_pos cf]
    rw [el] at ns ⊢
    by_cases f3 : 2 < f
    · refine ⟨idn p v false, 128 + (f : Int), dgs f c.length ++ c, r1, by simp, fun h => by rw [h] at hi; simp at hi, h1, ?_⟩
      simp only [allows, h2.st, allowsLength]
      rw [if_neg (by omega), if_neg (by rw [h2.hb]; simp), if_neg (by omega), if_pos (by rw [h2.sr]; simp; omega)]
    · have al : allows r1 (128 + (f : Int)) = true := by
        simp only [allows, h2.st, allowsLength]
        rw [if_neg (by omega), if_neg (by rw [h2.hb]; simp), if_neg (by omega), if_neg (by rw [h2.sr]; simp; omega), rn, h2.hb, show (128 + (f : Int) - 128).toNat = f by omega]
        exact lenFills_ok (l := c.length) (by simp) (by simp) (by rw [pow256]; simpa using cf.2) (by omega) fit_none (fun h => by cases h)
      have td := tooDeep_len (r := r1) (x := 128 + (f : Int)) (.inl h2.st)
      have e1 : acc r1 (128 + (f : Int)) = { r1 with place := r1.place + 1, lsf := 0, dall := 128 + (f : Int) - 128, dread := 0, stage := .digit_ } := by
        rw [acc_length h2.st]
        unfold accLength
        rw [if_neg (by omega), if_pos (by omega)]
      have bad : ∀ x y, dgs f c.length = x :: y → badDig f 0 x true = true → Stops r (idn p v false ++ ((128 + (f : Int)) :: dgs f c.length ++ c)) := fun x y hx hb => by
        refine ⟨idn p v false ++ [128 + (f : Int)], x, y ++ c, acc r1 (128 + (f : Int)), by rw [hx]; simp, by simp, runs_app h1 (runs_one al td), ?_⟩
        rw [e1]
        simp only [allows, allowsDigit]
        rw [show (128 + (f : Int) - 128) = f by omega, h2.sr, if_pos hb]
      have hf : f = 1 ∨ f = 2 := by omega
      rcases hf with rfl | rfl
      · have hl : (c.length : Int) < 128 := by
          by_cases h128 : (c.length : Int) < 128
          · exact h128
          · exfalso
            apply ns
            unfold least
            have h256 : (c.length : Int) < 256 := by simpa using cf.2
            rw [if_neg h128, if_pos h256]
            simp [dgs]
            omega
        exact bad (c.length % 256) [] (by simp [dgs]) (by simp [badDig]; omega)
      · have hl : (c.length : Int) < 256 := by
          by_cases h256 : (c.length : Int) < 256
          · exact h256
          · exfalso
            apply ns
            unfold least
            rw [if_neg (by omega), if_neg h256]
            simp [dgs]
            omega
        exact bad (c.length / 256 % 256) [c.length % 256] (by simp [dgs]) (by simp [badDig]; omega)
  · exfalso
    apply ns
    unfold lenRow
    rw [if_neg cf]
theorem stops_list {os : List Op} {t : D} {fst : Int} : ∀ (ps : List Plan) (ac : List D) (r : Rd) (q : Int), (∀ p ∈ ps, StopsP p) → (∀ p ∈ ps, planOk p) → (∀ p ∈ ps, os.length + 1 + dep p ≤ 20) → At r (⟨t, fst, none, none, ac⟩ :: os) q true → ¬ sOkL ps → Stops r (octsL ps)
  | [], _, _, _, _, _, _, _, h => absurd trivial h
  | p :: ps, ac, r, q, hS, hok, hd, a, hn => by
    have hdp := hd p (List.mem_cons_self ..)
    by_cases c : sOk p
    · have hn2 : ¬ sOkL ps := fun h => hn ⟨c, h⟩
      obtain ⟨r2, h1, h2, h3, h4⟩ := reads_all (b := true) (dep p) p (Nat.le_refl _) (hok p (List.mem_cons_self ..)) (fun _ => c) r _ q a fit_none (by simp; omega)
      rw [put_more h2 rfl] at h1
      exact .after h1 (stops_list (t := t) (fst := fst) (os := os) ps (ac ++ [tree p q]) { r2 with opens := ⟨t, fst, none, none, ac ++ [tree p q]⟩ :: os, stage := .item_ } _ (fun p' hp' => hS p' (List.mem_cons_of_mem _ hp')) (fun p' hp' => hok p' (List.mem_cons_of_mem _ hp')) (fun p' hp' => hd p' (List.mem_cons_of_mem _ hp')) ⟨rfl, rfl, h3, h4⟩ hn2)
    · exact (hS p (List.mem_cons_self ..) r _ q a rfl (by simp; omega) c).app
theorem stops_built {p v : Int} {ps : List Plan} {f : Nat} (ok : planOk (.bu p v ps f)) (hS : ∀ x ∈ ps, StopsP x) : StopsP (.bu p v ps f) := by
  intro r os q a hm hd ns
  obtain ⟨tk, okL, f5⟩ := ok
  simp only [dep] at hd
  have hi := idn_len (p := p) (v := v) (b := true)
  obtain ⟨r1, h1, h2⟩ := take_id (bb := true) a tk (by rw [hm]; exact room_none) (fun _ => by omega)
  have hm1 : rm os (q + (idn p v true).length) = none := by rw [rm_add, hm]; rfl
  by_cases c : f = 0 ∨ 65535 < (octsL ps).length
  · have nsL : ¬ sOkL ps := fun h => ns ⟨c, h⟩
    have e0 : octs (.bu p v ps f) = idn p v true ++ [128] ++ octsL ps ++ [0] := by simp only [octs]; rw [if_pos c]
    rw [e0]
    obtain ⟨rE, r2, k1, k2, _, k4⟩ := take_behind h2 (m := (octsL ps).length) octsL_ne1 (by rw [hm1]; exact fit_none)
    rw [k4 hm1] at k2
    exact (Stops.after (runs_app h1 k1) (stops_list ps [] r2 _ hS (fun x hx => ok_mem okL hx) (fun x hx => by have := dep_mem hx; omega) k2 nsL)).app
  · have e0 : octs (.bu p v ps f) = idn p v true ++ lenRow (octsL ps).length (f - 1) ++ octsL ps := by simp only [octs]; rw [if_neg c]
    rw [e0, List.append_assoc]
    have fin : ∀ x y, lenRow (octsL ps).length (f - 1) = x :: y → x ≠ 128 → Stops r (idn p v true ++ (lenRow (octsL ps).length (f - 1) ++ octsL ps)) := fun x y hx h128 => by
      refine ⟨idn p v true, x, y ++ octsL ps, r1, by rw [hx]; simp, fun h => by rw [h] at hi; simp at hi, h1, ?_⟩
      simp only [allows, h2.st, allowsLength]
      rw [if_neg h128, if_pos ⟨h2.sr, h2.hb⟩]
    rcases lenRow_form (l := (octsL ps).length) (f := f - 1) (by omega) (by omega) (by omega) with ⟨e, hl⟩ | ⟨g, g1, _, e, _, _⟩
    · exact fin _ _ e (by omega)
    · exact fin _ _ e (by omega)
theorem stops_all : ∀ (n : Nat) (p : Plan), dep p ≤ n → planOk p → StopsP p
  | _, .pl _ _ _ _, _, ok => stops_plain ok
  | 0, .bu _ _ ps _, h, _ => by simp [dep] at h
  | n + 1, .bu p v ps f, h, ok => stops_built ok fun x hx => stops_all n x (by have := dep_mem hx; simp [dep] at h; omega) (ok_mem ok.2.1 hx)
theorem readI_loose {p : Plan} (ok : planOk p) (hd : dep p ≤ 20) (hs : ¬ sOk p) : ∃ k : Nat, readI true (octs p) = .ref k ∧ 0 < k ∧ k < (octs p).length := by
  obtain ⟨a, x, y, r1, e, ha, h1, h2⟩ := stops_all (dep p) p (Nat.le_refl _) ok (rd0 true) [] 0 ⟨rfl, rfl, rfl, rfl⟩ rfl (by simpa using hd) hs
  refine ⟨a.length, ?_, List.length_pos_iff.mpr ha, by rw [e]; simp⟩
  unfold readI
  rw [e, runs_feed h1]
  simp only [feed]
  rw [if_pos h2]
  simp only [outc]
  rw [(runs_place h1).1]
  show Rr.ref (0 + _) = _
  simp
/-! ### the strict plan -/
mutual
def stp : Plan → Plan
  | .pl p v c _ => .pl p v c 0
  | .bu p v ps _ => .bu p v (stpL ps) 0
def stpL : List Plan → List Plan
  | [] => []
  | x :: xs => stp x :: stpL xs
end
mutual
theorem stp_dep : ∀ p : Plan, dep (stp p) = dep p
  | .pl _ _ _ _ => rfl
  | .bu _ _ ps _ => by simp only [stp, dep, stpL_dep ps]
theorem stpL_dep : ∀ ps : List Plan, depL (stpL ps) = depL ps
  | [] => rfl
  | x :: xs => by simp only [stpL, depL, stp_dep x, stpL_dep xs]
end
mutual
theorem stp_ok : ∀ p : Plan, planOk p → planOk (stp p)
  | .pl _ _ _ _, h => ⟨h.1, h.2.1, h.2.2.1, by omega⟩
  | .bu _ _ ps _, h => ⟨h.1, stpL_ok ps h.2.1, by omega⟩
theorem stpL_ok : ∀ ps : List Plan, planOkL ps → planOkL (stpL ps)
  | [], h => h
  | x :: xs, h => ⟨stp_ok x h.1, stpL_ok xs h.2⟩
end
theorem lenRow_0 {l : Int} : lenRow l 0 = least l := by unfold lenRow; rw [if_neg (by omega)]
mutual
theorem stp_s : ∀ p : Plan, sOk (stp p)
  | .pl _ _ _ _ => lenRow_0
  | .bu _ _ ps _ => ⟨.inl rfl, stpL_s ps⟩
theorem stpL_s : ∀ ps : List Plan, sOkL (stpL ps)
  | [] => trivial
  | x :: xs => ⟨stp_s x, stpL_s xs⟩
end
mutual
theorem stp_octs : ∀ p : Plan, sOk p → octs (stp p) = octs p
  | .pl p v c f, h => by
    have h : lenRow c.length f = least c.length := h
    simp only [stp, octs, lenRow_0, h]
  | .bu p v ps f, h => by
    have e := stpL_octs ps h.2
    simp only [stp, octs, e]
    rw [if_pos h.1]
    simp
theorem stpL_octs : ∀ ps : List Plan, sOkL ps → octsL (stpL ps) = octsL ps
  | [], _ => rfl
  | x :: xs, h => by simp only [stpL, octsL, stp_octs x h.1, stpL_octs xs h.2]
end
end Pl

set_option Elab.async false
set_option linter.all false
set_option maxRecDepth 100000
set_option maxHeartbeats 400000
/-! Pj7: the laws' own plans: tags, octets, trees, strict plans. -/
namespace Pl
open PySem PySem.Spec PyProof.Rows L2 Mp
section
variable {hp : List O} {n : Nat} {o : O} {R : S → List O → Prop} {Xp : MX}
theorem sp_tag {tg : Tg (m__law_tag, R, Xp)} (ho : hp[n]? = some o) (hs : St o) (h : ∀ (p v : Int) o', St o' → TagOk p v → R (.d (.tup [.int p, .int v])) (hp.set n o')) : mfH m__law_tag hp [.mu n] R Xp tg := by
  refine mfH_of ?_
  unfold m__law_tag
  simp [-x_seq]
  rw [x_seq]
  simp [-x_seq]
  refine s_take ho hs (by omega) fun z o1 ho1 z0 z1 _ => ?_
  have a1 := set_at ho
  simp [-x_seq]
  rw [x_seq]
  simp [-x_seq]
  refine s_take (a1 _) ho1 (by omega) fun p o2 ho2 p0 p1 _ => ?_
  simp [-x_seq]
  rw [x_seq]
  simp [-x_seq]
  refine s_take (a1 _) ho2 (by omega) fun v o3 ho3 v0 v1 _ => ?_
  simp [-x_seq]
  refine seq_cut (fun hp' env' => ∃ (v : Int) (o' : O), 0 ≤ v ∧ v ≤ 16383 ∧ St o' ∧ hp' = hp.set n o' ∧ env' = [some (.mu n), some (.d (.int z)), some (.d (.int p)), some (.d (.int v))]) (fun M hM => ?_) ?_
  · by_cases c : z = 1
    · simp [c]
      refine pick_Bd (xs := [0, 1, 29, 30, 31, 32, 126, 127, 128, 129, 16382, 16383]) (lo := 0) (hi := 16383) (a1 _) ho3 (by simp) (by simp) (fun x hx => by simp at hx; omega) fun w o4 ho4 w0 w1 => ?_
      simp
      exact hM _ _ ⟨w, o4, w0, w1, ho4, rfl, by rw [c]⟩
    · simp [c]
      exact hM _ _ ⟨v, o3, v0, by omega, ho3, rfl, rfl⟩
  rintro _ _ ⟨v, o4, v0, v1, ho4, rfl, rfl⟩
  refine seq_cut (fun hp' env' => ∃ (v : Int) (o' : O), 0 ≤ v ∧ v ≤ 16383 ∧ St o' ∧ hp' = hp.set n o' ∧ env' = [some (.mu n), some (.d (.int z)), some (.d (.int p)), some (.d (.int v))]) (fun M hM => ?_) ?_
  · by_cases c : z = 2
    · simp [c]
      refine s_take (a1 _) ho4 (by omega) fun w o5 ho5 w0 w1 _ => ?_
      simp
      exact hM _ _ ⟨w, o5, w0, by omega, ho5, rfl, by rw [c]⟩
    · simp [c]
      exact hM _ _ ⟨v, o4, v0, v1, ho4, rfl, rfl⟩
  rintro _ _ ⟨v, o5, v0, v1, ho5, rfl, rfl⟩
  by_cases c1 : p = 0
  · by_cases c2 : v = 0
    · simp [c1, c2]
      exact h 0 1 o5 ho5 ⟨by omega, by omega, by omega, by omega, by omega⟩
    · simp [c1, c2]
      exact h 0 v o5 ho5 ⟨by omega, by omega, v0, v1, by omega⟩
  · simp [c1]
    exact h p v o5 ho5 ⟨p0, by omega, v0, v1, by omega⟩
theorem sp_idn {p v : Int} {b : Bool} {tg : Tg (m__law_identifier, R, Xp)} (t : TagOk p v) (h : R (.d (.lst (iL (idn p v b)))) hp) : mfH m__law_identifier hp [.d (.tup [.int p, .int v]), .d (.bl b)] R Xp tg := by
  obtain ⟨p0, p3, v0, v1, _⟩ := t
  refine mfH_of ?_
  unfold m__law_identifier
  unfold idn at h
  by_cases c : v ≤ 30
  · rw [if_pos c] at h
    cases b
    · simp at h
      simp [c]
      exact h
    · simp at h
      simp [c]
      exact h
  · rw [if_neg c] at h
    have e : (if v < 128 then [v] else [128 + v / 128, v % 128]) = chn v := (chn2 v0 v1).symm
    rw [e] at h
    cases b
    · simp [c]
      refine sp_chain v0 (by omega) ?_
      have := (chn_len (x := v) (by omega)).2
      simp at h
      simp
      exact ⟨by omega, h⟩
    · simp [c]
      refine sp_chain v0 (by omega) ?_
      have := (chn_len (x := v) (by omega)).2
      simp at h
      simp
      exact ⟨by omega, h⟩
theorem sp_length_row {l : Int} {f : Nat} {tg : Tg (m__law_length_row, R, Xp)} (l0 : 0 ≤ l) (l1 : l < 2 ^ 40) (hf : f ≤ 6) (h : R (.d (.lst (iL (lenRow l f)))) hp) : mfH m__law_length_row hp [.d (.int l), .d (.int f)] R Xp tg := by
  refine mfH_of ?_
  unfold m__law_length_row
  have k1 : (-4611686018427387904 : Int) ≤ f := by omega
  have k2 : (f : Int) < 4611686018427387904 := by omega
  simp [-x_seq]
  rw [x_seq]
  simp [-x_seq]
  rw [x_seq]
  simp [-x_seq]
  refine seq_cut (fun hp' env' => hp = hp' ∧ ∃ y, env' = [some (.d (.int l)), some (.d (.int f)), some (.d (.lst (iL (dgs f l)))), some (.d (.int (l / 256 ^ f))), y]) (fun M hM => ?_) ?_
  · simp [k1, k2]
    refine forH_rng (fun j hp' env' => hp = hp' ∧ ∃ y, env' = [some (.d (.int l)), some (.d (.int f)), some (.d (.lst (iL (dgs j l)))), some (.d (.int (l / 256 ^ j))), y]) ⟨rfl, _, by simp [dgs]; rfl⟩ ?_ ?_
    · rintro j _ _ N hj ⟨rfl, y, rfl⟩ hN
      simp
      have hd : (dgs j l).length = j := dgs_len j l
      refine ⟨by omega, ?_⟩
      rw [show D.int (l / 256 ^ j % 256) :: iL (dgs j l) = iL (dgs (j + 1) l) by rw [dgs_cons]; rfl, Int.ediv_ediv_of_nonneg (Int.le_of_lt (Int.pow_pos (by omega))), ← Int.pow_succ]
      exact hN _ _ ⟨rfl, _, rfl⟩
    · rintro _ _ ⟨rfl, y, rfl⟩
      exact hM _ _ ⟨rfl, _, rfl⟩
  rintro _ _ ⟨rfl, y, rfl⟩
  unfold lenRow at h
  have pf : (0 : Int) < 256 ^ f := Int.pow_pos (by omega)
  by_cases c : 0 < f ∧ l < 256 ^ f
  · rw [if_pos c] at h
    have e0 : l / 256 ^ f = 0 := Int.ediv_eq_zero_of_lt l0 c.2
    have c1 : 0 < f := c.1
    have hd : (dgs f l).length = f := dgs_len f l
    simp [e0, c1]
    exact ⟨by omega, h⟩
  · rw [if_neg c] at h
    refine seq_cut (fun hp' env' => hp = hp' ∧ env' = [some (.d (.int l)), some (.d (.int f)), some (.d (.lst (iL (dgs f l)))), some (.d (.int (l / 256 ^ f))), y]) (fun M hM => ?_) ?_
    · by_cases c1 : 0 < f
      · have c2 : ¬ l / 256 ^ f = 0 := fun e => by
          have : ¬ l < 256 ^ f := fun q => c ⟨c1, q⟩
          have h1 : 1 ≤ l / 256 ^ f := by
            rw [Int.le_ediv_iff_mul_le pf]
            omega
          omega
        simp [c1, c2]
        exact hM _ _ ⟨rfl, rfl⟩
      · simp [c1]
        exact hM _ _ ⟨rfl, rfl⟩
    rintro _ _ ⟨rfl, rfl⟩
    unfold least at h
    by_cases c1 : l < 128
    · rw [if_pos c1] at h
      simp [c1]
      exact h
    · rw [if_neg c1] at h
      by_cases c2 : l < 256
      · rw [if_pos c2] at h
        simp [c1, c2]
        exact h
      · rw [if_neg c2] at h
        simp [c1, c2]
        exact h
end
end Pl

set_option Elab.async false
set_option linter.all false
set_option maxRecDepth 100000
set_option maxHeartbeats 400000
/-! Pj8: the laws' own plans: octets, trees, strict plans. -/
namespace Pl
open PySem PySem.Spec PyProof.Rows L2 Mp
section
variable {hp : List O} {n : Nat} {o : O} {R : S → List O → Prop} {Xp : MX}
@[simp] theorem shp : shD (.str (Str.ofString "plain")) = true := by decide +kernel
@[simp] theorem shb : shD (.str (Str.ofString "built")) = true := by decide +kernel
@[simp] theorem eqpb : (Str.ofString "built" == Str.ofString "plain") = false := by decide +kernel
theorem planDL_len : ∀ ps : List Plan, (planDL ps).length = ps.length
  | [] => rfl
  | x :: xs => congrArg Nat.succ (planDL_len xs)
theorem planDL_app : ∀ (a b : List Plan), planDL (a ++ b) = planDL a ++ planDL b
  | [], _ => rfl
  | x :: xs, b => by simp only [List.cons_append, planDL, planDL_app xs b]
theorem octsL_app : ∀ (a b : List Plan), octsL (a ++ b) = octsL a ++ octsL b
  | [], _ => rfl
  | x :: xs, b => by simp only [List.cons_append, octsL, octsL_app xs b, List.append_assoc]
theorem treeL_app : ∀ (a b : List Plan) (q : Int), treeL (a ++ b) q = treeL a q ++ treeL b (q + (octsL a).length)
  | [], _, q => by simp [treeL, octsL]
  | x :: xs, b, q => by
    simp only [List.cons_append, treeL, treeL_app xs b, octsL, List.length_append]
    rw [show q + ((octs x).length : Int) + (octsL xs).length = q + (((octs x).length + (octsL xs).length : Nat) : Int) by omega]
theorem octs_inner {p v : Int} {ps : List Plan} {f : Nat} : (octsL ps).length + 2 ≤ (octs (.bu p v ps f)).length := by
  have := idn_len (p := p) (v := v) (b := true)
  have := lenRow_len (l := (octsL ps).length) (f := f - 1)
  simp only [octs]
  split <;> simp <;> omega
theorem sp_plan_octets : ∀ (k : Nat) (p : Plan) {hp : List O} {R : S → List O → Prop} {Xp : MX} {tg : Tg (m__law_plan_octets k, R, Xp)}, dep p < k → planOk p → (octs p).length ≤ 2000000 → R (.d (.lst (iL (octs p)))) hp → mfH (m__law_plan_octets k) hp [.d (planD p)] R Xp tg
  | 0, _, _, _, _, _, hk, _, _, _ => absurd hk (Nat.not_lt_zero _)
  | k + 1, .pl p v c f, hp, R, Xp, tg, hk, ok, hl, h => by
    obtain ⟨t, cb, cl, f4⟩ := ok
    refine mfH_of ?_
    show b__law_plan_octets (m__law_plan_octets k) hp _ R Xp
    unfold b__law_plan_octets
    simp only [octs, List.length_append] at hl
    simp [planD]
    refine sp_idn t ?_
    simp
    refine sp_length_row (by omega) (by omega) (by omega) ?_
    simp
    refine ⟨by omega, by omega, ?_⟩
    simp only [octs] at h
    rw [List.append_assoc] at h
    exact h
  | k + 1, .bu p v ps f, hp, R, Xp, tg, hk, ok, hl, h => by
    obtain ⟨t, okL, f5⟩ := ok
    have oi := octs_inner (p := p) (v := v) (ps := ps) (f := f)
    simp only [dep] at hk
    refine mfH_of ?_
    show b__law_plan_octets (m__law_plan_octets k) hp _ R Xp
    unfold b__law_plan_octets
    simp [planD, -x_seq]
    rw [x_seq]
    simp [-x_seq]
    rw [x_seq]
    simp [-x_seq]
    refine seq_cut (fun hp' env' => hp = hp' ∧ ∃ y, env' = [some (.d (planD (.bu p v ps f))), none, some (.d (.lst (iL (octsL ps)))), y]) (fun M hM => ?_) ?_
    · simp
      refine forH_of (fun ds hp' env' => hp = hp' ∧ ∃ (pa pb : List Plan) (y : Option S), ps = pa ++ pb ∧ ds = planDL pb ∧ env' = [some (.d (planD (.bu p v ps f))), none, some (.d (.lst (iL (octsL pa)))), y]) ⟨rfl, [], ps, _, rfl, rfl, rfl⟩ ?_ ?_
      · rintro d ds _ _ N ⟨rfl, pa, pb, y, e1, e2, rfl⟩ hN
        cases pb with
        | nil => cases e2
        | cons x pb =>
          simp only [planDL, List.cons.injEq] at e2
          obtain ⟨rfl, rfl⟩ := e2
          have hx : x ∈ ps := by rw [e1]; simp
          have hdx := dep_mem hx
          have hlx : (octsL pa).length + (octs x).length ≤ (octsL ps).length := by rw [e1, octsL_app]; simp only [octsL, List.length_append]; omega
          simp
          refine sp_plan_octets k x (by omega) (ok_mem okL hx) (by omega) ?_
          simp
          have e3 : octsL pa ++ octs x = octsL (pa ++ [x]) := by rw [octsL_app]; simp [octsL]
          refine ⟨by omega, ?_⟩
          rw [e3]
          exact hN _ _ trivial ⟨rfl, pa ++ [x], pb, _, by rw [e1]; simp, rfl, rfl⟩
      · rintro _ _ ⟨rfl, pa, pb, y, e1, e2, rfl⟩
        cases pb with
        | cons x pb => cases e2
        | nil =>
          rw [List.append_nil] at e1
          subst e1
          exact hM _ _ ⟨rfl, _, rfl⟩
    rintro _ _ ⟨rfl, y, rfl⟩
    rw [x_seq]
    simp [planD, -x_seq]
    refine sp_idn t ?_
    simp [-x_seq]
    have il := idn_len (p := p) (v := v) (b := true)
    simp only [octs] at h hl
    by_cases c : f = 0 ∨ 65535 < (octsL ps).length
    · rw [if_pos c] at h hl
      simp only [List.length_append, List.length_singleton] at hl
      have fin : (idn p v true).length + 1 ≤ 16777216 ∧ (idn p v true).length + 1 + (octsL ps).length ≤ 16777216 ∧ (idn p v true).length + (1 + ((octsL ps).length + 1)) ≤ 16777216 := by omega
      by_cases c0 : f = 0
      · subst c0
        simp at h
        simp
        exact ⟨by omega, by omega, by omega, h⟩
      · have c1 : (65535 : Int) < (octsL ps).length := by omega
        simp at h
        simp [c0, c1]
        exact ⟨by omega, by omega, by omega, h⟩
    · rw [if_neg c] at h hl
      simp only [List.length_append] at hl
      have c0 : ¬ f = 0 := fun e => c (.inl e)
      have c1 : ¬ (65535 : Int) < (octsL ps).length := by omega
      simp [c0, c1]
      have ef : (f : Int) - 1 = ((f - 1 : Nat) : Int) := by omega
      rw [ef]
      refine sp_length_row (by omega) (by omega) (by omega) ?_
      simp at h
      simp
      exact ⟨by omega, by omega, h⟩
theorem hdLen_octs {p v : Int} {ps : List Plan} {f : Nat} : hdLen (.bu p v ps f) + (octsL ps).length + (if f = 0 ∨ 65535 < (octsL ps).length then 1 else 0) = (octs (.bu p v ps f)).length := by
  simp only [hdLen, octs]
  by_cases c : f = 0 ∨ 65535 < (octsL ps).length
  · simp only [if_pos c]; simp; omega
  · simp only [if_neg c]; simp; omega
theorem treeL_len : ∀ (ps : List Plan) (q : Int), (treeL ps q).length = ps.length
  | [], _ => rfl
  | x :: xs, q => congrArg Nat.succ (treeL_len xs _)
theorem tree_at4 {x : Plan} {q : Int} : ∃ a b c d, tree x q = .tup [a, b, c, d, .int (q + (octs x).length)] := by
  cases x with
  | pl p v c f => exact ⟨_, _, _, _, rfl⟩
  | bu p v ps f => exact ⟨_, _, _, _, by rw [tree]⟩
@[simp] theorem at_4' {τ : Type} {x y z t u : τ} {r : List τ} : atI (x :: y :: z :: t :: u :: r) 4 = some u := (atI_nat (by omega) (by simp; omega)).trans rfl
theorem len_octsL : ∀ ps : List Plan, 2 * ps.length ≤ (octsL ps).length
  | [] => by simp [octsL]
  | x :: xs => by
    have := octs_len x
    have := len_octsL xs
    simp only [octsL, List.length_append, List.length_cons]
    omega
theorem sp_plan_tree : ∀ (k : Nat) (p : Plan) (q : Int) {hp : List O} {R : S → List O → Prop} {Xp : MX} {tg : Tg (m__law_plan_tree k, R, Xp)}, dep p < k → dep p < 22 → planOk p → (octs p).length ≤ 2000000 → R (.d (tree p q)) hp → mfH (m__law_plan_tree k) hp [.d (planD p), .d (.int q)] R Xp tg
  | 0, _, _, _, _, _, _, hk, _, _, _, _ => absurd hk (Nat.not_lt_zero _)
  | k + 1, .pl p v c f, q, hp, R, Xp, tg, hk, h22, ok, hl, h => by
    have ok' := ok
    obtain ⟨t, cb, cl, f4⟩ := ok
    refine mfH_of ?_
    show b__law_plan_tree (m__law_plan_tree k) hp _ R Xp
    unfold b__law_plan_tree
    simp [-x_seq]
    rw [x_seq]
    simp [-x_seq]
    refine sp_plan_octets 22 (.pl p v c f) h22 ok' hl ?_
    simp only [tree] at h
    simp [planD]
    exact h
  | k + 1, .bu p v ps f, q, hp, R, Xp, tg, hk, h22, ok, hl, h => by
    have ok' := ok
    obtain ⟨t, okL, f5⟩ := ok
    have oi := octs_inner (p := p) (v := v) (ps := ps) (f := f)
    have ll := len_octsL ps
    have ho := hdLen_octs (p := p) (v := v) (ps := ps) (f := f)
    have hdx : ∀ x ∈ ps, dep x < k ∧ dep x < 22 := fun x hx => by have := dep_mem hx; simp only [dep] at hk h22; omega
    have hlx : ∀ pa x pb, ps = pa ++ x :: pb → (octsL pa).length + (octs x).length ≤ (octsL ps).length := fun pa x pb e => by rw [e, octsL_app]; simp only [octsL, List.length_append]; omega
    refine mfH_of ?_
    show b__law_plan_tree (m__law_plan_tree k) hp _ R Xp
    unfold b__law_plan_tree
    simp [-x_seq]
    rw [x_seq]
    simp [-x_seq]
    refine sp_plan_octets 22 (.bu p v ps f) h22 ok' hl ?_
    simp [-x_seq]
    rw [x_seq]
    simp [planD, -x_seq]
    rw [x_seq]
    simp [-x_seq]
    refine seq_cut (fun hp' env' => hp = hp' ∧ ∃ y, env' = [some (.d (planD (.bu p v ps f))), some (.d (.int q)), some (.d (.int (q + (octs (.bu p v ps f)).length))), some (.d (.int (octsL ps).length)), y, none, none, none]) (fun M hM => ?_) ?_
    · simp
      refine forH_of (fun ds hp' env' => hp = hp' ∧ ∃ (pa pb : List Plan) (y : Option S), ps = pa ++ pb ∧ ds = planDL pb ∧ env' = [some (.d (planD (.bu p v ps f))), some (.d (.int q)), some (.d (.int (q + (octs (.bu p v ps f)).length))), some (.d (.int (octsL pa).length)), y, none, none, none]) ⟨rfl, [], ps, _, rfl, rfl, rfl⟩ ?_ ?_
      · rintro d ds _ _ N ⟨rfl, pa, pb, y, e1, e2, rfl⟩ hN
        cases pb with
        | nil => cases e2
        | cons x pb =>
          simp only [planDL, List.cons.injEq] at e2
          obtain ⟨rfl, rfl⟩ := e2
          have hx : x ∈ ps := by rw [e1]; simp
          have hl2 := hlx pa x pb e1
          simp
          refine sp_plan_octets 22 x (hdx x hx).2 (ok_mem okL hx) (by omega) ?_
          have e3 : ((octsL pa).length : Int) + (octs x).length = ((octsL (pa ++ [x])).length : Int) := by rw [octsL_app]; simp [octsL]
          simp
          rw [e3]
          exact hN _ _ trivial ⟨rfl, pa ++ [x], pb, _, by rw [e1]; simp, rfl, rfl⟩
      · rintro _ _ ⟨rfl, pa, pb, y, e1, e2, rfl⟩
        cases pb with
        | cons x pb => cases e2
        | nil =>
          rw [List.append_nil] at e1
          subst e1
          exact hM _ _ ⟨rfl, _, rfl⟩
    rintro _ _ ⟨rfl, y, rfl⟩
    rw [x_seq]
    simp [-x_seq]
    refine seq_cut (fun hp' env' => hp = hp' ∧ env' = [some (.d (planD (.bu p v ps f))), some (.d (.int q)), some (.d (.int (q + (octs (.bu p v ps f)).length))), some (.d (.int (octsL ps).length)), y, some (.d (.int (q + hdLen (.bu p v ps f)))), none, none]) (fun M hM => ?_) ?_
    · by_cases c0 : f = 0
      · have c := (.inl c0 : f = 0 ∨ 65535 < (octsL ps).length)
        rw [if_pos c] at ho
        have e : q + (octs (.bu p v ps f)).length - (octsL ps).length - 1 = q + hdLen (.bu p v ps f) := by omega
        simp [planD, c0]
        rw [c0] at e
        rw [e]
        exact hM _ _ ⟨rfl, by rw [c0]; rfl⟩
      · by_cases c1 : (65535 : Int) < (octsL ps).length
        · have c := (.inr (by omega) : f = 0 ∨ 65535 < (octsL ps).length)
          rw [if_pos c] at ho
          have e : q + (octs (.bu p v ps f)).length - (octsL ps).length - 1 = q + hdLen (.bu p v ps f) := by omega
          simp [planD, c0, c1]
          rw [e]
          exact hM _ _ ⟨rfl, rfl⟩
        · have c : ¬ (f = 0 ∨ 65535 < (octsL ps).length) := fun e => e.elim c0 fun e => c1 (by omega)
          rw [if_neg c] at ho
          have e : q + (octs (.bu p v ps f)).length - (octsL ps).length = q + hdLen (.bu p v ps f) := by omega
          simp [planD, c0, c1]
          rw [e]
          exact hM _ _ ⟨rfl, rfl⟩
    rintro _ _ ⟨rfl, rfl⟩
    rw [x_seq]
    simp [-x_seq]
    refine seq_cut (fun hp' env' => ∃ y z w, hp' = hp ++ [.lst (treeL ps (q + hdLen (.bu p v ps f)))] ∧ env' = [some (.d (planD (.bu p v ps f))), some (.d (.int q)), some (.d (.int (q + (octs (.bu p v ps f)).length))), some (.d (.int (octsL ps).length)), y, z, some (.mu hp.length), w]) (fun M hM => ?_) ?_
    · simp [planD]
      refine forH_of (fun ds hp' env' => ∃ (pa pb : List Plan) (y w : Option S), ps = pa ++ pb ∧ ds = planDL pb ∧ hp' = hp ++ [.lst (treeL pa (q + hdLen (.bu p v ps f)))] ∧ env' = [some (.d (planD (.bu p v ps f))), some (.d (.int q)), some (.d (.int (q + (octs (.bu p v ps f)).length))), some (.d (.int (octsL ps).length)), y, some (.d (.int (q + hdLen (.bu p v ps f) + (octsL pa).length))), some (.mu hp.length), w]) ⟨[], ps, y, none, rfl, rfl, rfl, by simp [octsL, planD]⟩ ?_ ?_
      · rintro d ds _ _ N ⟨pa, pb, y, w, e1, e2, rfl, rfl⟩ hN
        cases pb with
        | nil => cases e2
        | cons x pb =>
          simp only [planDL, List.cons.injEq] at e2
          obtain ⟨rfl, rfl⟩ := e2
          have hx : x ∈ ps := by rw [e1]; simp
          have hl2 := hlx pa x pb e1
          simp
          refine sp_plan_tree k x _ (hdx x hx).1 (hdx x hx).2 (ok_mem okL hx) (by omega) ?_
          obtain ⟨a, b, c, d, e4⟩ := tree_at4 (x := x) (q := q + hdLen (.bu p v ps f) + (octsL pa).length)
          simp [e4]
          rw [← e4]
          have hpl : pa.length ≤ ps.length := by rw [e1]; simp
          refine ⟨by rw [treeL_len]; omega, ?_⟩
          have e5 : treeL pa (q + hdLen (.bu p v ps f)) ++ [tree x (q + hdLen (.bu p v ps f) + (octsL pa).length)] = treeL (pa ++ [x]) (q + hdLen (.bu p v ps f)) := by rw [treeL_app]; rfl
          have e6 : q + (hdLen (.bu p v ps f) : Int) + (octsL pa).length + (octs x).length = q + hdLen (.bu p v ps f) + ((octsL (pa ++ [x])).length : Int) := by rw [octsL_app]; simp [octsL]; omega
          rw [e5, e6]
          exact hN _ _ trivial ⟨pa ++ [x], pb, _, _, by rw [e1]; simp, rfl, rfl, rfl⟩
      · rintro _ _ ⟨pa, pb, y, w, e1, e2, rfl, rfl⟩
        cases pb with
        | cons x pb => cases e2
        | nil =>
          rw [List.append_nil] at e1
          subst e1
          exact hM _ _ ⟨_, _, _, rfl, rfl⟩
    rintro _ _ ⟨y, z, w, rfl, rfl⟩
    simp only [tree] at h
    simp [planD, treeL_len]
    exact h
theorem stpD : ∀ ps : List Plan, (stpL ps).length = ps.length
  | [] => rfl
  | x :: xs => congrArg Nat.succ (stpD xs)
theorem stpL_app : ∀ (a b : List Plan), stpL (a ++ b) = stpL a ++ stpL b
  | [], _ => rfl
  | x :: xs, b => by simp only [List.cons_append, stpL, stpL_app xs b]
theorem sp_strict_plan : ∀ (k : Nat) (p : Plan) {hp : List O} {R : S → List O → Prop} {Xp : MX} {tg : Tg (m__law_strict_plan k, R, Xp)}, dep p < k → (octs p).length ≤ 2000000 → R (.d (planD (stp p))) hp → mfH (m__law_strict_plan k) hp [.d (planD p)] R Xp tg
  | 0, _, _, _, _, _, hk, _, _ => absurd hk (Nat.not_lt_zero _)
  | k + 1, .pl p v c f, hp, R, Xp, tg, hk, hl, h => by
    refine mfH_of ?_
    show b__law_strict_plan (m__law_strict_plan k) hp _ R Xp
    unfold b__law_strict_plan
    simp only [stp, planD] at h
    simp [planD]
    exact h
  | k + 1, .bu p v ps f, hp, R, Xp, tg, hk, hl, h => by
    have oi := octs_inner (p := p) (v := v) (ps := ps) (f := f)
    have ll := len_octsL ps
    have hdx : ∀ x ∈ ps, dep x < k := fun x hx => by have := dep_mem hx; simp only [dep] at hk; omega
    refine mfH_of ?_
    show b__law_strict_plan (m__law_strict_plan k) hp _ R Xp
    unfold b__law_strict_plan
    simp only [stp, planD] at h
    simp [planD]
    refine compH_of (fun acc rest hp' => hp' = hp ∧ ∃ pa pb : List Plan, ps = pa ++ pb ∧ acc = planDL (stpL pa) ∧ rest = planDL pb) (by rw [planDL_len]; show ps.length ≤ 16777216; omega) ⟨rfl, [], ps, rfl, rfl, rfl⟩ ?_ ?_
    · rintro acc d r _ N ⟨rfl, pa, pb, e1, e2, e3⟩ hN
      cases pb with
      | nil => cases e3
      | cons x pb =>
        simp only [planDL, List.cons.injEq] at e3
        obtain ⟨rfl, rfl⟩ := e3
        have hx : x ∈ ps := by rw [e1]; simp
        have hl2 : (octs x).length ≤ (octsL ps).length := by rw [e1, octsL_app]; simp only [octsL, List.length_append]; omega
        simp
        refine sp_strict_plan k x (hdx x hx) (by omega) ?_
        simp
        exact hN _ _ trivial ⟨rfl, pa ++ [x], pb, by rw [e1]; simp, by rw [stpL_app, planDL_app, e2]; rfl, rfl⟩
    · rintro acc _ ⟨rfl, pa, pb, e1, e2, e3⟩
      cases pb with
      | cons x pb => cases e3
      | nil =>
        rw [List.append_nil] at e1
        subst e1 e2
        simp [planDL_len, stpD]
        exact h
end
end Pl

set_option Elab.async false
set_option linter.all false
set_option maxRecDepth 100000
set_option maxHeartbeats 400000
/-! Pj9: plans are drawn. -/
namespace Pl
open PySem PySem.Spec PyProof.Rows L2 Mp
section
variable {hp : List O} {n : Nat} {o : O} {R : S → List O → Prop} {Xp : MX}
theorem idn_le {p v : Int} {b : Bool} : (idn p v b).length ≤ 3 := by
  unfold idn
  by_cases c : v ≤ 30
  · rw [if_pos c]; simp
  · rw [if_neg c]
    by_cases c2 : v < 128
    · rw [if_pos c2]; simp
    · rw [if_neg c2]; simp
theorem least_le {l : Int} : (least l).length ≤ 3 := by
  unfold least
  split
  · simp
  · split <;> simp
theorem lenRow_le {l : Int} {f : Nat} (hf : f ≤ 4) : (lenRow l f).length ≤ 5 := by
  unfold lenRow
  split
  · simp [dgs_len]; omega
  · have := least_le (l := l); omega
theorem octs_pl {p v : Int} {c : List Int} {f : Nat} (hf : f ≤ 4) : (octs (.pl p v c f)).length ≤ c.length + 8 := by
  have := idn_le (p := p) (v := v) (b := false)
  have := lenRow_le (l := c.length) hf
  simp only [octs, List.length_append]
  omega
theorem octs_bu {p v : Int} {ps : List Plan} {f : Nat} (hf : f ≤ 5) : (octs (.bu p v ps f)).length ≤ (octsL ps).length + 8 := by
  have := idn_le (p := p) (v := v) (b := true)
  have := lenRow_le (l := (octsL ps).length) (f := f - 1) (by omega)
  simp only [octs]
  split <;> simp <;> omega
theorem planOkL_app : ∀ {a b : List Plan}, planOkL a → planOkL b → planOkL (a ++ b)
  | [], _, _, g => g
  | x :: xs, _, h, g => ⟨h.1, planOkL_app h.2 g⟩
theorem depL_app : ∀ {a b : List Plan}, depL (a ++ b) = max (depL a) (depL b)
  | [], b => by simp [depL]
  | x :: xs, b => by simp only [List.cons_append, depL, depL_app (a := xs)]; omega
def PlanB (d : Nat) (p : Plan) : Prop := planOk p ∧ dep p ≤ d ∧ (octs p).length + 4 ≤ 1604 * 3 ^ d
theorem sp_plan : ∀ (k : Nat) (d : Nat) (lg : Int) {hp : List O} {o : O} {R : S → List O → Prop} {Xp : MX} {tg : Tg (m__law_plan k, R, Xp)}, d < k → d ≤ 10 → 0 ≤ lg → lg ≤ 1500 → hp[n]? = some o → St o → (∀ (p : Plan) o', St o' → PlanB d p → R (.d (planD p)) (hp.set n o')) → mfH (m__law_plan k) hp [.mu n, .d (.int d), .d (.int lg)] R Xp tg
  | 0, _, _, _, _, _, _, _, hk, _, _, _, _, _, _ => absurd hk (Nat.not_lt_zero _)
  | k + 1, d, lg, hp, o, R, Xp, tg, hk, h10, g0, g1, ho, hs, h => by
    have hn : n < hp.length := (List.getElem?_eq_some_iff.mp ho).1
    have a0 : ∀ (o' : O) (l : List O), (hp.set n o' ++ l)[n]? = some o' := fun o' l => app_at3 hn
    have a1 := set_at ho
    refine mfH_of ?_
    show b__law_plan (m__law_plan k) hp _ R Xp
    unfold b__law_plan
    simp [-x_seq]
    rw [x_seq]
    simp [-x_seq]
    refine sp_tag ho hs fun p v o1 ho1 t => ?_
    simp [-x_seq]
    refine seq_cut (fun hp' env' => ∃ o', St o' ∧ 1 ≤ d ∧ hp' = hp.set n o' ∧ env' = [some (.mu n), some (.d (.int d)), some (.d (.int lg)), some (.d (.tup [.int p, .int v])), none, none, none, none]) (fun M hM => ?_) ?_
    · have pw : (1 : Nat) ≤ 3 ^ d := Nat.one_le_pow _ _ (by omega)
      have plain : ∀ o2, St o2 → mSeq (mAsg (mCall 2 m__law_take [] (mCons (mVar 0) (mCons (mC (.int 4)) mNil))) (mgName 4))
          (mSeq (mIfS (mTest (m2 fEq (mCall 2 m__law_take [] (mCons (mVar 0) (mCons (mC (.int 8)) mNil))) (mC (.int 7)))) (mAsg (mCall 2 m__law_pick [] (mCons (mVar 0) (mCons (mLst (mCons (mC (.int 126)) (mCons (mC (.int 127)) (mCons (mC (.int 128)) (mCons (mC (.int 129)) (mCons (mC (.int 255)) (mCons (mC (.int 256)) (mCons (mC (.int 257)) (mCons (mVar 2) mNil))))))))) mNil))) (mgName 4)) mNext)
          (mSeq (mAsg (mN (fMM (fun i j => if j > i then j else i)) (mCons (mC (.int 0)) (mCons (mN (fMM (fun i j => if j < i then j else i)) (mCons (mVar 4) (mCons (mVar 2) mNil))) mNil))) (mgName 4))
          (mSeq (mAsg (mMulM (mLst (mCons (mCall 1 m__law_octet [] (mCons (mVar 0) mNil)) mNil)) (mVar 4)) (mgName 5))
          (mSeq (mIfS (mTest (m2 (fI0 fun i j => .bl (decide (j < i))) (mVar 4) (mC (.int 0)))) (mAsg (mCall 1 m__law_octet [] (mCons (mVar 0) mNil)) (mgSub (mVar 5) (mCall 2 m__law_take [] (mCons (mVar 0) (mCons (mVar 4) mNil))))) mNext)
          (mRet (mTup (mCons (mC (.str "plain")) (mCons (mVar 3) (mCons (mN fTuple (mCons (mVar 5) mNil)) (mCons (mCall 2 m__law_take [] (mCons (mVar 0) (mCons (mC (.int 5)) mNil))) mNil))))))))))
          ⟨hp.set n o2, [some (.mu n), some (.d (.int d)), some (.d (.int lg)), some (.d (.tup [.int p, .int v])), none, none, none, none], hp.length⟩
          { nx := M, bk := fun _ => False, ct := fun _ => False, rt := retP hp.length false R, ex := fun x hp' => Xp x (List.take hp.length hp') } := fun o2 ho2 => by
        rw [x_seq]
        simp [-x_seq]
        refine s_take (a1 _) ho2 (by omega) fun z o3 ho3 z0 z1 _ => ?_
        simp [-x_seq]
        refine seq_cut (fun hp' env' => ∃ (z : Int) (o' : O), St o' ∧ hp' = hp.set n o' ∧ env' = [some (.mu n), some (.d (.int d)), some (.d (.int lg)), some (.d (.tup [.int p, .int v])), some (.d (.int z)), none, none, none]) (fun M2 hM2 => ?_) ?_
        · simp
          refine s_take (a1 _) ho3 (by omega) fun w o4 ho4 w0 w1 _ => ?_
          by_cases c : w = 7
          · simp [c]
            refine pick_mem (xs := [126, 127, 128, 129, 255, 256, 257, lg]) (a1 _) ho4 (by simp) (by simp) fun y o5 ho5 _ => ?_
            simp
            exact hM2 _ _ ⟨y, o5, ho5, rfl, rfl⟩
          · simp [c]
            exact hM2 _ _ ⟨z, o4, ho4, rfl, rfl⟩
        rintro _ _ ⟨z, o4, ho4, rfl, rfl⟩
        rw [x_seq]
        simp [-x_seq]
        have hz : ∃ m : Nat, (if (0 : Int) < (if lg < z then lg else z) then (if lg < z then lg else z) else 0) = (m : Int) ∧ (m : Int) ≤ lg := by
          by_cases q1 : lg < z
          · rw [if_pos q1]
            by_cases q2 : 0 < lg
            · rw [if_pos q2]; exact ⟨lg.toNat, by omega, by omega⟩
            · rw [if_neg q2]; exact ⟨0, by omega, by omega⟩
          · rw [if_neg q1]
            by_cases q2 : 0 < z
            · rw [if_pos q2]; exact ⟨z.toNat, by omega, by omega⟩
            · rw [if_neg q2]; exact ⟨0, by omega, by omega⟩
        obtain ⟨m, em, hm⟩ := hz
        rw [em]
        rw [x_seq]
        simp [-x_seq]
        refine s_octet (a1 _) ho4 fun x o5 ho5 x0 x1 => ?_
        have kb1 : (-9223372036854775808 : Int) ≤ m := by omega
        have kb2 : (m : Int) < 9223372036854775808 := by omega
        have kb3 : m ≤ 16777216 := by omega
        simp [-x_seq, kb1, kb2, kb3]
        refine seq_cut (fun hp' env' => ∃ (c : List Int) (o' : O), St o' ∧ Bd 0 255 c ∧ c.length = m ∧ hp' = hp.set n o' ++ [.lst (iL c)] ∧ env' = [some (.mu n), some (.d (.int d)), some (.d (.int lg)), some (.d (.tup [.int p, .int v])), some (.d (.int m)), some (.mu hp.length), none, none]) (fun M2 hM2 => ?_) ?_
        · by_cases c0 : 0 < m
          · simp [c0]
            refine s_octet (a0 _ _) ho5 fun y o6 ho6 y0 y1 => ?_
            rw [app_set4 hn]
            simp
            refine s_take (a0 _ _) ho6 (by omega) fun w o7 ho7 w0 w1 w2 => ?_
            rw [app_set4 hn]
            obtain ⟨w, rfl⟩ := Int.eq_ofNat_of_zero_le w0
            have hw1 : w < m := by omega
            have e1 : ixN m (w : Int) = some w := (ixN_nat (by omega) (by omega)).trans (by simp)
            simp [e1]
            refine hM2 _ _ ⟨(List.replicate m x).set w y, o7, ho7, bd_set (fun u hu => by rw [List.eq_of_mem_replicate hu]; exact ⟨x0, x1⟩) y0 y1, by simp, rfl, rfl⟩
          · simp [c0]
            refine hM2 _ _ ⟨List.replicate m x, o5, ho5, fun u hu => by rw [List.eq_of_mem_replicate hu]; exact ⟨x0, x1⟩, by simp, rfl, rfl⟩
        rintro _ _ ⟨c, o6, ho6, hc, lc, rfl, rfl⟩
        simp [lc]
        refine s_take (a0 _ _) ho6 (by omega) fun f o7 ho7 f0 f1 _ => ?_
        rw [app_set4 hn]
        obtain ⟨f, rfl⟩ := Int.eq_ofNat_of_zero_le f0
        simp
        have f4 : f ≤ 4 := by omega
        have := octs_pl (p := p) (v := v) (c := c) f4
        exact h (.pl p v c f) o7 ho7 ⟨⟨t, hc, by omega, f4⟩, by simp [dep], by omega⟩
      by_cases c1 : (d : Int) < 1
      · simp [-x_seq, c1]
        exact plain o1 ho1
      · simp [-x_seq, c1]
        refine s_take (a1 _) ho1 (by omega) fun w o2 ho2 w0 w1 _ => ?_
        by_cases c2 : w = 0
        · simp [-x_seq, c2]
          exact plain o2 ho2
        · simp [-x_seq, c2]
          exact hM _ _ ⟨o2, ho2, by omega, rfl, rfl⟩
    rintro _ _ ⟨o2, ho2, d1, rfl, rfl⟩
    rw [x_seq]
    simp [-x_seq]
    rw [x_seq]
    simp [-x_seq]
    refine s_take (a0 _ _) ho2 (by omega) fun z o3 ho3 z0 z1 _ => ?_
    rw [app_set4 hn]
    obtain ⟨m, rfl⟩ := Int.eq_ofNat_of_zero_le z0
    have k1 : (-4611686018427387904 : Int) ≤ m := by omega
    have k2 : (m : Int) < 4611686018427387904 := by omega
    have hm3 : m ≤ 3 := by omega
    obtain ⟨d', rfl⟩ : ∃ d', d = d' + 1 := ⟨d - 1, by omega⟩
    have pw : (1 : Nat) ≤ 3 ^ d' := Nat.one_le_pow _ _ (by omega)
    have ps4 : 3 ^ (d' + 1) = 3 * 3 ^ d' := by rw [Nat.pow_succ, Nat.mul_comm]
    simp [-x_seq, k1, k2]
    refine forH_rng (fun j hp' env' => ∃ (ps : List Plan) (o' : O) (y : Option S), St o' ∧ ps.length = j ∧ planOkL ps ∧ depL ps ≤ d' ∧ (octsL ps).length + 4 * j ≤ j * (1604 * 3 ^ d') ∧ hp' = hp.set n o' ++ [.lst (planDL ps)] ∧ env' = [some (.mu n), some (.d (.int ((d' : Int) + 1))), some (.d (.int lg)), some (.d (.tup [.int p, .int v])), none, none, some (.mu hp.length), y]) ⟨[], o3, none, ho3, rfl, trivial, by simp [depL], by simp [octsL], rfl, rfl⟩ ?_ ?_
    · rintro j _ _ N hj ⟨ps, o4, y, ho4, lp, okL, dL, oL, rfl, rfl⟩ hN
      simp
      refine sp_plan k d' (lg / 4) (by omega) (by omega) (by omega) (by omega) (a0 _ _) ho4 fun x o5 ho5 ⟨b1, b2, b3⟩ => ?_
      rw [app_set4 hn]
      simp
      refine ⟨by rw [planDL_len]; omega, ?_⟩
      refine hN _ _ ⟨ps ++ [x], o5, _, ho5, by simp [lp], planOkL_app okL ⟨b1, trivial⟩, by rw [depL_app]; simp only [depL]; omega, ?_, by rw [planDL_app]; rfl, rfl⟩
      rw [octsL_app]
      simp only [octsL, List.append_nil, List.length_append]
      have e9 : (j + 1) * (1604 * 3 ^ d') = j * (1604 * 3 ^ d') + 1604 * 3 ^ d' := Nat.succ_mul _ _
      omega
    · rintro _ _ ⟨ps, o4, y, ho4, lp, okL, dL, oL, rfl, rfl⟩
      simp
      refine s_take (a0 _ _) ho4 (by omega) fun f o5 ho5 f0 f1 _ => ?_
      rw [app_set4 hn]
      obtain ⟨f, rfl⟩ := Int.eq_ofNat_of_zero_le f0
      simp [planDL_len]
      have f5 : f ≤ 5 := by omega
      have ob := octs_bu (p := p) (v := v) (ps := ps) f5
      have hm4 : m = 0 ∨ m = 1 ∨ m = 2 ∨ m = 3 := by omega
      exact h (.bu p v ps f) o5 ho5 ⟨⟨t, okL, f5⟩, by simp only [dep]; omega, by rw [ps4]; rcases hm4 with rfl | rfl | rfl | rfl <;> omega⟩
end
end Pl

set_option Elab.async false
set_option linter.all false
set_option maxRecDepth 100000
set_option maxHeartbeats 400000
/-! Pk1: deep plans are drawn. -/
namespace Pl
open PySem PySem.Spec PyProof.Rows L2 Mp
section
variable {hp : List O} {n : Nat} {o : O} {R : S → List O → Prop} {Xp : MX}
theorem octsL_one {x : Plan} : (octsL [x]).length = (octs x).length := by simp [octsL]
theorem sp_deep_plan {m : Nat} {tg : Tg (m__law_deep_plan, R, Xp)} (hm : m ≤ 100) (ho : hp[n]? = some o) (hs : St o) (h : ∀ (p : Plan) o', St o' → planOk p → dep p ≤ m → (octs p).length ≤ 20 * m + 20 → R (.d (planD p)) (hp.set n o')) : mfH m__law_deep_plan hp [.mu n, .d (.int m)] R Xp tg := by
  have hn : n < hp.length := (List.getElem?_eq_some_iff.mp ho).1
  have a1 := set_at ho
  refine mfH_of ?_
  unfold m__law_deep_plan
  simp [-x_seq]
  rw [x_seq]
  simp [-x_seq]
  refine s_take ho hs (by omega) fun mx o1 ho1 mx0 mx1 _ => ?_
  simp [-x_seq]
  rw [x_seq]
  simp [-x_seq]
  refine s_take (a1 _) ho1 (by omega) fun sa o2 ho2 _ _ _ => ?_
  simp [-x_seq]
  refine s_take (a1 _) ho2 (by omega) fun sb o3 ho3 _ _ _ => ?_
  simp [-x_seq]
  rw [x_seq]
  simp [-x_seq]
  refine sp_tag (a1 _) ho3 fun p v o4 ho4 t => ?_
  simp [-x_seq]
  refine pick_memD (xs := [.tup [], .tup [.int 5], .tup [.int 5, .int 0]]) (a1 _) ho4 (by simp) (by simp) fun d o5 ho5 hd => ?_
  obtain ⟨c, rfl, hc, lc⟩ : ∃ c : List Int, d = .tup (iL c) ∧ Bd 0 255 c ∧ c.length ≤ 2 := by
    simp at hd
    rcases hd with rfl | rfl | rfl
    · exact ⟨[], rfl, Bd.nil, by simp⟩
    · exact ⟨[5], rfl, fun x hx => by simp at hx; omega, by simp⟩
    · exact ⟨[5, 0], rfl, fun x hx => by simp at hx; omega, by simp⟩
  have k1 : (-4611686018427387904 : Int) ≤ m := by omega
  have k2 : (m : Int) < 4611686018427387904 := by omega
  simp [-x_seq]
  rw [x_seq]
  have p0 := octs_pl (p := p) (v := v) (c := c) (f := 0) (by omega)
  simp [-x_seq, k1, k2]
  refine forH_rng (fun j hp' env' => ∃ (q : Plan) (o' : O) (y z w : Option S), St o' ∧ planOk q ∧ dep q ≤ j ∧ (octs q).length ≤ 20 * j + 20 ∧ hp' = hp.set n o' ∧ env' = [some (.mu n), some (.d (.int m)), some (.d (.int mx)), some (.d (.lst [.int sa, .int sb])), some (.d (planD q)), y, z, w]) ⟨.pl p v c 0, o5, none, none, none, ho5, ⟨t, hc, by omega, by omega⟩, by simp [dep], by omega, rfl, rfl⟩ ?_ ?_
  · rintro j _ _ N hj ⟨q, o6, y, z, w, ho6, okq, dq, lq, rfl, rfl⟩ hN
    simp [-x_seq]
    rw [x_seq]
    simp [-x_seq]
    refine seq_cut (fun hp' env' => ∃ (ps : List Plan) (o' : O), St o' ∧ planOkL ps ∧ depL ps ≤ j ∧ (octsL ps).length ≤ 20 * j + 20 ∧ ps.length ≤ 1 ∧ hp' = hp.set n o' ∧ env' = [some (.mu n), some (.d (.int m)), some (.d (.int mx)), some (.d (.lst [.int sa, .int sb])), some (.d (planD q)), some (.d (.int j)), some (.d (.tup (planDL ps))), w]) (fun M hM => ?_) ?_
    · have keep : ∀ o', St o' → M ⟨hp.set n o', [some (.mu n), some (.d (.int m)), some (.d (.int mx)), some (.d (.lst [.int sa, .int sb])), some (.d (planD q)), some (.d (.int j)), some (.d (.tup [planD q])), w], hp.length⟩ := fun o' ho' => hM _ _ ⟨[q], o', ho', ⟨okq, trivial⟩, by simp only [depL]; omega, by rw [octsL_one]; exact lq, by simp, rfl, rfl⟩
      by_cases c0 : j = 0
      · simp [c0]
        refine s_take (a1 _) ho6 (by omega) fun u o7 ho7 _ _ _ => ?_
        by_cases c1 : u = 0
        · simp [c1]
          exact hM _ _ ⟨[], o7, ho7, trivial, by simp [depL], by simp [octsL], by simp, rfl, rfl⟩
        · simp [c1]
          exact keep o7 ho7
      · simp [c0]
        exact keep o6 ho6
    rintro _ _ ⟨ps, o7, ho7, okL, dL, oL, lps, rfl, rfl⟩
    refine seq_cut (fun hp' env' => ∃ (ps : List Plan) (o' : O), St o' ∧ planOkL ps ∧ depL ps ≤ j ∧ (octsL ps).length ≤ 20 * j + 32 ∧ ps.length ≤ 2 ∧ hp' = hp.set n o' ∧ env' = [some (.mu n), some (.d (.int m)), some (.d (.int mx)), some (.d (.lst [.int sa, .int sb])), some (.d (planD q)), some (.d (.int j)), some (.d (.tup (planDL ps))), w]) (fun M hM => ?_) ?_
    · simp
      refine brH_of (fun hz => ?_) (fun hz => ?_)
      · simp
        refine sp_tag (a1 _) ho7 fun p2 v2 o8 ho8 t2 => ?_
        have p1 := octs_pl (p := p2) (v := v2) (c := [7]) (f := 0) (by omega)
        simp [planDL_len]
        refine ⟨by omega, ?_⟩
        refine hM _ _ ⟨.pl p2 v2 [7] 0 :: ps, o8, ho8, ⟨⟨t2, fun x hx => by simp at hx; omega, by simp, by omega⟩, okL⟩, by simp only [depL, dep]; omega, ?_, by simp; omega, rfl, rfl⟩
        simp only [octsL, List.length_append]
        simp at p1
        omega
      · simp
        exact hM _ _ ⟨ps, o7, ho7, okL, dL, by omega, by omega, rfl, rfl⟩
    rintro _ _ ⟨ps, o8, ho8, okL, dL, oL, lps, rfl, rfl⟩
    rw [x_seq]
    simp [-x_seq]
    refine seq_cut (fun hp' env' => ∃ (f : Nat) (o' : O), St o' ∧ f ≤ 5 ∧ hp' = hp.set n o' ∧ env' = [some (.mu n), some (.d (.int m)), some (.d (.int mx)), some (.d (.lst [.int sa, .int sb])), some (.d (planD q)), some (.d (.int j)), some (.d (.tup (planDL ps))), some (.d (.int f))]) (fun M hM => ?_) ?_
    · by_cases c1 : mx = 1
      · simp [c1]
        refine pick_Bd (xs := [0, 0, 1, 2, 3, 5]) (lo := 0) (hi := 5) (a1 _) ho8 (by simp) (by simp) (fun x hx => by simp at hx; omega) fun f o9 ho9 f0 f1 => ?_
        obtain ⟨f, rfl⟩ := Int.eq_ofNat_of_zero_le f0
        simp
        exact hM _ _ ⟨f, o9, ho9, by omega, rfl, by rw [c1]⟩
      · simp [c1]
        exact hM _ _ ⟨0, o8, ho8, by omega, rfl, rfl⟩
    rintro _ _ ⟨f, o9, ho9, f5, rfl, rfl⟩
    simp
    refine sp_tag (a1 _) ho9 fun p3 v3 o10 ho10 t3 => ?_
    have ob := octs_bu (p := p3) (v := v3) (ps := ps) f5
    simp
    exact hN _ _ ⟨.bu p3 v3 ps f, o10, _, _, _, ho10, ⟨t3, okL, f5⟩, by simp only [dep]; omega, by omega, rfl, rfl⟩
  · rintro _ _ ⟨q, o6, y, z, w, ho6, okq, dq, lq, rfl, rfl⟩
    simp
    exact h q o6 ho6 okq dq lq
end
end Pl

set_option Elab.async false
set_option linter.all false
set_option maxRecDepth 100000
set_option maxHeartbeats 400000
/-! Pk2: trees are plain data; a plan's octets are octets. -/
namespace Pl
open PySem PySem.Spec PyProof.Rows L2 Mp
theorem plD_ints {k : Nat} {c : List Int} : (iL c).all (plD (k + 1)) = true := by
  rw [List.all_eq_true]
  intro d hd
  obtain ⟨x, _, rfl⟩ := List.mem_map.mp hd
  rfl
theorem plD_tree : ∀ (k : Nat) (p : Plan) (q : Int), 2 * dep p + 4 ≤ k → (octs p).length ≤ 1000000 → plD k (tree p q) = true
  | 0, _, _, h, _ => by omega
  | k + 1, .pl p v c f, q, h, hl => by
    obtain ⟨j, rfl⟩ : ∃ j, k = j + 3 := ⟨k - 3, by omega⟩
    have hc : c.length ≤ 1000000 := by simp only [octs, List.length_append] at hl; omega
    simp only [tree]
    simp [plD, hc]
    exact fun d hd => List.all_eq_true.mp (plD_ints (k := j + 1)) d hd
  | k + 1, .bu p v ps f, q, h, hl => by
    simp only [dep] at h
    obtain ⟨j, rfl⟩ : ∃ j, k = j + 3 := ⟨k - 3, by omega⟩
    have oi := octs_inner (p := p) (v := v) (ps := ps) (f := f)
    have ll := len_octsL ps
    have go : ∀ (ps : List Plan) (q : Int), 2 * depL ps + 4 ≤ j + 2 → (octsL ps).length ≤ 1000000 → ∀ d ∈ treeL ps q, plD (j + 2) d = true := by
      intro ps
      induction ps with
      | nil => intro q _ _ d hd; simp [treeL] at hd
      | cons x xs ih =>
        intro q h1 h2 d hd
        simp only [depL] at h1
        simp only [octsL, List.length_append] at h2
        simp only [treeL] at hd
        rcases List.mem_cons.mp hd with rfl | hd
        · exact plD_tree (j + 2) x q (by omega) (by omega)
        · exact ih _ (by omega) (by omega) d hd
    simp only [tree]
    have hl2 : (treeL ps (q + hdLen (.bu p v ps f))).length ≤ 1000000 := by rw [treeL_len]; omega
    simp [plD, hl2]
    exact go ps _ (by omega) (by omega)
theorem bd_cons {x : Int} {l : List Int} (h0 : 0 ≤ x) (h1 : x ≤ 255) (h : Bd 0 255 l) : Bd 0 255 (x :: l) := fun z hz => by
  rcases List.mem_cons.mp hz with rfl | hz
  · exact ⟨h0, h1⟩
  · exact h z hz
theorem bd_idn {p v : Int} {b : Bool} (t : TagOk p v) : Bd 0 255 (idn p v b) := by
  obtain ⟨p0, p3, v0, v1, _⟩ := t
  have w : (if b then 32 else 0 : Int) = 0 ∨ (if b then 32 else 0 : Int) = 32 := by cases b <;> simp
  unfold idn
  by_cases c : v ≤ 30
  · rw [if_pos c]
    exact bd_cons (by omega) (by omega) Bd.nil
  · rw [if_neg c]
    refine bd_cons (by omega) (by omega) ?_
    by_cases c2 : v < 128
    · rw [if_pos c2]
      exact bd_cons (by omega) (by omega) Bd.nil
    · rw [if_neg c2]
      exact bd_cons (by omega) (by omega) (bd_cons (by omega) (by omega) Bd.nil)
theorem bd_dgs : ∀ (k : Nat) (l : Int), Bd 0 255 (dgs k l)
  | 0, _ => Bd.nil
  | k + 1, l => by
    rw [dgs_cons]
    exact bd_cons (by omega) (by omega) (bd_dgs k l)
theorem bd_lenRow {l : Int} {f : Nat} (l0 : 0 ≤ l) (l1 : l ≤ 65535) (hf : f ≤ 4) : Bd 0 255 (lenRow l f) := by
  rcases lenRow_form l0 l1 hf with ⟨e, hl⟩ | ⟨g, g1, g4, e, _, _⟩
  · rw [e]; exact bd_cons l0 (by omega) Bd.nil
  · rw [e]; exact bd_cons (by omega) (by omega) (bd_dgs g l)
mutual
theorem bd_octs : ∀ p : Plan, planOk p → Bd 0 255 (octs p)
  | .pl p v c f, ⟨t, cb, cl, f4⟩ => by
    simp only [octs]
    exact bd_app (bd_app (bd_idn t) (bd_lenRow (by omega) (by omega) f4)) cb
  | .bu p v ps f, ⟨t, okL, f5⟩ => by
    have h := bd_octsL ps okL
    simp only [octs]
    by_cases c : f = 0 ∨ 65535 < (octsL ps).length
    · rw [if_pos c]
      exact bd_app (bd_app (bd_app (bd_idn t) (bd_cons (by omega) (by omega) Bd.nil)) h) (bd_cons (by omega) (by omega) Bd.nil)
    · rw [if_neg c]
      exact bd_app (bd_app (bd_idn t) (bd_lenRow (by omega) (by omega) (by omega))) h
theorem bd_octsL : ∀ ps : List Plan, planOkL ps → Bd 0 255 (octsL ps)
  | [], _ => Bd.nil
  | x :: xs, h => by
    simp only [octsL]
    exact bd_app (bd_octs x h.1) (bd_octsL xs h.2)
end
mutual
theorem stp_le : ∀ p : Plan, (octs (stp p)).length ≤ 2 * (octs p).length
  | .pl p v c f => by
    have := lenRow_len (l := c.length) (f := f)
    have h1 := least_le (l := c.length)
    have h2 := idn_len (p := p) (v := v) (b := false)
    simp only [stp, octs, List.length_append, lenRow_0]
    omega
  | .bu p v ps f => by
    have h := stpL_le ps
    have oi := octs_inner (p := p) (v := v) (ps := ps) (f := f)
    have h2 := idn_len (p := p) (v := v) (b := true)
    have h3 : (octs (.bu p v ps f)).length ≥ (idn p v true).length + 1 + (octsL ps).length := by
      have := lenRow_len (l := (octsL ps).length) (f := f - 1)
      simp only [octs]
      split <;> simp <;> omega
    have h4 : (octs (stp (.bu p v ps f))).length = (idn p v true).length + 2 + (octsL (stpL ps)).length := by
      simp only [stp, octs]
      rw [if_pos (.inl trivial)]
      simp
      omega
    omega
theorem stpL_le : ∀ ps : List Plan, (octsL (stpL ps)).length ≤ 2 * (octsL ps).length
  | [] => by simp [stpL, octsL]
  | x :: xs => by
    have := stp_le x
    have := stpL_le xs
    simp only [stpL, octsL, List.length_append]
    omega
end
end Pl

set_option Elab.async false
set_option linter.all false
set_option maxRecDepth 100000
set_option maxHeartbeats 400000
namespace Qk07
open PySem PySem.Spec PyProof.Rows L2 Mp Pl
section
variable {hp : List O} {n : Nat} {o : O} {R : S → List O → Prop} {Xp : MX}
def dRr : Rr → D
  | .told d => .tup [.str "told", d]
  | .ref p => .tup [.str "refused", .int p, .bl true]
  | .ended p => .tup [.str "ended", .int p, .bl true]
  | .deep p => .tup [.str "deep", .int p, .bl true]
theorem sp_read {b : Bool} {xs : List Int} {s : S} {tg : Tg (m__law_read, R, Xp)} (hv : val hp s = some (.lst (iL xs))) (hb : Bd 0 255 xs) (hl : xs.length < 800000) (h : R (.d (dRr (readI b xs))) hp) : mfH m__law_read hp [s, .d (.bl b)] R Xp tg := by
  refine mfH_of ?_
  unfold m__law_read
  cases b
  · simp
    refine sp_read_item hv hb hl ?_
    cases e : readI false xs with
    | told d => rw [e] at h; simp [RrK]; exact h
    | ref p => rw [e] at h; simp [RrK]; exact h
    | ended p => rw [e] at h; simp [RrK]; exact h
    | deep p => rw [e] at h; simp [RrK]; exact h
  · simp
    refine sp_read_item hv hb hl ?_
    cases e : readI true xs with
    | told d => rw [e] at h; simp [RrK]; exact h
    | ref p => rw [e] at h; simp [RrK]; exact h
    | ended p => rw [e] at h; simp [RrK]; exact h
    | deep p => rw [e] at h; simp [RrK]; exact h
theorem pl_told {p : Plan} (hd : dep p ≤ 20) (hl : (octs p).length ≤ 1000000) : plD 48 (.tup [.str "told", tree p 0]) = true := by
  have := plD_tree 47 p 0 (by omega) hl
  have h2 : shD (.str (Str.ofString "told")) = true := by decide +kernel
  simp [plD, this, h2]
theorem readI_set0 {b : Bool} {p : Plan} {xs : List Int} (e : xs = (octs p).set 0 0) : readI b xs = .ref 0 := by
  have := octs_len p
  cases h : octs p with
  | nil => rw [h] at this; simp at this
  | cons x l => rw [e, h]; rfl
theorem head_set {xs : List Int} {x : Int} {l : List Int} (e : xs = x :: l) : (xs.set 0 0).set 0 x = xs := by subst e; rfl
theorem sp_plan_reads {b : Bool} {p : Plan} {tg : Tg (m__law_plan_reads, R, Xp)} (ok : planOk p) (hs : b = true → sOk p) (hd : dep p ≤ 20) (hl : (octs p).length ≤ 700000) (h : R (.d (.bl true)) hp) : mfH m__law_plan_reads hp [.d (planD p), .d (.bl b)] R Xp tg := by
  have bd := bd_octs p ok
  have l2 := octs_len p
  obtain ⟨x, l, e⟩ : ∃ x l, octs p = x :: l := by
    cases e : octs p with
    | nil => rw [e] at l2; simp at l2
    | cons x l => exact ⟨x, l, rfl⟩
  have hx := bd x (by rw [e]; exact List.mem_cons_self ..)
  have rI := readI_plan (b := b) ok hs hd
  have a0 : atI (octs p) 0 = some x := by rw [e]; exact at_0
  have i0 : ixN (octs p).length 0 = some 0 := by rw [ixN_nat (by omega) (by omega)]; rfl
  refine mfH_of ?_
  unfold m__law_plan_reads
  simp [-x_seq]
  rw [x_seq]
  simp [-x_seq]
  refine sp_plan_octets 22 p (by omega) ok (by omega) ?_
  simp [-x_seq]
  rw [x_seq]
  simp [-x_seq]
  rw [x_seq]
  simp [-x_seq]
  refine sp_plan_tree 22 p 0 (by omega) (by omega) ok (by omega) ?_
  simp [-x_seq]
  rw [x_seq]
  simp [-x_seq]
  refine sp_read (xs := octs p) (by simp) bd (by omega) ?_
  rw [rI]
  simp [-x_seq, dRr]
  refine eq_pl 48 _ (pl_told hd (by omega)) rfl rfl ?_
  simp [-x_seq]
  rw [x_seq]
  simp [-x_seq, i0]
  rw [x_seq]
  simp [-x_seq]
  refine sp_read (xs := (octs p).set 0 0) (by simp) (bd_set bd (by omega) (by omega)) (by simp; omega) ?_
  rw [readI_set0 rfl]
  simp [-x_seq, dRr]
  refine eq_pl 48 (.tup [.str "refused", .int 0, .bl true]) (by decide +kernel) rfl rfl ?_
  simp [-x_seq]
  rw [x_seq]
  have es : (octs p).set 0 x = octs p := by rw [e]; rfl
  simp [a0, i0]
  rw [es]
  refine sp_read (xs := octs p) (by simp) bd (by omega) ?_
  rw [rI]
  simp [dRr]
  refine eq_pl 48 _ (pl_told hd (by omega)) rfl rfl ?_
  simp
  refine sp_read_item (xs := octs p) (by simp) bd (by omega) ?_
  rw [rI]
  simp [RrK]
  refine eq_pl 48 _ (pl_told hd (by omega)) rfl rfl ?_
  simp
  exact h
theorem pl_end {k : Nat} {x : Str} {i : Int} {b : Bool} (h : shD (.str x) = true) : plD (k + 2) (.tup [.str x, .int i, .bl b]) = true := by simp [plD, h]
theorem sp_ends {b : Bool} {p : Plan} {tg : Tg (m__law_ends, R, Xp)} (ho : hp[n]? = some o) (hs' : St o) (ok : planOk p) (hs : b = true → sOk p) (hd : dep p ≤ 20) (hl : (octs p).length ≤ 700000) (h : ∀ o', St o' → R (.d (.bl true)) (hp.set n o')) : mfH m__law_ends hp [.mu n, .d (.lst (iL (octs p))), .d (.bl b)] R Xp tg := by
  have bd := bd_octs p ok
  have l2 := octs_len p
  have a1 := set_at ho
  refine mfH_of ?_
  unfold m__law_ends
  refine seq_cut (fun hp' env' => ∃ (o' : O) (y : Option S), St o' ∧ hp' = hp.set n o' ∧ env' = [some (.mu n), some (.d (.lst (iL (octs p)))), some (.d (.bl b)), y, none]) (fun M hM => ?_) ?_
  · simp
    refine s_take ho hs' (by omega) fun u o1 ho1 u0 u1 u2 => ?_
    simp
    refine s_take (a1 _) ho1 (by omega) fun w o2 ho2 w0 w1 w2 => ?_
    simp
    refine forH_ints (xs := [0, (octs p).length - 1, u, w]) (fun l r hp' env' => ∃ y, hp' = hp.set n o2 ∧ env' = [some (.mu n), some (.d (.lst (iL (octs p)))), some (.d (.bl b)), y, none]) ⟨none, rfl, rfl⟩ ?_ ?_
    · rintro l y r _ _ N en ⟨z, rfl, rfl⟩ hN
      have hy : y ∈ [0, ((octs p).length : Int) - 1, u, w] := by rw [en]; simp
      obtain ⟨y, rfl, hyl⟩ : ∃ m : Nat, y = m ∧ m < (octs p).length := by
        simp at hy
        rcases hy with rfl | rfl | rfl | rfl
        · exact ⟨0, rfl, by omega⟩
        · exact ⟨(octs p).length - 1, by omega, by omega⟩
        · exact ⟨y.toNat, by omega, by omega⟩
        · exact ⟨y.toNat, by omega, by omega⟩
      simp [cut_take (show y ≤ (octs p).length by omega)]
      refine sp_read (xs := (octs p).take y) (by simp) (fun z hz => bd z (List.mem_of_mem_take hz)) (by simp; omega) ?_
      have ep : octs p = (octs p).take y ++ (octs p).drop y := (List.take_append_drop ..).symm
      rw [readI_part ok hs hd ep (fun e => by have := congrArg List.length e; simp at this; omega)]
      have ely : ((octs p).take y).length = y := by simp; omega
      simp only [ely]
      simp [dRr]
      refine eq_pl 48 (.tup [.str "ended", .int y, .bl true]) (pl_end (by decide +kernel)) rfl rfl ?_
      simp
      exact hN _ _ trivial ⟨_, rfl, rfl⟩
    · rintro _ _ ⟨z, rfl, rfl⟩
      exact hM _ _ ⟨o2, z, ho2, rfl, rfl⟩
  rintro _ _ ⟨o2, y, ho2, rfl, rfl⟩
  refine seq_cut (fun hp' env' => ∃ (o' : O) (y z : Option S), St o' ∧ hp' = hp.set n o' ∧ env' = [some (.mu n), some (.d (.lst (iL (octs p)))), some (.d (.bl b)), y, z]) (fun M hM => ?_) ?_
  · simp
    refine s_take (a1 _) ho2 (by omega) fun u o3 ho3 u0 u1 u2 => ?_
    simp
    refine forH_ints (xs := [0, 1, 128, u]) (fun l r hp' env' => ∃ z, hp' = hp.set n o3 ∧ env' = [some (.mu n), some (.d (.lst (iL (octs p)))), some (.d (.bl b)), y, z]) ⟨none, rfl, rfl⟩ ?_ ?_
    · rintro l x r _ _ N en ⟨z, rfl, rfl⟩ hN
      have hx : x ∈ [0, 1, 128, u] := by rw [en]; simp
      have hx2 : 0 ≤ x ∧ x ≤ 255 := by simp at hx; omega
      simp
      refine ⟨by omega, ?_⟩
      refine sp_read (xs := octs p ++ [x]) (by simp) (bd_app bd (bd_cons hx2.1 hx2.2 Bd.nil)) (by simp; omega) ?_
      rw [readI_behind ok hs hd]
      simp [dRr]
      refine eq_pl 48 (.tup [.str "refused", .int (octs p).length, .bl true]) (pl_end (by decide +kernel)) rfl rfl ?_
      simp
      exact hN _ _ trivial ⟨_, rfl, rfl⟩
    · rintro _ _ ⟨z, rfl, rfl⟩
      exact hM _ _ ⟨o3, _, _, ho3, rfl, rfl⟩
  rintro _ _ ⟨o3, y, z, ho3, rfl, rfl⟩
  simp
  exact h o3 ho3
end
end Qk07

set_option Elab.async false
set_option linter.all false
set_option maxRecDepth 100000
set_option maxHeartbeats 400000
namespace Qk07
open PySem PySem.Spec PyProof.Rows L2 Mp Pl
theorem pure_law (ns : List Int) (hl : ns.length ≤ 63) (hb : ∀ z ∈ ns, Builtin.Int.intBits z ≤ 1048576) : m_law [] [.d (.fl (ns.map D.int))] (fun s _ => s = .d (.bl true)) (fun _ _ => False) := by
  unfold m_law
  simp [-x_seq]
  rw [x_seq]
  simp [-x_seq]
  refine s_store hl fun o ho => ?_
  simp [-x_seq]
  rw [x_seq]
  simp [-x_seq]
  refine s_take rfl ho (by omega) fun d o1 ho1 d0 d1 _ => ?_
  simp [-x_seq]
  refine pick_Bd (xs := [3, 3, 40, 300, 1500]) (lo := 0) (hi := 1500) rfl ho1 (by simp) (by simp) (fun x hx => by simp at hx; omega) fun lg o2 ho2 g0 g1 => ?_
  obtain ⟨d, rfl⟩ := Int.eq_ofNat_of_zero_le d0
  simp [-x_seq]
  refine sp_plan 5 d lg (by omega) (by omega) g0 g1 rfl ho2 fun p o3 ho3 ⟨b1, b2, b3⟩ => ?_
  have hp4 : 3 ^ d ≤ 81 := by
    have : d = 0 ∨ d = 1 ∨ d = 2 ∨ d = 3 ∨ d = 4 := by omega
    rcases this with rfl | rfl | rfl | rfl | rfl <;> decide
  simp [-x_seq]
  refine seq_cut (fun hp' env' => ∃ (p : Plan) (o' : O), St o' ∧ planOk p ∧ dep p ≤ 20 ∧ (octs p).length ≤ 130000 ∧ hp' = [o'] ∧ env' = [some (.d (.fl (ns.map D.int))), some (.mu 0), some (.d (planD p)), none, none, none, none, none]) (fun M hM => ?_) ?_
  · simp
    refine s_take rfl ho3 (by omega) fun z o4 ho4 z0 z1 _ => ?_
    by_cases c : z = 3
    · simp [c]
      refine s_take rfl ho4 (by omega) fun u o5 ho5 u0 u1 _ => ?_
      simp
      refine pick_Bd (xs := [20, 20, 19, u]) (lo := 0) (hi := 20) rfl ho5 (by simp) (by simp) (fun x hx => by simp at hx; omega) fun m o6 ho6 m0 m1 => ?_
      obtain ⟨m, rfl⟩ := Int.eq_ofNat_of_zero_le m0
      simp
      refine sp_deep_plan (by omega) rfl ho6 fun p2 o7 ho7 q1 q2 q3 => ?_
      simp
      exact hM _ _ ⟨p2, o7, ho7, q1, by omega, by omega, rfl, rfl⟩
    · simp [c]
      exact hM _ _ ⟨p, o4, ho4, b1, by omega, by omega, rfl, rfl⟩
  rintro _ _ ⟨p, o4, ho4, okp, hd, hlp, rfl, rfl⟩
  rw [x_seq]
  simp [-x_seq]
  refine sp_tag rfl ho4 fun tp tv o5 ho5 t => ?_
  simp [-x_seq]
  refine s_take rfl ho5 (by omega) fun c o6 ho6 c0 c1 _ => ?_
  simp [-x_seq]
  refine s_take rfl ho6 (by omega) fun f o7 ho7 f0 f1 _ => ?_
  obtain ⟨f, rfl⟩ := Int.eq_ofNat_of_zero_le f0
  simp [-x_seq]
  have okq : planOk (.pl tp tv [c] f) := ⟨t, bd_cons c0 (by omega) Bd.nil, by simp, by omega⟩
  have lq := octs_pl (p := tp) (v := tv) (c := [c]) (f := f) (by omega)
  have okst := stp_ok p okp
  have dst := stp_dep p
  have lst := stp_le p
  have sst := stp_s p
  rw [x_seq]
  simp [-x_seq]
  refine sp_strict_plan 22 p (by omega) (by omega) ?_
  simp [-x_seq]
  rw [x_seq]
  simp [-x_seq]
  refine sp_plan_reads okp (fun e => by cases e) hd (by omega) ?_
  simp [-x_seq]
  refine sp_plan_reads (p := .pl tp tv [c] f) okq (fun e => by cases e) (by simp [dep]) (by simp at lq; omega) ?_
  simp [-x_seq]
  rw [x_seq]
  simp [-x_seq]
  refine sp_plan_reads okst (fun _ => sst) (by omega) (by omega) ?_
  simp [-x_seq]
  refine sp_plan_reads okst (fun _ => sst) (by omega) (by omega) ?_
  simp [-x_seq]
  rw [x_seq]
  simp [-x_seq]
  refine sp_plan_octets 22 p (by omega) okp (by omega) ?_
  simp [-x_seq]
  rw [x_seq]
  simp [-x_seq]
  refine sp_plan_octets 22 (stp p) (by omega) okst (by omega) ?_
  simp [-x_seq]
  rw [x_seq]
  simp [-x_seq]
  refine sp_ends rfl ho7 okp (fun e => by cases e) hd (by omega) fun o8 ho8 => ?_
  simp [-x_seq]
  refine sp_ends rfl ho8 okst (fun _ => sst) (by omega) (by omega) fun o9 ho9 => ?_
  simp [-x_seq]
  rw [x_seq]
  simp [-x_seq]
  refine sp_read (xs := octs p) rfl (bd_octs p okp) (by omega) ?_
  simp [-x_seq]
  by_cases c : sOk p
  · rw [readI_plan okp (fun _ => c) hd]
    have e : octs (stp p) = octs p := stp_octs p c
    simp [dRr, e]
    refine sp_plan_tree 22 p 0 (by omega) (by omega) okp (by omega) ?_
    simp
    refine eq_pl 48 _ (pl_told hd (by omega)) rfl rfl ?_
    simp
  · obtain ⟨k, e1, k0, k1⟩ := readI_loose okp hd c
    have ne : octs p ≠ octs (stp p) := fun e => by
      have := readI_plan (b := true) okst (fun _ => sst) (by omega)
      rw [← e, e1] at this
      cases this
    rw [e1]
    have shr : shD (.str (Str.ofString "refused")) = true := by decide +kernel
    simp [dRr, ne, shr]
    refine s_is_integer ?_
    simp [k0, k1]
end Qk07

set_option Elab.async false
set_option linter.all false
set_option maxRecDepth 100000
set_option maxHeartbeats 0
namespace Qk07
open PySem PySem.Spec PyProof.Rows L2 Mp Pl
def loose : List Str := (["_wall", "TagoctetsError", "Refused", "Ended", "Deep", "DEPTH", "LENGTH_MOST", "octet_at", "bad_length_digit", "read_identifier", "AT_ITEM", "AT_CHAIN", "AT_LENGTH", "AT_DIGIT", "AT_CONTENT", "AT_END", "fills", "length_fills", "OpenItem", "ItemReader", "read_item", "_law_mix", "_law_store", "_law_take", "_law_pick", "_law_equal", "_law_is_integer", "_law_tag", "_law_octet", "_law_chain"] : List Str) ++ (["_law_length_row", "_law_identifier", "_law_plan", "_law_deep_plan", "_law_strict_plan", "_law_plan_octets", "_law_plan_tree", "_law_read", "_law_plan_reads", "_law_ends"] : List Str)
abbrev R : PySem.W.OpenRow := PySem.W.OpenLaw.row PySem.Challenge.rw_tagoctets_k07_trees_of_items
abbrev hk : PySem.W.Hook := hookX P 4 fa fn xs bs
def ob (s : PySem.W.SharedT) : AlX := obsXG P 4 fa fn xs bs (HandSHeadRun.getT s)
theorem ob_eq (s : PySem.W.SharedT) : ob s = hk.obs s.abs := obsXG_eq (HandSHeadRun.getT_eq s)
theorem run (w : World) : HandSHeadRun.RunEq R (PySem.W.view R.prog [44]) hk ob 20000 loose w := by
  intro os
  kernel_rfl
theorem at_law {w : World} {K : PySem.W.Frag} {h : Heap} {mg : Str → Option Value} {f : Addr} (X : K.In h) (G : h.Ns mainGlobals mg) (hfa : mg ("law" : Str) = some (.ref f)) (c : SaysX P fa fn xs bs K) :
    EndAtS PySem.Challenge.rw_tagoctets_k07_trees_of_items w K (L2.CX (PySem.Challenge.rw_tagoctets_k07_trees_of_items).prog w) 51 63 "_law_script" mg f h := by
  obtain ⟨Z, _⟩ := zs X G c
  have e : f = Z.f_law := by
    have q := hfa.symm.trans Z.g_law
    injection q with q
    injection q
  subst e
  have b := FunD.bindsA (ps := ["_law_script"]) Z.F_law fun _ _ _ _ _ _ us hl => match us, hl with | [_], _ => rfl
  refine ⟨Z.fd_law, [], spM K 1 false m_law, fun _ h => (List.not_mem_nil h).elim, fun _ h => (List.not_mem_nil h).elim, fun _ h => (List.not_mem_nil h).elim, fun s v => b s [v] rfl, fun H a ns hl hb _ hS => ?_, fun base _ _ _ => ok_law Z⟩
  exact script_start hS (pure_law ns hl hb)
end Qk07
open PySem PySem.W PySem.Calls PyProof.Rows
theorem PySem.Challenge.cw_tagoctets_k07_trees_of_items_holds : PySem.Challenge.rw_tagoctets_k07_trees_of_items.Holds := by
  w_on; o_law
  refine HandSHeadRun.head_any (r := OpenLaw.row PySem.Challenge.rw_tagoctets_k07_trees_of_items) (q := view (OpenLaw.row PySem.Challenge.rw_tagoctets_k07_trees_of_items).prog [44]) (H := Qk07.hk) (ob := Qk07.ob) (M := 20000) (loose := Qk07.loose) (d := HandSHeadRun.topDef (OpenLaw.row PySem.Challenge.rw_tagoctets_k07_trees_of_items).prog 44) (kwd := []) Qk07.ob_eq
    (by kernel_rfl) (fun s => by kernel_rfl) Qk07.run (by kernel_rfl) (by kernel_rfl) (by kernel_rfl) (by rfl) (by first | assumption | decide +kernel) (by decide +kernel) ⟨rfl, rfl, rfl, rfl, rfl, by decide +kernel⟩ ?hw ?hc
  case hw => w_witness2
  case hc =>
    refine LamX.walk_ofTsE (l := PySem.Challenge.rw_tagoctets_k07_trees_of_items) (n := 63) (k := 51) (x := "_law_script") (CX := fun w => L2.CX (PySem.Challenge.rw_tagoctets_k07_trees_of_items).prog w) rfl (by decide) (by kernel_rfl) ⟨rfl, by decide, by decide⟩ ?F (fun w H s e s' z => Mp.cx_end z)
    intro w mg f h Y G hmg0
    obtain ⟨K, KX, c⟩ := Y
    have hmg : mg ("law" : PySem.Str) = some (.ref f) := by
      have e : (HandSHeadRun.topDef (OpenLaw.row PySem.Challenge.rw_tagoctets_k07_trees_of_items).prog 44).name = ("law" : PySem.Str) := by kernel_rfl
      rw [← e]
      exact hmg0
    exact ⟨K, KX, Qk07.at_law KX G hmg c⟩

