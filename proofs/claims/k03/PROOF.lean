import PyProof.Rows.All
import Wide.All
import OpenK.AllK
import Wide.FinOn
import HandS.ForMost
import HandS.Exc
import HandS.TryOnly
import HandS.TryMany
import HandS.ExcOwn
import HandS.WordsExc
import HandS.CallSlots
import HandS.Defaults
import HandS.HeadHook2
import HandS.IsInst
import HandS.Wide
import HandS.Deep
import HandS.TupAny
import KE.KStateDown
import HandS.Head0
import HandS.Head1
import HandS.Head2
import HandS.HeadEnd
import HandS.HeadHook1
import HandS.HeadWalk
import HandS.Style
import PySem.Challenge.RW_tagoctets_k03_signed_octets
set_option Elab.async false
set_option linter.all false
set_option maxRecDepth 100000
set_option maxHeartbeats 4000000
/-! Mp1: data without addresses (D), objects that change (O), how a heap bears them. -/
namespace Mp
open PySem PySem.Spec PyProof.Rows L2

abbrev Frag := PySem.W.Frag

/-- data that nobody changes -/
inductive D where
  | non | bl (b : Bool) | int (i : Int) | str (x : Str) | ty (n : String) | tup (xs : List D) | lst (xs : List D) | fl (xs : List D)
/-- a field of an object: a datum, or a list of the object's own -/
inductive Fd where
  | d (x : D) | ol (xs : List D)
/-- an object that changes -/
inductive O where
  | lst (xs : List D) | dct (kvs : List (Key × D)) | ins (C : Str) (fs : List (Str × Fd)) | gone
/-- what an expression gives: a datum, or one of the objects that change -/
inductive S where
  | d (x : D) | mu (n : Nat)

abbrev Av := Addr → Prop
def hp0 : Hp := fun _ => none
def noA : Av := fun _ => False

mutual
def Rep (K : Frag) (A : Av) (H : Hp) : D → V → Prop
  | .non, v => v = .non
  | .bl b, v => v = .bl b
  | .int i, v => v = .int i
  | .str x, v => v = .str x
  | .ty n, v => v = .ty n
  | .tup ds, v => ∃ a vs, v = .ref a ∧ ((H a = some (.tup vs) ∧ ¬ A a) ∨ SqT K hp0 a vs) ∧ RepL K A H ds vs
  | .lst ds, v => ∃ a vs, v = .ref a ∧ (H a = some (.lst vs) ∧ ¬ A a) ∧ RepL K A H ds vs
  | .fl ds, v => ∃ a vs, v = .ref a ∧ ((Rd H a (.lst vs) ∧ ¬ A a) ∨ SqL K hp0 a vs) ∧ RepL K A H ds vs
def RepL (K : Frag) (A : Av) (H : Hp) : List D → List V → Prop
  | [], vs => vs = []
  | d :: ds, vs => ∃ v r, vs = v :: r ∧ Rep K A H d v ∧ RepL K A H ds r
end

/-- A: what may not be leaned on; M: what may be changed. What is not in M stays, both grow by new things alone -/
structure Step (A M : Av) (H : Hp) (A' M' : Av) (H' : Hp) : Prop where
  keep : ∀ a o, H a = some o → ¬ M a → H' a = some o
  newA : ∀ a, A' a → A a ∨ H a = none
  newM : ∀ a, M' a → M a ∨ H a = none
  sub : ∀ a, M a → A a
  stay : ∀ a o, H a = some o → ∃ u, H' a = some u

theorem Step.refl {A M : Av} {H : Hp} (h : ∀ a, M a → A a) : Step A M H A M H := ⟨fun _ _ h _ => h, fun _ h => .inl h, fun _ h => .inl h, h, fun _ o h => ⟨o, h⟩⟩
theorem Step.trans {A M A1 M1 A2 M2 : Av} {H H1 H2 : Hp} (a : Step A M H A1 M1 H1) (b : Step A1 M1 H1 A2 M2 H2) : Step A M H A2 M2 H2 where
  keep := fun x o h n => b.keep x o (a.keep x o h n) fun n1 => (a.newM x n1).elim n fun z => by rw [h] at z; cases z
  newA := fun x h => by
    rcases b.newA x h with h | h
    · exact a.newA x h
    · cases e : H x with
      | none => exact .inr rfl
      | some o =>
        by_cases n : M x
        · exact .inl (a.sub x n)
        · rw [a.keep x o e n] at h; cases h
  newM := fun x h => by
    rcases b.newM x h with h | h
    · exact a.newM x h
    · cases e : H x with
      | none => exact .inr rfl
      | some o =>
        by_cases n : M x
        · exact .inl n
        · rw [a.keep x o e n] at h; cases h
  sub := a.sub
  stay := fun x o h => by
    obtain ⟨u, hu⟩ := a.stay x o h
    exact b.stay x u hu
theorem Step.not {A M A1 M1 : Av} {H H1 : Hp} (s : Step A M H A1 M1 H1) {a : Addr} {o : HO} (h : H a = some o) (n : ¬ A a) : ¬ A1 a := fun n1 => (s.newA a n1).elim n fun z => by rw [h] at z; cases z
theorem Step.kept {A M A1 M1 : Av} {H H1 : Hp} (s : Step A M H A1 M1 H1) {a : Addr} {o : HO} (h : H a = some o) (n : ¬ A a) : H1 a = some o := s.keep a o h fun z => n (s.sub a z)
theorem Step.rd {A M A1 M1 : Av} {H H1 : Hp} (s : Step A M H A1 M1 H1) {a : Addr} {u : HO} (h : Rd H a u) (n : ¬ A a) : Rd H1 a u ∧ ¬ A1 a := by
  rcases h with h | ⟨o, h⟩
  · exact ⟨.inl (s.kept h n), s.not h n⟩
  · exact ⟨.inr ⟨o, s.kept h n⟩, s.not h n⟩
theorem Step.fresh {A M : Av} {H : Hp} {p : Addr} {o : HO} (hs : ∀ a, M a → A a) (h : H p = none) : Step A M H A M (upd H p o) := ⟨fun a u e _ => by rw [upd_ne (ne_of_none e h)]; exact e, fun _ h => .inl h, fun _ h => .inl h, hs, fun a u e => ⟨u, by rw [upd_ne (ne_of_none e h)]; exact e⟩⟩

mutual
theorem Rep.mono {K : Frag} {A M A' M' : Av} {H H' : Hp} (s : Step A M H A' M' H') : ∀ (d : D) (v : V), Rep K A H d v → Rep K A' H' d v
  | .non, _, h => h
  | .bl _, _, h => h
  | .int _, _, h => h
  | .str _, _, h => h
  | .ty _, _, h => h
  | .tup ds, v, ⟨a, vs, e, h, r⟩ => ⟨a, vs, e, h.elim (fun h => .inl ⟨s.kept h.1 h.2, s.not h.1 h.2⟩) .inr, RepL.mono s ds vs r⟩
  | .lst ds, v, ⟨a, vs, e, h, r⟩ => ⟨a, vs, e, ⟨s.kept h.1 h.2, s.not h.1 h.2⟩, RepL.mono s ds vs r⟩
  | .fl ds, v, ⟨a, vs, e, h, r⟩ => ⟨a, vs, e, h.elim (fun h => .inl (s.rd h.1 h.2)) .inr, RepL.mono s ds vs r⟩
theorem RepL.mono {K : Frag} {A M A' M' : Av} {H H' : Hp} (s : Step A M H A' M' H') : ∀ (ds : List D) (vs : List V), RepL K A H ds vs → RepL K A' H' ds vs
  | [], _, h => h
  | d :: ds, _, ⟨v, r, e, h, t⟩ => ⟨v, r, e, Rep.mono s d v h, RepL.mono s ds r t⟩
end

section
variable {K : Frag} {A : Av} {H : Hp}
theorem RepL.length : ∀ {ds : List D} {vs : List V}, RepL K A H ds vs → ds.length = vs.length
  | [], _, h => by cases h; rfl
  | d :: ds, _, ⟨v, r, e, _, t⟩ => by subst e; exact congrArg Nat.succ (RepL.length t)
theorem RepL.nil : RepL K A H [] [] := rfl
theorem RepL.cons {d : D} {ds : List D} {v : V} {vs : List V} (h : Rep K A H d v) (t : RepL K A H ds vs) : RepL K A H (d :: ds) (v :: vs) := ⟨v, vs, rfl, h, t⟩
theorem RepL.append : ∀ {ds es : List D} {vs us : List V}, RepL K A H ds vs → RepL K A H es us → RepL K A H (ds ++ es) (vs ++ us)
  | [], _, _, _, h, g => by cases h; exact g
  | d :: ds, _, _, _, ⟨v, r, e, h, t⟩, g => by subst e; exact ⟨v, r ++ _, rfl, h, RepL.append t g⟩
theorem RepL.get : ∀ {ds : List D} {vs : List V} {i : Nat} {d : D}, RepL K A H ds vs → ds[i]? = some d → ∃ v, vs[i]? = some v ∧ Rep K A H d v
  | [], _, _, _, _, e => by simp at e
  | d :: ds, _, 0, _, ⟨v, r, e, h, _⟩, g => by subst e; simp at g; subst g; exact ⟨v, rfl, h⟩
  | d :: ds, _, i + 1, _, ⟨v, r, e, _, t⟩, g => by subst e; obtain ⟨u, h1, h2⟩ := RepL.get (i := i) t (by simpa using g); exact ⟨u, by simpa using h1, h2⟩
theorem RepL.get' : ∀ {ds : List D} {vs : List V} {i : Nat} {v : V}, RepL K A H ds vs → vs[i]? = some v → ∃ d, ds[i]? = some d ∧ Rep K A H d v
  | [], _, _, _, h, e => by cases h; simp at e
  | d :: ds, _, 0, _, ⟨v, r, e, h, _⟩, g => by subst e; simp at g; subst g; exact ⟨d, rfl, h⟩
  | d :: ds, _, i + 1, _, ⟨v, r, e, _, t⟩, g => by subst e; obtain ⟨u, h1, h2⟩ := RepL.get' (i := i) t (by simpa using g); exact ⟨u, by simpa using h1, h2⟩
theorem RepL.take : ∀ (n : Nat) {ds : List D} {vs : List V}, RepL K A H ds vs → RepL K A H (ds.take n) (vs.take n)
  | 0, _, _, _ => by simp [RepL]
  | n + 1, [], _, h => by cases h; simp [RepL]
  | n + 1, d :: ds, _, ⟨v, r, e, h, t⟩ => by subst e; exact ⟨v, r.take n, rfl, h, RepL.take n t⟩
theorem RepL.drop : ∀ (n : Nat) {ds : List D} {vs : List V}, RepL K A H ds vs → RepL K A H (ds.drop n) (vs.drop n)
  | 0, _, _, h => h
  | n + 1, [], _, h => by cases h; simp [RepL]
  | n + 1, d :: ds, _, ⟨v, r, e, h, t⟩ => by subst e; exact RepL.drop n t
theorem RepL.set : ∀ (n : Nat) {ds : List D} {vs : List V} {d : D} {v : V}, RepL K A H ds vs → Rep K A H d v → RepL K A H (ds.set n d) (vs.set n v)
  | _, [], _, _, _, h, _ => by cases h; simp [RepL]
  | 0, d :: ds, _, _, _, ⟨v, r, e, h, t⟩, g => by subst e; exact ⟨_, r, rfl, g, t⟩
  | n + 1, d :: ds, _, _, _, ⟨v, r, e, h, t⟩, g => by subst e; exact ⟨v, _, rfl, h, RepL.set n t g⟩
theorem RepL.reverse {ds : List D} {vs : List V} (h : RepL K A H ds vs) : RepL K A H ds.reverse vs.reverse := by
  induction ds generalizing vs with
  | nil => cases h; simp [RepL]
  | cons d ds ih =>
    obtain ⟨v, r, e, h, t⟩ := h
    subst e
    rw [List.reverse_cons, List.reverse_cons]
    exact (ih t).append (.cons h .nil)
theorem RepL.dropLast {ds : List D} {vs : List V} (h : RepL K A H ds vs) : RepL K A H ds.dropLast vs.dropLast := by
  rw [List.dropLast_eq_take, List.dropLast_eq_take, h.length]
  exact h.take _
theorem RepL.eraseIdx : ∀ (n : Nat) {ds : List D} {vs : List V}, RepL K A H ds vs → RepL K A H (ds.eraseIdx n) (vs.eraseIdx n)
  | _, [], _, h => by cases h; simp [RepL]
  | 0, d :: ds, _, ⟨v, r, e, h, t⟩ => by subst e; exact t
  | n + 1, d :: ds, _, ⟨v, r, e, h, t⟩ => by subst e; exact ⟨v, _, rfl, h, RepL.eraseIdx n t⟩
/-- ints -/
theorem RepL.ints : ∀ {ns : List Int} {vs : List V}, RepL K A H (ns.map D.int) vs → vs = ns.map V.int
  | [], _, h => h
  | n :: ns, _, ⟨v, r, e, h, t⟩ => by subst e; cases (show v = .int n from h); rw [RepL.ints t]; rfl
theorem RepL.of_ints : ∀ {ns : List Int}, RepL K A H (ns.map D.int) (ns.map V.int)
  | [] => rfl
  | n :: ns => ⟨.int n, _, rfl, rfl, RepL.of_ints⟩
theorem RepL.bls : ∀ {ns : List Bool} {vs : List V}, RepL K A H (ns.map D.bl) vs → vs = ns.map V.bl
  | [], _, h => h
  | n :: ns, _, ⟨v, r, e, h, t⟩ => by subst e; cases (show v = .bl n from h); rw [RepL.bls t]; rfl
theorem RepL.strs : ∀ {ns : List Str} {vs : List V}, RepL K A H (ns.map D.str) vs → vs = ns.map V.str
  | [], _, h => h
  | n :: ns, _, ⟨v, r, e, h, t⟩ => by subst e; cases (show v = .str n from h); rw [RepL.strs t]; rfl
end

/-- the list itself may be one that changes; its items are data -/
def RepT (K : Frag) (A : Av) (H : Hp) (d : D) (v : V) : Prop := match d with
  | .lst ds => ∃ a vs, v = .ref a ∧ H a = some (.lst vs) ∧ RepL K A H ds vs
  | d => Rep K A H d v
theorem Rep.t {K : Frag} {A : Av} {H : Hp} {d : D} {v : V} (h : Rep K A H d v) : RepT K A H d v := by
  cases d <;> first | exact h | (obtain ⟨a, vs, e, h, r⟩ := h; exact ⟨a, vs, e, h.1, r⟩)

/-! ### objects that change -/
def RepK (K : Frag) (A : Av) (H : Hp) : List (Key × D) → List (Key × V) → Prop
  | [], ws => ws = []
  | (k, d) :: r, ws => ∃ v t, ws = (k, v) :: t ∧ Rep K A H d v ∧ RepK K A H r t
def RepF (K : Frag) (A : Av) (H : Hp) : List (Str × Fd) → List (Str × V) → List Addr → Prop
  | [], ws, xs => ws = [] ∧ xs = []
  | (f, .d d) :: r, ws, xs => ∃ v t, ws = (f, v) :: t ∧ Rep K A H d v ∧ RepF K A H r t xs
  | (f, .ol ds) :: r, ws, xs => ∃ b vs t ys, ws = (f, .ref b) :: t ∧ xs = b :: ys ∧ H b = some (.lst vs) ∧ RepL K A H ds vs ∧ RepF K A H r t ys
def OR (K : Frag) (A : Av) (H : Hp) (p : Addr × List Addr) : O → Prop
  | .lst ds => p.2 = [] ∧ ∃ vs, H p.1 = some (.lst vs) ∧ RepL K A H ds vs
  | .dct kvs => p.2 = [] ∧ ∃ ws, H p.1 = some (.dK ws) ∧ RepK K A H kvs ws
  | .ins C fs => ∃ dx ws, H p.1 = some (.ins (He.ga K C) dx ws) ∧ RepF K A H fs ws p.2
  | .gone => True
/-- where the objects stand (each with the lists of its own), and what is banned: it stands, is not leaned on and not changed -/
structure Mp_ where
  own : List (Addr × List Addr)
  ban : Av
/-- what may change -/
def Mt (α : Mp_) (hp : List O) (a : Addr) : Prop := ∃ (n : Nat) (p : Addr × List Addr) (o : O), α.own[n]? = some p ∧ hp[n]? = some o ∧ o ≠ .gone ∧ (a = p.1 ∨ a ∈ p.2)
/-- what may not be leaned on -/
def Al (α : Mp_) (hp : List O) (a : Addr) : Prop := Mt α hp a ∨ α.ban a
theorem al_sub {α : Mp_} {hp : List O} : ∀ a, Mt α hp a → Al α hp a := fun _ h => .inl h
structure WOk (K : Frag) (α : Mp_) (hp : List O) (H : Hp) : Prop where
  len : α.own.length = hp.length
  obj : ∀ (n : Nat) (o : O) (p : Addr × List Addr), hp[n]? = some o → α.own[n]? = some p → OR K (Al α hp) H p o
  one : ∀ (n : Nat) (o : O) (p : Addr × List Addr), hp[n]? = some o → α.own[n]? = some p → o ≠ .gone → p.1 ∉ p.2 ∧ p.2.Nodup
  inj : ∀ (m n : Nat) (o u : O) (p q : Addr × List Addr), hp[m]? = some o → α.own[m]? = some p → o ≠ .gone → hp[n]? = some u → α.own[n]? = some q → u ≠ .gone → m ≠ n → ∀ a, (a = p.1 ∨ a ∈ p.2) → ¬ (a = q.1 ∨ a ∈ q.2)
  ban : ∀ a, α.ban a → (∃ o, H a = some o) ∧ ¬ Mt α hp a
def SRep (K : Frag) (α : Mp_) (hp : List O) (H : Hp) : S → V → Prop
  | .d x, v => Rep K (Al α hp) H x v
  | .mu n, v => ∃ p, α.own[n]? = some p ∧ v = .ref p.1
def EnvR (K : Frag) (α : Mp_) (hp : List O) (H : Hp) (env : List (Option S)) (σ : L2.St) : Prop :=
  env.length = σ.length ∧ ∀ (i : Nat) (s : S), env[i]? = some (some s) → ∃ v, σ[i]? = some (some v) ∧ SRep K α hp H s v
/-- the same objects, perhaps more -/
structure Pre (α α' : Mp_) : Prop where
  own : α.own.map (·.1) <+: α'.own.map (·.1)
  ban : α'.ban = α.ban
theorem Pre.refl (α : Mp_) : Pre α α := ⟨List.prefix_refl _, rfl⟩
theorem Pre.trans {α β γ : Mp_} (a : Pre α β) (b : Pre β γ) : Pre α γ := ⟨List.IsPrefix.trans a.own b.own, b.ban.trans a.ban⟩
theorem Pre.get {α β : Mp_} (h : Pre α β) {n : Nat} {p : Addr × List Addr} (e : α.own[n]? = some p) : ∃ q, β.own[n]? = some q ∧ q.1 = p.1 := by
  obtain ⟨t, ht⟩ := h.own
  have e1 : (α.own.map (·.1))[n]? = some p.1 := by rw [List.getElem?_map, e]; rfl
  have hn : n < (α.own.map (·.1)).length := (List.getElem?_eq_some_iff.mp e1).1
  have e2 : (β.own.map (·.1))[n]? = some p.1 := by rw [← ht, List.getElem?_append_left hn]; exact e1
  rw [List.getElem?_map] at e2
  cases q : β.own[n]? with
  | none => rw [q] at e2; cases e2
  | some q' => rw [q] at e2; exact ⟨q', rfl, Option.some.inj e2⟩
/-- what a run does to the heap -/
abbrev StepW (α : Mp_) (hp : List O) (H : Hp) (α' : Mp_) (hp' : List O) (H' : Hp) : Prop := Step (Al α hp) (Mt α hp) H (Al α' hp') (Mt α' hp') H'
/-- .. as far as data lean on it -/
abbrev StepA (α : Mp_) (hp : List O) (H : Hp) (α' : Mp_) (hp' : List O) (H' : Hp) : Prop := Step (Al α hp) (Al α hp) H (Al α' hp') (Al α' hp') H'
theorem Step.toA {α α' : Mp_} {hp hp' : List O} {H H' : Hp} (s : StepW α hp H α' hp' H') : StepA α hp H α' hp' H' := ⟨fun a o h n => s.keep a o h fun z => n (.inl z), s.newA, s.newA, fun _ h => h, s.stay⟩
/-- what an expression may have done -/
structure Ext (α : Mp_) (hp : List O) (H : Hp) (α' : Mp_) (hp' : List O) (H' : Hp) : Prop where
  pre : Pre α α'
  step : StepW α hp H α' hp' H'
  nw : ∀ (n : Nat) (p : Addr × List Addr), α.own.length ≤ n → α'.own[n]? = some p → H p.1 = none
theorem none_back {H H' : Hp} (h : ∀ a o, H a = some o → ∃ u, H' a = some u) {a : Addr} (e : H' a = none) : H a = none := by
  cases q : H a with
  | none => rfl
  | some o =>
    obtain ⟨u, hu⟩ := h a o q
    rw [e] at hu
    cases hu
theorem at_none {τ : Type} {l : List τ} {n : Nat} {x : τ} (h : l.length ≤ n) (e : l[n]? = some x) : False := by
  rw [List.getElem?_eq_none h] at e
  cases e
theorem Ext.refl {α : Mp_} {hp : List O} {H : Hp} : Ext α hp H α hp H := ⟨Pre.refl _, Step.refl al_sub, fun _ _ h e => (at_none h e).elim⟩
theorem Ext.trans {α β γ : Mp_} {hp hp1 hp2 : List O} {H H1 H2 : Hp} (a : Ext α hp H β hp1 H1) (b : Ext β hp1 H1 γ hp2 H2) : Ext α hp H γ hp2 H2 := ⟨a.pre.trans b.pre, a.step.trans b.step, fun n p h e => by
  by_cases hn : n < β.own.length
  · obtain ⟨q, h1, h2⟩ := b.pre.get (List.getElem?_eq_getElem hn)
    rw [e] at h1
    cases h1
    rw [h2]
    exact a.nw n _ h (List.getElem?_eq_getElem hn)
  · exact none_back a.step.stay (b.nw n p (by omega) e)⟩
theorem SRep.mono {K : Frag} {α β : Mp_} {hp hp1 : List O} {H H1 : Hp} (e : Ext α hp H β hp1 H1) : ∀ {s : S} {v : V}, SRep K α hp H s v → SRep K β hp1 H1 s v
  | .d x, v, h => Rep.mono e.step x v h
  | .mu n, v, ⟨p, h, q⟩ => by
    obtain ⟨p', h', e'⟩ := e.pre.get h
    exact ⟨p', h', by rw [q, e']⟩
theorem EnvR.mono {K : Frag} {α β : Mp_} {hp hp1 : List O} {H H1 : Hp} {env : List (Option S)} {σ : L2.St} (e : Ext α hp H β hp1 H1) (h : EnvR K α hp H env σ) : EnvR K β hp1 H1 env σ :=
  ⟨h.1, fun i s hi => by obtain ⟨v, h1, h2⟩ := h.2 i s hi; exact ⟨v, h1, h2.mono e⟩⟩
theorem RepK.mono {K : Frag} {A M A' M' : Av} {H H' : Hp} (s : Step A M H A' M' H') : ∀ {l : List (Key × D)} {ws : List (Key × V)}, RepK K A H l ws → RepK K A' H' l ws
  | [], _, h => h
  | (k, d) :: r, _, ⟨v, t, e, h, q⟩ => ⟨v, t, e, Rep.mono s d v h, RepK.mono s q⟩
theorem RepF.at_some {K : Frag} {A : Av} {H : Hp} : ∀ {l : List (Str × Fd)} {ws : List (Str × V)} {xs : List Addr}, RepF K A H l ws xs → ∀ b ∈ xs, ∃ o, H b = some o
  | [], _, _, ⟨_, e⟩, b, hb => by subst e; cases hb
  | (f, .d d) :: r, _, _, ⟨v, t, e, h, q⟩, b, hb => RepF.at_some q b hb
  | (f, .ol ds) :: r, _, _, ⟨c, vs, t, ys, e, e2, h, _, q⟩, b, hb => by
    subst e2
    rcases List.mem_cons.mp hb with z | z
    · subst z; exact ⟨_, h⟩
    · exact RepF.at_some q b z
/-- what may change stands in the heap -/
theorem WOk.mt {K : Frag} {α : Mp_} {hp : List O} {H : Hp} (w : WOk K α hp H) {a : Addr} (h : Mt α hp a) : ∃ o, H a = some o := by
  obtain ⟨n, p, o, h1, h2, h3, h4⟩ := h
  have q := w.obj n o p h2 h1
  cases o with
  | lst ds =>
    obtain ⟨e, vs, h, _⟩ := q
    rcases h4 with z | z
    · subst z; exact ⟨_, h⟩
    · rw [e] at z; cases z
  | dct kvs =>
    obtain ⟨e, vs, h, _⟩ := q
    rcases h4 with z | z
    · subst z; exact ⟨_, h⟩
    · rw [e] at z; cases z
  | ins C fs =>
    obtain ⟨dx, ws, h, r⟩ := q
    rcases h4 with z | z
    · subst z; exact ⟨_, h⟩
    · exact r.at_some a z
  | gone => exact absurd rfl h3
theorem WOk.there {K : Frag} {α : Mp_} {hp : List O} {H : Hp} (w : WOk K α hp H) {a : Addr} (h : Al α hp a) : ∃ o, H a = some o := h.elim w.mt fun h => (w.ban a h).1
theorem WOk.non {K : Frag} {α : Mp_} {hp : List O} {H : Hp} (w : WOk K α hp H) : ∀ a, H a = none → ¬ Al α hp a := fun a h z => by
  obtain ⟨o, ho⟩ := w.there z
  rw [h] at ho
  cases ho
/-- a new thing that nobody changes -/
theorem Ext.fresh {α : Mp_} {hp : List O} {H : Hp} {p : Addr} {o : HO} (h : H p = none) : Ext α hp H α hp (upd H p o) := ⟨Pre.refl _, Step.fresh al_sub h, fun _ _ h e => (at_none h e).elim⟩
theorem RepF.mono {K : Frag} {A M A' M' : Av} {H H' : Hp} (s : Step A M H A' M' H') : ∀ {l : List (Str × Fd)} {ws : List (Str × V)} {xs : List Addr}, RepF K A H l ws xs → (∀ b ∈ xs, H' b = H b) → RepF K A' H' l ws xs
  | [], _, _, h, _ => h
  | (f, .d d) :: r, _, _, ⟨v, t, e, h, q⟩, k => ⟨v, t, e, Rep.mono s d v h, RepF.mono s q k⟩
  | (f, .ol ds) :: r, _, _, ⟨c, vs, t, ys, e, e2, h, g, q⟩, k => by
    subst e2
    exact ⟨c, vs, t, ys, e, rfl, by rw [k c (List.mem_cons_self ..)]; exact h, RepL.mono s _ _ g, RepF.mono s q fun b hb => k b (List.mem_cons_of_mem _ hb)⟩
/-- an object's description goes along where its own addresses are as they were -/
theorem OR.mono {K : Frag} {A M A' M' : Av} {H H' : Hp} {p : Addr × List Addr} (s : Step A M H A' M' H') : ∀ {o : O}, OR K A H p o → (o ≠ .gone → ∀ b, b = p.1 ∨ b ∈ p.2 → H' b = H b) → OR K A' H' p o
  | .lst ds, ⟨e, vs, h, r⟩, k => ⟨e, vs, by rw [k (fun z => nomatch z) _ (.inl rfl)]; exact h, RepL.mono s _ _ r⟩
  | .dct kvs, ⟨e, vs, h, r⟩, k => ⟨e, vs, by rw [k (fun z => nomatch z) _ (.inl rfl)]; exact h, r.mono s⟩
  | .ins C fs, ⟨dx, ws, h, r⟩, k => ⟨dx, ws, by rw [k (fun z => nomatch z) _ (.inl rfl)]; exact h, r.mono s fun b hb => k (fun z => nomatch z) b (.inr hb)⟩
  | .gone, _, _ => trivial
theorem WOk.fresh {K : Frag} {α : Mp_} {hp : List O} {H : Hp} {p : Addr} {o : HO} (w : WOk K α hp H) (h : H p = none) : WOk K α hp (upd H p o) :=
  ⟨w.len, fun n u q h1 h2 => (w.obj n u q h1 h2).mono (Step.fresh al_sub h) fun hg b hb => by
    obtain ⟨x, hx⟩ := w.mt ⟨n, q, u, h2, h1, hg, hb⟩
    exact upd_ne (ne_of_none hx h), w.one, w.inj, fun a ha => by
    obtain ⟨⟨x, hx⟩, hm⟩ := w.ban a ha
    exact ⟨⟨x, by rw [upd_ne (ne_of_none hx h)]; exact hx⟩, hm⟩⟩
/-- one more thing is banned -/
theorem WOk.banned {K : Frag} {α : Mp_} {hp : List O} {H : Hp} {p : Addr} {o : HO} (w : WOk K α hp H) (h : H p = none) : WOk K { α with ban := fun a => α.ban a ∨ a = p } hp (upd H p o) ∧ StepW α hp H { α with ban := fun a => α.ban a ∨ a = p } hp (upd H p o) := by
  have st : StepW α hp H { α with ban := fun a => α.ban a ∨ a = p } hp (upd H p o) := ⟨fun a u e _ => by rw [upd_ne (ne_of_none e h)]; exact e, fun a z => by
    rcases z with z | z | z
    · exact .inl (.inl z)
    · exact .inl (.inr z)
    · subst z; exact .inr h, fun _ z => .inl z, al_sub, fun a u e => ⟨u, by rw [upd_ne (ne_of_none e h)]; exact e⟩⟩
  refine ⟨⟨w.len, fun n u q h1 h2 => (w.obj n u q h1 h2).mono st fun hg b hb => by
    obtain ⟨x, hx⟩ := w.mt ⟨n, q, u, h2, h1, hg, hb⟩
    exact upd_ne (ne_of_none hx h), w.one, w.inj, fun a ha => ?_⟩, st⟩
  rcases ha with ha | ha
  · obtain ⟨⟨x, hx⟩, hm⟩ := w.ban a ha
    exact ⟨⟨x, by rw [upd_ne (ne_of_none hx h)]; exact hx⟩, hm⟩
  · subst ha
    exact ⟨⟨o, upd_same⟩, fun z => by
      obtain ⟨x, hx⟩ := w.mt z
      rw [h] at hx
      cases hx⟩
end Mp

set_option Elab.async false
set_option linter.all false
set_option maxRecDepth 100000
set_option maxHeartbeats 4000000
/-! Mp2: expressions: what they do to data and objects, with no address in sight. -/
namespace Mp
open PySem PySem.Spec PyProof.Rows L2

structure PS where
  hp : List O
  env : List (Option S)
  n0 : Nat
structure Exn where
  cls : Str
  fs : List (Str × D)
abbrev MX := Exn → List O → Prop
abbrev ME := PS → (S → List O → Prop) → MX → Prop
abbrev MT := PS → (Bool → List O → Prop) → MX → Prop
abbrev MA := PS → (List S → List O → Prop) → MX → Prop

def RepXF (K : Frag) (A : Av) (H : Hp) : List (Str × D) → List (Str × V) → Prop
  | [], ws => ws = []
  | (k, d) :: r, ws => ∃ v t, ws = (k, v) :: t ∧ Rep K A H d v ∧ RepXF K A H r t
def XRep (K : Frag) (A : Av) (H : Hp) (x : Exn) (c : Value) (dd : Option Addr) : Prop :=
  c = .ref (He.ga K x.cls) ∧ match x.fs with
    | [] => True
    | fs => ∃ a ws, dd = some a ∧ H a = some (.xd ws) ∧ RepXF K A H fs ws

def PostE (K : Frag) (α : Mp_) (hp : List O) (H : Hp) (R : S → List O → Prop) (Q : VK) : Prop :=
  ∀ s hp' α' H' v, R s hp' → Ext α hp H α' hp' H' → WOk K α' hp' H' → SRep K α' hp' H' s v → Q v H'
def PostT (K : Frag) (α : Mp_) (hp : List O) (H : Hp) (R : Bool → List O → Prop) (Q : Bool → Hp → Prop) : Prop :=
  ∀ b hp' α' H', R b hp' → Ext α hp H α' hp' H' → WOk K α' hp' H' → Q b H'
def SRepL (K : Frag) (α : Mp_) (hp : List O) (H : Hp) : List S → List V → Prop := Paired (SRep K α hp H)
def PostA (K : Frag) (α : Mp_) (hp : List O) (H : Hp) (R : List S → List O → Prop) (Q : List V → Hp → Prop) : Prop :=
  ∀ ss hp' α' H' vs, R ss hp' → Ext α hp H α' hp' H' → WOk K α' hp' H' → SRepL K α' hp' H' ss vs → Q vs H'
def PostX (K : Frag) (W : WX) (σ : L2.St) (α : Mp_) (hp : List O) (H : Hp) (Xp : MX) : Prop :=
  ∀ x hp' α' H' c dd, Xp x hp' → Ext α hp H α' hp' H' → WOk K α' hp' H' → XRep K (Al α' hp') H' x c dd → W c dd σ H'
section
variable {K : Frag} {W : WX} {σ : L2.St} {α β : Mp_} {hp hp1 : List O} {H H1 : Hp}
theorem PostE.at {R : S → List O → Prop} {Q : VK} (p : PostE K α hp H R Q) (e : Ext α hp H β hp1 H1) : PostE K β hp1 H1 R Q := fun s h a h' v r e' w q => p s h a h' v r (e.trans e') w q
theorem PostT.at {R : Bool → List O → Prop} {Q : Bool → Hp → Prop} (p : PostT K α hp H R Q) (e : Ext α hp H β hp1 H1) : PostT K β hp1 H1 R Q := fun s h a h' r e' w => p s h a h' r (e.trans e') w
theorem PostA.at {R : List S → List O → Prop} {Q : List V → Hp → Prop} (p : PostA K α hp H R Q) (e : Ext α hp H β hp1 H1) : PostA K β hp1 H1 R Q := fun s h a h' v r e' w q => p s h a h' v r (e.trans e') w q
theorem PostX.at {Xp : MX} (p : PostX K W σ α hp H Xp) (e : Ext α hp H β hp1 H1) : PostX K W σ β hp1 H1 Xp := fun x h a h' c dd r e' w q => p x h a h' c dd r (e.trans e') w q
theorem SRepL.mono (e : Ext α hp H β hp1 H1) {ss : List S} {vs : List V} (h : SRepL K α hp H ss vs) : SRepL K β hp1 H1 ss vs := L2.Paired.mapP h fun _ _ q => q.mono e
end

def SimE (K : Frag) (W : WX) (t : TE) (M : ME) : Prop := ∀ (α : Mp_) (s : PS) (H : Hp) (σ : L2.St), WOk K α s.hp H → EnvR K α s.hp H s.env σ → ∀ R Xp, M s R Xp → ∀ Q : VK, PostE K α s.hp H R Q → PostX K W σ α s.hp H Xp → t σ H Q
def SimT (K : Frag) (W : WX) (t : TT) (M : MT) : Prop := ∀ (α : Mp_) (s : PS) (H : Hp) (σ : L2.St), WOk K α s.hp H → EnvR K α s.hp H s.env σ → ∀ R Xp, M s R Xp → ∀ Q : Bool → Hp → Prop, PostT K α s.hp H R Q → PostX K W σ α s.hp H Xp → t σ H Q
def SimA (K : Frag) (W : WX) (t : TA) (M : MA) : Prop := ∀ (α : Mp_) (s : PS) (H : Hp) (σ : L2.St), WOk K α s.hp H → EnvR K α s.hp H s.env σ → ∀ R Xp, M s R Xp → ∀ Q : List V → Hp → Prop, PostA K α s.hp H R Q → PostX K W σ α s.hp H Xp → t σ H Q

/-! ### values -/
def on {τ : Type} (o : Option τ) (k : τ → Prop) : Prop := match o with
  | some x => k x
  | none => False
@[simp] theorem on_some {τ : Type} {x : τ} {k : τ → Prop} : on (some x) k = k x := rfl
@[simp] theorem on_none {τ : Type} {k : τ → Prop} : on (none : Option τ) k = False := rfl
theorem on.ex {τ : Type} {o : Option τ} {k : τ → Prop} (h : on o k) : ∃ x, o = some x ∧ k x := by
  cases o with
  | none => exact h.elim
  | some x => exact ⟨x, rfl, h⟩
/-- what a thing is now -/
def val (hp : List O) : S → Option D
  | .d x => some x
  | .mu n => match hp[n]? with
    | some (.lst ds) => some (.lst ds)
    | _ => none
@[simp] theorem val_d {hp : List O} {x : D} : val hp (.d x) = some x := rfl
theorem val_mu {hp : List O} {n : Nat} {ds : List D} (h : hp[n]? = some (.lst ds)) : val hp (.mu n) = some (.lst ds) := by simp [val, h]
theorem SRep.val {K : Frag} {α : Mp_} {hp : List O} {H : Hp} (w : WOk K α hp H) : ∀ {s : S} {v : V} {d : D}, SRep K α hp H s v → val hp s = some d → RepT K (Al α hp) H d v
  | .d x, v, d, h, e => by cases e; exact h.t
  | .mu n, v, d, ⟨p, h, q⟩, e => by
    simp only [Mp.val] at e
    cases g : hp[n]? with
    | none => rw [g] at e; cases e
    | some o =>
      rw [g] at e
      cases o with
      | lst ds =>
        cases e
        obtain ⟨_, vs, h1, h2⟩ := w.obj n _ p g h
        exact ⟨p.1, vs, q, h1, h2⟩
      | dct _ => cases e
      | ins _ _ => cases e
      | gone => cases e

def mVar (i : Nat) : ME := fun s R _ => match s.env[i]? with
  | some (some v) => R v s.hp
  | _ => False
theorem sim_var {K : Frag} {W : WX} (i : Nat) : SimE K W (tVar i) (mVar i) := by
  intro α s H σ w e R Xp m Q q _
  unfold mVar at m
  cases g : s.env[i]? with
  | none => rw [g] at m; exact m.elim
  | some o =>
    rw [g] at m
    cases o with
    | none => exact m.elim
    | some x =>
      obtain ⟨v, h1, h2⟩ := e.2 i x g
      exact ⟨v, h1, q x s.hp α H v m Ext.refl w h2⟩
def mC (d : D) : ME := fun s R _ => R (.d d) s.hp
theorem sim_c {K : Frag} {W : WX} {v : V} {d : D} (h : ∀ A H, Rep K A H d v) : SimE K W (tC v) (mC d) := fun α s H σ w e R Xp m Q q _ => q _ _ α H v m Ext.refl w (h _ _)

theorem WOk.grown {K : Frag} {α : Mp_} {hp : List O} {H H' : Hp} (w : WOk K α hp H) (st : H' = H ∨ ∃ p o, H p = none ∧ H' = upd H p o) : Ext α hp H α hp H' ∧ WOk K α hp H' := by
  rcases st with rfl | ⟨p0, o, hn, rfl⟩
  · exact ⟨Ext.refl, w⟩
  · exact ⟨Ext.fresh hn, w.fresh hn⟩
/-! ### operators of two, of one, on data -/
/-- f d1 d2 P: the operation is let, and P of what it gives -/
abbrev F2 := D → D → (D → Prop) → Prop
def Sim2 (K : Frag) (r : R2) (f : F2) : Prop := ∀ (A : Av) (H : Hp) (d1 d2 : D) (v1 v2 : V), (∀ a, H a = none → ¬ A a) → RepT K A H d1 v1 → RepT K A H d2 v2 → ∀ P, f d1 d2 P → ∀ Q : VK, (∀ d v H', P d → Rep K A H' d v → (H' = H ∨ ∃ p o, H p = none ∧ H' = upd H p o) → Q v H') → r v1 v2 H Q
def m2 (f : F2) (Ma Mb : ME) : ME := fun s R Xp => Ma s (fun x hp1 => Mb { s with hp := hp1 } (fun y hp2 => on (val hp2 x) fun d1 => on (val hp2 y) fun d2 => f d1 d2 fun d => R (.d d) hp2) Xp) Xp
theorem sim_op {K : Frag} {W : WX} {r : R2} {f : F2} {ta tb : TE} {Ma Mb : ME} (hr : Sim2 K r f) (ha : SimE K W ta Ma) (hb : SimE K W tb Mb) : SimE K W (tOp r ta tb) (m2 f Ma Mb) := by
  intro α s H σ w e R Xp m Q q qx
  refine ha α s H σ w e _ _ m _ (fun x hp1 α1 H1 v1 m1 e1 w1 r1 => ?_) qx
  refine hb α1 { s with hp := hp1 } H1 σ w1 (e.mono e1) _ _ m1 _ (fun y hp2 α2 H2 v2 m2 e2 w2 r2 => ?_) (qx.at e1)
  have r1' := r1.mono e2
  obtain ⟨d1, g1, m2⟩ := on.ex m2
  obtain ⟨d2, g2, m2⟩ := on.ex m2
  refine hr _ H2 d1 d2 v1 v2 w2.non (r1'.val w2 g1) (r2.val w2 g2) _ m2 Q fun d v H' p rp st => ?_
  rcases st with rfl | ⟨p0, o, hn, rfl⟩
  · exact q _ _ α2 _ v p (e1.trans e2) w2 rp
  · exact q _ _ α2 _ v p ((e1.trans e2).trans (Ext.fresh hn)) (w2.fresh hn) rp
abbrev F1 := D → (D → Prop) → Prop
def Sim1 (K : Frag) (r : V → Hp → VK → Prop) (f : F1) : Prop := ∀ (A : Av) (H : Hp) (d1 : D) (v1 : V), (∀ a, H a = none → ¬ A a) → RepT K A H d1 v1 → ∀ P, f d1 P → ∀ Q : VK, (∀ d v H', P d → Rep K A H' d v → (H' = H ∨ ∃ p o, H p = none ∧ H' = upd H p o) → Q v H') → r v1 H Q
def m1 (f : F1) (Ma : ME) : ME := fun s R Xp => Ma s (fun x hp1 => on (val hp1 x) fun d1 => f d1 fun d => R (.d d) hp1) Xp
theorem sim_un {K : Frag} {W : WX} {r : V → Hp → VK → Prop} {f : F1} {ta : TE} {Ma : ME} (hr : Sim1 K r f) (ha : SimE K W ta Ma) : SimE K W (tUn r ta) (m1 f Ma) := by
  intro α s H σ w e R Xp m Q q qx
  refine ha α s H σ w e _ _ m _ (fun x hp1 α1 H1 v1 m1 e1 w1 r1 => ?_) qx
  obtain ⟨d1, g1, m1⟩ := on.ex m1
  all_goals
    refine hr _ H1 d1 v1 w1.non (r1.val w1 g1) _ m1 Q fun d v H' p rp st => ?_
    rcases st with rfl | ⟨p0, o, hn, rfl⟩
    · exact q _ _ α1 _ v p e1 w1 rp
    · exact q _ _ α1 _ v p (e1.trans (Ext.fresh hn)) (w1.fresh hn) rp

/-! ### arguments; built-ins on data -/
def mNil : MA := fun s R _ => R [] s.hp
def mCons (Ma : ME) (Mr : MA) : MA := fun s R Xp => Ma s (fun x hp1 => Mr { s with hp := hp1 } (fun xs hp2 => R (x :: xs) hp2) Xp) Xp
theorem sim_nil {K : Frag} {W : WX} : SimA K W tNil mNil := fun α s H σ w e R Xp m Q q _ => q _ _ α H [] m Ext.refl w .nil
theorem sim_cons {K : Frag} {W : WX} {ta : TE} {tr : TA} {Ma : ME} {Mr : MA} (ha : SimE K W ta Ma) (hr : SimA K W tr Mr) : SimA K W (tCons ta tr) (mCons Ma Mr) := by
  intro α s H σ w e R Xp m Q q qx
  refine ha α s H σ w e _ _ m _ (fun x hp1 α1 H1 v1 m1 e1 w1 r1 => ?_) qx
  refine hr α1 { s with hp := hp1 } H1 σ w1 (e.mono e1) _ _ m1 _ (fun xs hp2 α2 H2 vs m2 e2 w2 r2 => ?_) (qx.at e1)
  exact q _ _ α2 _ _ m2 (e1.trans e2) w2 (.cons (r1.mono e2) r2)
/-- a list of things as data -/
def vals (hp : List O) : List S → Option (List D)
  | [] => some []
  | x :: xs => match val hp x, vals hp xs with
    | some d, some ds => some (d :: ds)
    | _, _ => none
abbrev FN := List D → (D → Prop) → Prop
def RepTL (K : Frag) (A : Av) (H : Hp) : List D → List V → Prop := Paired (RepT K A H)
theorem SRepL.vals {K : Frag} {α : Mp_} {hp : List O} {H : Hp} (w : WOk K α hp H) : ∀ {ss : List S} {vs : List V} {ds : List D}, SRepL K α hp H ss vs → vals hp ss = some ds → RepTL K (Al α hp) H ds vs
  | [], _, ds, h, e => by cases h; cases e; exact .nil
  | x :: xs, _, ds, h, e => by
    cases h with
    | cons h t =>
      unfold Mp.vals at e
      cases g1 : val hp x with
      | none => rw [g1] at e; cases e
      | some d =>
        cases g2 : Mp.vals hp xs with
        | none => rw [g1, g2] at e; cases e
        | some es =>
          rw [g1, g2] at e
          cases e
          exact .cons (h.val w g1) (SRepL.vals w t g2)
def SimN (K : Frag) (r : List V → Hp → VK → Prop) (f : FN) : Prop := ∀ (A : Av) (H : Hp) (ds : List D) (vs : List V), (∀ a, H a = none → ¬ A a) → RepTL K A H ds vs → ∀ P, f ds P → ∀ Q : VK, (∀ d v H', P d → Rep K A H' d v → (H' = H ∨ ∃ p o, H p = none ∧ H' = upd H p o) → Q v H') → r vs H Q
def mN (f : FN) (Ma : MA) : ME := fun s R Xp => Ma s (fun xs hp1 => on (vals hp1 xs) fun ds => f ds fun d => R (.d d) hp1) Xp
theorem sim_cb {K : Frag} {W : WX} {r : List V → Hp → VK → Prop} {f : FN} {ta : TA} {Ma : MA} (hr : SimN K r f) (ha : SimA K W ta Ma) : SimE K W (tCB r ta) (mN f Ma) := by
  intro α s H σ w e R Xp m Q q qx
  refine ha α s H σ w e _ _ m _ (fun x hp1 α1 H1 v1 m1 e1 w1 r1 => ?_) qx
  obtain ⟨d1, g1, m1⟩ := on.ex m1
  all_goals
    refine hr _ H1 d1 v1 w1.non (r1.vals w1 g1) _ m1 Q fun d v H' p rp st => ?_
    rcases st with rfl | ⟨p0, o, hn, rfl⟩
    · exact q _ _ α1 _ v p e1 w1 rp
    · exact q _ _ α1 _ v p (e1.trans (Ext.fresh hn)) (w1.fresh hn) rp

/-! ### displays: all items are data -/
def allD : List S → Option (List D)
  | [] => some []
  | .d x :: xs => match allD xs with
    | some ds => some (x :: ds)
    | _ => none
  | .mu _ :: _ => none
theorem SRepL.allD {K : Frag} {α : Mp_} {hp : List O} {H : Hp} : ∀ {ss : List S} {vs : List V} {ds : List D}, SRepL K α hp H ss vs → allD ss = some ds → RepL K (Al α hp) H ds vs
  | [], _, ds, h, e => by cases h; cases e; exact .nil
  | .d x :: xs, _, ds, h, e => by
    cases h with
    | cons h t =>
      unfold Mp.allD at e
      cases g2 : Mp.allD xs with
      | none => rw [g2] at e; cases e
      | some es =>
        rw [g2] at e
        cases e
        exact .cons h (SRepL.allD t g2)
  | .mu _ :: _, _, _, _, e => by cases e
def mTup (Ma : MA) : ME := fun s R Xp => Ma s (fun xs hp1 => on (allD xs) fun ds => ds.length ≤ sizeLine ∧ R (.d (.tup ds)) hp1) Xp
theorem sim_tup {K : Frag} {W : WX} {ta : TA} {Ma : MA} (ha : SimA K W ta Ma) : SimE K W (tTup ta) (mTup Ma) := by
  intro α s H σ w e R Xp m Q q qx
  refine ha α s H σ w e _ _ m _ (fun x hp1 α1 H1 v1 m1 e1 w1 r1 => ?_) qx
  obtain ⟨d1, g1, m1⟩ := on.ex m1
  all_goals
    have r2 := r1.allD g1
    refine ⟨by rw [← r2.length]; exact m1.1, fun p hn => ?_⟩
    have na : ¬ Al α1 hp1 p := fun z => by obtain ⟨o, ho⟩ := w1.there z; rw [hn] at ho; cases ho
    exact q _ _ α1 _ _ m1.2 (e1.trans (Ext.fresh hn)) (w1.fresh hn) ⟨p, v1, rfl, .inl ⟨upd_same, na⟩, RepL.mono (Step.fresh al_sub hn) _ _ r2⟩
/-- a new list that nobody will change -/
def mLst (Ma : MA) : ME := fun s R Xp => Ma s (fun xs hp1 => on (allD xs) fun ds => ds.length ≤ sizeLine ∧ R (.d (.lst ds)) hp1) Xp
theorem sim_lst {K : Frag} {W : WX} {ta : TA} {Ma : MA} (ha : SimA K W ta Ma) : SimE K W (tLst ta) (mLst Ma) := by
  intro α s H σ w e R Xp m Q q qx
  refine ha α s H σ w e _ _ m _ (fun x hp1 α1 H1 v1 m1 e1 w1 r1 => ?_) qx
  obtain ⟨d1, g1, m1⟩ := on.ex m1
  all_goals
    have r2 := r1.allD g1
    refine ⟨by rw [← r2.length]; exact m1.1, fun p hn => ?_⟩
    have na : ¬ Al α1 hp1 p := fun z => by obtain ⟨o, ho⟩ := w1.there z; rw [hn] at ho; cases ho
    exact q _ _ α1 _ _ m1.2 (e1.trans (Ext.fresh hn)) (w1.fresh hn) ⟨p, v1, rfl, ⟨upd_same, na⟩, RepL.mono (Step.fresh al_sub hn) _ _ r2⟩
/-! ### a new object -/
def Mp_.push (α : Mp_) (p : Addr × List Addr) : Mp_ := { α with own := α.own ++ [p] }
theorem mt_push {α : Mp_} {hp : List O} (hl : α.own.length = hp.length) {p : Addr × List Addr} {o : O} {a : Addr} : Mt (α.push p) (hp ++ [o]) a ↔ Mt α hp a ∨ (o ≠ .gone ∧ (a = p.1 ∨ a ∈ p.2)) := by
  constructor
  · rintro ⟨n, q, u, h1, h2, h3, h4⟩
    have h1 : (α.own ++ [p])[n]? = some q := h1
    by_cases hn : n < α.own.length
    · rw [List.getElem?_append_left hn] at h1
      rw [List.getElem?_append_left (by omega)] at h2
      exact .inl ⟨n, q, u, h1, h2, h3, h4⟩
    · have hx : n < (α.own ++ [p]).length := (List.getElem?_eq_some_iff.mp h1).1
      have en : n = α.own.length := by simp at hx; omega
      subst en
      rw [List.getElem?_append_right (Nat.le_refl _)] at h1
      rw [hl, List.getElem?_append_right (Nat.le_refl _)] at h2
      simp at h1 h2
      subst h1 h2
      exact .inr ⟨h3, h4⟩
  · rintro (⟨n, q, u, h1, h2, h3, h4⟩ | ⟨h3, h4⟩)
    · refine ⟨n, q, u, ?_, ?_, h3, h4⟩
      · show (α.own ++ [p])[n]? = _
        rw [List.getElem?_append_left (List.getElem?_eq_some_iff.mp h1).1]; exact h1
      · rw [List.getElem?_append_left (List.getElem?_eq_some_iff.mp h2).1]; exact h2
    · refine ⟨α.own.length, p, o, ?_, ?_, h3, h4⟩
      · show (α.own ++ [p])[α.own.length]? = _
        rw [List.getElem?_append_right (Nat.le_refl _)]; simp
      · rw [hl, List.getElem?_append_right (Nat.le_refl _)]; simp
/-- a new object at p -/
theorem WOk.pushO {K : Frag} {α : Mp_} {hp : List O} {H H' : Hp} {p : Addr × List Addr} {o : O} (w : WOk K α hp H) (st : StepW α hp H (α.push p) (hp ++ [o]) H')
    (same : ∀ a, Al α hp a → H' a = H a) (na : ∀ a, (a = p.1 ∨ a ∈ p.2) → ¬ Al α hp a) (one : p.1 ∉ p.2 ∧ p.2.Nodup) (ho : OR K (Al (α.push p) (hp ++ [o])) H' p o) : WOk K (α.push p) (hp ++ [o]) H' := by
  have hl := w.len
  have cut : ∀ (n : Nat) (u : O) (q : Addr × List Addr), (hp ++ [o])[n]? = some u → (α.own ++ [p])[n]? = some q → (hp[n]? = some u ∧ α.own[n]? = some q) ∨ (n = hp.length ∧ u = o ∧ q = p) := fun n u q h1 h2 => by
    by_cases hn : n < hp.length
    · rw [List.getElem?_append_left hn] at h1
      rw [List.getElem?_append_left (by omega)] at h2
      exact .inl ⟨h1, h2⟩
    · have hx : n < (hp ++ [o]).length := (List.getElem?_eq_some_iff.mp h1).1
      have en : n = hp.length := by simp at hx; omega
      subst en
      rw [List.getElem?_append_right (Nat.le_refl _)] at h1
      rw [← hl, List.getElem?_append_right (Nat.le_refl _)] at h2
      simp at h1 h2
      exact .inr ⟨rfl, h1.symm, h2.symm⟩
  refine ⟨by show (α.own ++ [p]).length = _; simp [hl], fun n u q h1 h2 => ?_, fun n u q h1 h2 hg => ?_, fun m n u u' q q' h1 h2 h3 h4 h5 h6 hne a ha hb => ?_, fun a ha => ?_⟩
  · rcases cut n u q h1 h2 with ⟨h1, h2⟩ | ⟨_, rfl, rfl⟩
    · exact (w.obj n u q h1 h2).mono st fun hg b hb => same b (.inl ⟨n, q, u, h2, h1, hg, hb⟩)
    · exact ho
  · rcases cut n u q h1 h2 with ⟨h1, h2⟩ | ⟨_, rfl, rfl⟩
    · exact w.one n u q h1 h2 hg
    · exact one
  · rcases cut m u q h1 h2 with ⟨h1, h2⟩ | ⟨e1, rfl, rfl⟩
    · rcases cut n u' q' h4 h5 with ⟨h4, h5⟩ | ⟨e2, z1, z2⟩
      · exact w.inj m n u u' q q' h1 h2 h3 h4 h5 h6 hne a ha hb
      · rw [z2] at hb; exact na a hb (.inl ⟨m, q, u, h2, h1, h3, ha⟩)
    · rcases cut n u' q' h4 h5 with ⟨h4, h5⟩ | ⟨e2, rfl, rfl⟩
      · exact na a ha (.inl ⟨n, q', u', h5, h4, h6, hb⟩)
      · exact hne (e1.trans e2.symm)
  · have ha : α.ban a := ha
    obtain ⟨⟨x, hx⟩, hm⟩ := w.ban a ha
    refine ⟨⟨x, by rw [same a (.inr ha)]; exact hx⟩, fun z => ?_⟩
    rcases (mt_push hl).mp z with z | ⟨_, z⟩
    · exact hm z
    · exact na a z (.inr ha)
theorem Ext.push {α : Mp_} {hp : List O} {H H' : Hp} {p : Addr × List Addr} {o : O} (st : StepW α hp H (α.push p) (hp ++ [o]) H') (hn : H p.1 = none) : Ext α hp H (α.push p) (hp ++ [o]) H' :=
  ⟨⟨by show α.own.map (·.1) <+: (α.own ++ [p]).map (·.1); rw [List.map_append]; exact List.prefix_append _ _, rfl⟩, st, fun n q h e => by
    have e : (α.own ++ [p])[n]? = some q := e
    rw [List.getElem?_append_right h] at e
    cases z : n - α.own.length with
    | zero => rw [z] at e; cases e; exact hn
    | succ k => rw [z] at e; cases e⟩
/-- a new list at p, to be changed -/
theorem WOk.pushLst {K : Frag} {α : Mp_} {hp : List O} {H : Hp} {p : Addr} {ds : List D} {vs : List V} (w : WOk K α hp H) (hn : H p = none) (r : RepL K (Al α hp) H ds vs) :
    WOk K (α.push (p, [])) (hp ++ [.lst ds]) (upd H p (.lst vs)) ∧ Ext α hp H (α.push (p, [])) (hp ++ [.lst ds]) (upd H p (.lst vs)) := by
  have mt : ∀ a, Mt (α.push (p, [])) (hp ++ [.lst ds]) a → Mt α hp a ∨ a = p := fun a h => by
    rcases (mt_push w.len).mp h with h | ⟨_, h⟩
    · exact .inl h
    · rcases h with h | h
      · exact .inr h
      · cases h
  have na : ¬ Al α hp p := w.non p hn
  have st : StepW α hp H (α.push (p, [])) (hp ++ [.lst ds]) (upd H p (.lst vs)) := ⟨(Step.fresh (A := Al α hp) (M := Mt α hp) al_sub hn).keep, fun a h => by
    rcases h with h | h
    · exact (mt a h).imp .inl fun e => by rw [e]; exact hn
    · exact .inl (.inr h), fun a h => (mt a h).imp id fun e => by rw [e]; exact hn, al_sub, (Step.fresh (A := Al α hp) (M := Mt α hp) al_sub hn).stay⟩
  refine ⟨w.pushO st (fun a h => upd_ne fun e => na (e ▸ h)) (fun a h => ?_) ⟨by simp, by simp⟩ ⟨rfl, vs, upd_same, RepL.mono st _ _ r⟩, Ext.push st hn⟩
  rcases h with h | h
  · rw [h]; exact na
  · cases h
def mLstM (Ma : MA) : ME := fun s R Xp => Ma s (fun xs hp1 => on (allD xs) fun ds => ds.length ≤ sizeLine ∧ R (.mu hp1.length) (hp1 ++ [.lst ds])) Xp
theorem sim_lstM {K : Frag} {W : WX} {ta : TA} {Ma : MA} (ha : SimA K W ta Ma) : SimE K W (tLst ta) (mLstM Ma) := by
  intro α s H σ w e R Xp m Q q qx
  refine ha α s H σ w e _ _ m _ (fun x hp1 α1 H1 v1 m1 e1 w1 r1 => ?_) qx
  obtain ⟨d1, g1, m1⟩ := on.ex m1
  all_goals
    have r2 := r1.allD g1
    refine ⟨by rw [← r2.length]; exact m1.1, fun p hn => ?_⟩
    obtain ⟨w2, e2⟩ := w1.pushLst hn r2
    exact q _ _ _ _ _ m1.2 (e1.trans e2) w2 ⟨(p, []), by show (α1.own ++ [(p, [])])[hp1.length]? = _; rw [← w1.len, List.getElem?_append_right (Nat.le_refl _)]; simp, rfl⟩

/-! ### tests -/
def asB : S → Option Bool
  | .d (.bl b) => some b
  | _ => none
theorem SRep.asB {K : Frag} {α : Mp_} {hp : List O} {H : Hp} {s : S} {v : V} {b : Bool} (h : SRep K α hp H s v) (e : asB s = some b) : v = .bl b := by
  unfold Mp.asB at e
  split at e
  · cases e; exact h
  · cases e
def mTest (Ma : ME) : MT := fun s R Xp => Ma s (fun x hp1 => on (asB x) fun b => R b hp1) Xp
theorem sim_test {K : Frag} {W : WX} {ta : TE} {Ma : ME} (ha : SimE K W ta Ma) : SimT K W (tTest ta) (mTest Ma) := by
  intro α s H σ w e R Xp m Q q qx
  refine ha α s H σ w e _ _ m _ (fun x hp1 α1 H1 v1 m1 e1 w1 r1 => ?_) qx
  obtain ⟨b, g1, m1⟩ := on.ex m1
  exact ⟨b, r1.asB g1, q _ _ α1 _ m1 e1 w1⟩
theorem sim_tB {K : Frag} {W : WX} {ta : TE} {Ma : ME} (ha : SimE K W ta Ma) : SimT K W (tB ta) (mTest Ma) := sim_test ha
def mAnd (Ma Mb : MT) : MT := fun s R Xp => Ma s (fun b hp1 => if b = true then Mb { s with hp := hp1 } R Xp else R false hp1) Xp
def mOr (Ma Mb : MT) : MT := fun s R Xp => Ma s (fun b hp1 => if b = true then R true hp1 else Mb { s with hp := hp1 } R Xp) Xp
def mNot (Ma : MT) : MT := fun s R Xp => Ma s (fun b hp1 => R (!b) hp1) Xp
theorem sim_and {K : Frag} {W : WX} {t u : TT} {Ma Mb : MT} (ha : SimT K W t Ma) (hb : SimT K W u Mb) : SimT K W (tAnd t u) (mAnd Ma Mb) := by
  intro α s H σ w e R Xp m Q q qx
  refine ha α s H σ w e _ _ m _ (fun b hp1 α1 H1 m1 e1 w1 => ?_) qx
  cases b with
  | true => exact hb α1 { s with hp := hp1 } H1 σ w1 (e.mono e1) _ _ m1 _ (q.at e1) (qx.at e1)
  | false => exact q _ _ α1 _ m1 e1 w1
theorem sim_or {K : Frag} {W : WX} {t u : TT} {Ma Mb : MT} (ha : SimT K W t Ma) (hb : SimT K W u Mb) : SimT K W (tOr t u) (mOr Ma Mb) := by
  intro α s H σ w e R Xp m Q q qx
  refine ha α s H σ w e _ _ m _ (fun b hp1 α1 H1 m1 e1 w1 => ?_) qx
  cases b with
  | true => exact q _ _ α1 _ m1 e1 w1
  | false => exact hb α1 { s with hp := hp1 } H1 σ w1 (e.mono e1) _ _ m1 _ (q.at e1) (qx.at e1)
theorem sim_not {K : Frag} {W : WX} {t : TT} {Ma : MT} (ha : SimT K W t Ma) : SimT K W (tNot t) (mNot Ma) := by
  intro α s H σ w e R Xp m Q q qx
  exact ha α s H σ w e _ _ m _ (fun b hp1 α1 H1 m1 e1 w1 => q _ _ α1 _ m1 e1 w1) qx
def mAndV (Ma Mb : ME) : ME := fun s R Xp => Ma s (fun x hp1 => on (asB x) fun b => if b = true then Mb { s with hp := hp1 } R Xp else R (.d (.bl false)) hp1) Xp
def mOrV (Ma Mb : ME) : ME := fun s R Xp => Ma s (fun x hp1 => on (asB x) fun b => if b = true then R (.d (.bl true)) hp1 else Mb { s with hp := hp1 } R Xp) Xp
def mNotV (Ma : ME) : ME := fun s R Xp => Ma s (fun x hp1 => on (asB x) fun b => R (.d (.bl (!b))) hp1) Xp
theorem sim_andV {K : Frag} {W : WX} {t u : TE} {Ma Mb : ME} (ha : SimE K W t Ma) (hb : SimE K W u Mb) : SimE K W (tAndV t u) (mAndV Ma Mb) := by
  intro α s H σ w e R Xp m Q q qx
  refine ha α s H σ w e _ _ m _ (fun x hp1 α1 H1 v1 m1 e1 w1 r1 => ?_) qx
  obtain ⟨b, g1, m1⟩ := on.ex m1
  all_goals
    refine ⟨b, r1.asB g1, ?_⟩
    cases b with
    | true => exact hb α1 { s with hp := hp1 } H1 σ w1 (e.mono e1) _ _ m1 _ (q.at e1) (qx.at e1)
    | false => exact q _ _ α1 _ _ m1 e1 w1 rfl
theorem sim_orV {K : Frag} {W : WX} {t u : TE} {Ma Mb : ME} (ha : SimE K W t Ma) (hb : SimE K W u Mb) : SimE K W (tOrV t u) (mOrV Ma Mb) := by
  intro α s H σ w e R Xp m Q q qx
  refine ha α s H σ w e _ _ m _ (fun x hp1 α1 H1 v1 m1 e1 w1 r1 => ?_) qx
  obtain ⟨b, g1, m1⟩ := on.ex m1
  all_goals
    refine ⟨b, r1.asB g1, ?_⟩
    cases b with
    | true => exact q _ _ α1 _ _ m1 e1 w1 rfl
    | false => exact hb α1 { s with hp := hp1 } H1 σ w1 (e.mono e1) _ _ m1 _ (q.at e1) (qx.at e1)
theorem sim_notV {K : Frag} {W : WX} {t : TE} {Ma : ME} (ha : SimE K W t Ma) : SimE K W (tNotV t) (mNotV Ma) := by
  intro α s H σ w e R Xp m Q q qx
  refine ha α s H σ w e _ _ m _ (fun x hp1 α1 H1 v1 m1 e1 w1 r1 => ?_) qx
  obtain ⟨b, g1, m1⟩ := on.ex m1
  exact ⟨b, r1.asB g1, q _ _ α1 _ _ m1 e1 w1 rfl⟩
def mIf (Mc : MT) (Ma Mb : ME) : ME := fun s R Xp => Mc s (fun b hp1 => if b = true then Ma { s with hp := hp1 } R Xp else Mb { s with hp := hp1 } R Xp) Xp
theorem sim_if {K : Frag} {W : WX} {c : TT} {t u : TE} {Mc : MT} {Ma Mb : ME} (hc : SimT K W c Mc) (ha : SimE K W t Ma) (hb : SimE K W u Mb) : SimE K W (tIf c t u) (mIf Mc Ma Mb) := by
  intro α s H σ w e R Xp m Q q qx
  refine hc α s H σ w e _ _ m _ (fun b hp1 α1 H1 m1 e1 w1 => ?_) qx
  cases b with
  | true => exact ha α1 { s with hp := hp1 } H1 σ w1 (e.mono e1) _ _ m1 _ (q.at e1) (qx.at e1)
  | false => exact hb α1 { s with hp := hp1 } H1 σ w1 (e.mono e1) _ _ m1 _ (q.at e1) (qx.at e1)
/-- a < b < c -/
def mChain (f g : F2) (Ma Mb Mc : ME) : ME := fun s R Xp => Ma s (fun x hp1 => Mb { s with hp := hp1 } (fun y hp2 => on (val hp2 x) fun d1 => on (val hp2 y) fun d2 => f d1 d2 fun d =>
  on (asB (.d d)) fun b => if b = true then Mc { s with hp := hp2 } (fun z hp3 => on (val hp3 y) fun d2 => on (val hp3 z) fun d3 => g d2 d3 fun d => R (.d d) hp3) Xp else R (.d (.bl false)) hp2) Xp) Xp
theorem sim_chain {K : Frag} {W : WX} {r r' : R2} {f g : F2} {ta tb tc : TE} {Ma Mb Mc : ME} (hr : Sim2 K r f) (hr' : Sim2 K r' g) (ha : SimE K W ta Ma) (hb : SimE K W tb Mb) (hc : SimE K W tc Mc) : SimE K W (tChain r r' ta tb tc) (mChain f g Ma Mb Mc) := by
  intro α s H σ w e R Xp m Q q qx
  refine ha α s H σ w e _ _ m _ (fun x hp1 α1 H1 v1 m1 e1 w1 r1 => ?_) qx
  refine hb α1 { s with hp := hp1 } H1 σ w1 (e.mono e1) _ _ m1 _ (fun y hp2 α2 H2 v2 m2 e2 w2 r2 => ?_) (qx.at e1)
  obtain ⟨d1, g1, m2⟩ := on.ex m2
  obtain ⟨d2, g2, m2⟩ := on.ex m2
  refine hr _ H2 d1 d2 v1 v2 w2.non ((r1.mono e2).val w2 g1) (r2.val w2 g2) _ m2 _ fun d v H' p rp st => ?_
  obtain ⟨b, g3, p⟩ := on.ex p
  obtain ⟨e3, w3⟩ := w2.grown st
  have hv : v = .bl b := by
    unfold asB at g3
    split at g3
    · cases g3; rename_i q; cases q; exact rp
    · cases g3
  refine ⟨b, hv, ?_⟩
  cases b with
  | false => exact q _ _ α2 _ _ p ((e1.trans e2).trans e3) w3 rfl
  | true =>
    refine hc α2 { s with hp := hp2 } H' σ w3 ((e.mono (e1.trans e2)).mono e3) _ _ p _ (fun z hp3 α3 H3 v3 m3 e4 w4 r4 => ?_) (((qx.at e1).at e2).at e3)
    obtain ⟨d2', g4, m3⟩ := on.ex m3
    obtain ⟨d3, g5, m3⟩ := on.ex m3
    refine hr' _ H3 d2' d3 v2 v3 w4.non (((r2.mono e3).mono e4).val w4 g4) (r4.val w4 g5) _ m3 Q fun d' v' H4 p' rp' st' => ?_
    obtain ⟨e5, w5⟩ := w4.grown st'
    exact q _ _ α3 _ _ p' ((((e1.trans e2).trans e3).trans e4).trans e5) w5 rp'
end Mp

set_option Elab.async false
set_option linter.all false
set_option maxRecDepth 100000
set_option maxHeartbeats 4000000
/-! Mp3: the operators and built-ins on data. -/
namespace Mp
open PySem PySem.Spec PyProof.Rows L2

theorem OpR.or {X : Cx} {f : Value → Value → Sem Value} {r r' : R2} (h : OpR X f r) (h' : OpR X f r') : OpR X f (fun x y H Q => r x y H Q ∨ r' x y H Q) := by
  intro pins s σ H x y v u Q I rx ry q
  rcases q with q | q
  · exact h pins s σ H x y v u Q I rx ry q
  · exact h' pins s σ H x y v u Q I rx ry q
theorem CallR.or {X : Cx} {f : Value} {r r' : List V → Hp → VK → Prop} (h : CallR X f r) (h' : CallR X f r') : CallR X f (fun x H Q => r x H Q ∨ r' x H Q) := by
  intro pins s σ H xs us Q I rx q
  rcases q with q | q
  · exact h pins s σ H xs us Q I rx q
  · exact h' pins s σ H xs us Q I rx q

/-! ### whole numbers -/
def fI (C : Int → Int → Prop) (g : Int → Int → D) : F2 := fun a b P => match a, b with
  | .int i, .int j => C i j ∧ P (g i j)
  | _, _ => False
@[simp] theorem fI_int {C : Int → Int → Prop} {g : Int → Int → D} {i j : Int} {P : D → Prop} : fI C g (.int i) (.int j) P = (C i j ∧ P (g i j)) := rfl
theorem sim_I {K : Frag} {C : Int → Int → Prop} {g : Int → Int → D} {g' : Int → Int → V} (hg : ∀ A H i j, Rep K A H (g i j) (g' i j)) : Sim2 K (rI C g') (fI C g) := by
  intro A H d1 d2 v1 v2 _ r1 r2 P p Q q
  cases d1 <;> cases d2 <;> first | exact p.elim | (cases r1; cases r2; exact ⟨_, _, rfl, rfl, p.1, q _ _ _ p.2 (hg _ _ _ _) (.inl rfl)⟩)
def fI0 (g : Int → Int → D) : F2 := fun a b P => match a, b with
  | .int i, .int j => P (g i j)
  | _, _ => False
@[simp] theorem fI0_int {g : Int → Int → D} {i j : Int} {P : D → Prop} : fI0 g (.int i) (.int j) P = P (g i j) := rfl
theorem sim_I0 {K : Frag} {g : Int → Int → D} {g' : Int → Int → V} (hg : ∀ A H i j, Rep K A H (g i j) (g' i j)) : Sim2 K (rI0 g') (fI0 g) := by
  intro A H d1 d2 v1 v2 _ r1 r2 P p Q q
  cases d1 <;> cases d2 <;> first | exact p.elim | (cases r1; cases r2; exact ⟨_, _, rfl, rfl, q _ _ _ p (hg _ _ _ _) (.inl rfl)⟩)

/-! ### a + b: numbers, texts, lists, tuples -/
def fAdd : F2 := fun a b P => match a, b with
  | .int i, .int j => P (.int (i + j))
  | .str x, .str y => x.length + y.length ≤ sizeLine ∧ P (.str (x ++ y))
  | .lst x, .lst y => x.length + y.length ≤ sizeLine ∧ P (.lst (x ++ y))
  | .tup x, .tup y => x.length + y.length ≤ sizeLine ∧ P (.tup (x ++ y))
  | _, _ => False
@[simp] theorem fAdd_int {i j : Int} {P : D → Prop} : fAdd (.int i) (.int j) P = P (.int (i + j)) := rfl
@[simp] theorem fAdd_str {i j : Str} {P : D → Prop} : fAdd (.str i) (.str j) P = (i.length + j.length ≤ sizeLine ∧ P (.str (i ++ j))) := rfl
@[simp] theorem fAdd_lst {i j : List D} {P : D → Prop} : fAdd (.lst i) (.lst j) P = (i.length + j.length ≤ sizeLine ∧ P (.lst (i ++ j))) := rfl
@[simp] theorem fAdd_tup {i j : List D} {P : D → Prop} : fAdd (.tup i) (.tup j) P = (i.length + j.length ≤ sizeLine ∧ P (.tup (i ++ j))) := rfl
def rAddS2 : R2 := fun x y H Q => ∃ i j, x = .str i ∧ y = .str j ∧ i.length + j.length ≤ sizeLine ∧ Q (.str (i ++ j)) H
def rAddA (K : Frag) : R2 := fun x y H Q => rI0 (fun i j => .int (i + j)) x y H Q ∨ rAddS2 x y H Q ∨ rCat x y H Q ∨ rCatA K x y H Q
theorem op_addA {X : Cx} : OpR X (binaryOp .Add) (rAddA X.K) := OpR.or op_add (OpR.or op_add_str (OpR.or op_cat op_catA))
theorem tup_sq {K : Frag} {A : Av} {H : Hp} {ds : List D} {v : V} (h : Rep K A H (.tup ds) v) : ∃ a vs, v = .ref a ∧ SqT K H a vs ∧ RepL K A H ds vs := by
  obtain ⟨a, vs, e, h, r⟩ := h
  refine ⟨a, vs, e, ?_, r⟩
  rcases h with h | h
  · exact .inl (.inl h.1)
  · rcases h with h | h
    · rcases h with h | ⟨_, h⟩ <;> cases h
    · exact .inr h
theorem fl_sq {K : Frag} {A : Av} {H : Hp} {ds : List D} {v : V} (h : Rep K A H (.fl ds) v) : ∃ a vs, v = .ref a ∧ SqL K H a vs ∧ RepL K A H ds vs := by
  obtain ⟨a, vs, e, h, r⟩ := h
  refine ⟨a, vs, e, ?_, r⟩
  rcases h with h | h
  · exact .inl h.1
  · rcases h with h | h
    · rcases h with h | ⟨_, h⟩ <;> cases h
    · exact .inr h
theorem new_lst {K : Frag} {A : Av} {H : Hp} {ds : List D} {vs : List V} {p : Addr} (hA : ∀ a, H a = none → ¬ A a) (hn : H p = none) (r : RepL K A H ds vs) : Rep K A (upd H p (.lst vs)) (.lst ds) (.ref p) :=
  ⟨p, vs, rfl, ⟨upd_same, hA p hn⟩, RepL.mono (Step.fresh (M := noA) (fun _ z => z.elim) hn) _ _ r⟩
theorem new_tup {K : Frag} {A : Av} {H : Hp} {ds : List D} {vs : List V} {p : Addr} (hA : ∀ a, H a = none → ¬ A a) (hn : H p = none) (r : RepL K A H ds vs) : Rep K A (upd H p (.tup vs)) (.tup ds) (.ref p) :=
  ⟨p, vs, rfl, .inl ⟨upd_same, hA p hn⟩, RepL.mono (Step.fresh (M := noA) (fun _ z => z.elim) hn) _ _ r⟩
theorem sim_add {K : Frag} : Sim2 K (rAddA K) fAdd := by
  intro A H d1 d2 v1 v2 hA r1 r2 P p Q q
  cases d1 with
  | int i =>
    cases d2 with
    | int j => cases r1; cases r2; exact .inl ⟨_, _, rfl, rfl, q _ _ _ p rfl (.inl rfl)⟩
    | _ => exact p.elim
  | str i =>
    cases d2 with
    | str j => cases r1; cases r2; exact .inr (.inl ⟨_, _, rfl, rfl, p.1, q _ _ _ p.2 rfl (.inl rfl)⟩)
    | _ => exact p.elim
  | lst i =>
    cases d2 with
    | lst j =>
      obtain ⟨a, vs, rfl, h1, k1⟩ := r1
      obtain ⟨b, us, rfl, h2, k2⟩ := r2
      exact .inr (.inr (.inl ⟨a, b, vs, us, rfl, rfl, h1, h2, by rw [← k1.length, ← k2.length]; exact p.1, fun l hl => q _ _ _ p.2 (new_lst hA hl (k1.append k2)) (.inr ⟨l, _, hl, rfl⟩)⟩))
    | _ => exact p.elim
  | tup i =>
    cases d2 with
    | tup j =>
      obtain ⟨a, vs, e1, h1, k1⟩ := tup_sq (r1 : Rep K A H (.tup i) v1)
      obtain ⟨b, us, e2, h2, k2⟩ := tup_sq (r2 : Rep K A H (.tup j) v2)
      refine .inr (.inr (.inr ⟨a, b, vs, us, e1, e2, h1, h2, by rw [← k1.length, ← k2.length]; exact p.1, fun z => ?_, fun z1 z => ?_, fun _ _ l hl => q _ _ _ p.2 (new_tup hA hl (k1.append k2)) (.inr ⟨l, _, hl, rfl⟩)⟩))
      · subst z
        have e : i = [] := List.eq_nil_of_length_eq_zero (by have := k1.length; simpa using this)
        subst e
        exact q _ _ _ p.2 (e2 ▸ r2) (.inl rfl)
      · subst z
        have e : j = [] := List.eq_nil_of_length_eq_zero (by have := k2.length; simpa using this)
        subst e
        refine q _ _ _ p.2 ?_ (.inl rfl)
        rw [List.append_nil]
        exact e1 ▸ r1
    | _ => exact p.elim
  | _ => exact p.elim

/-! ### a * b: numbers, a list so many times -/
def fMul : F2 := fun a b P => match a, b with
  | .int i, .int j => (CMul i j ∨ CMulW i j) ∧ P (.int (i * j))
  | .lst x, .int k => -(2 ^ 63) ≤ k ∧ k < 2 ^ 63 ∧ x.length * k.toNat ≤ sizeLine ∧ P (.lst (List.flatten (List.replicate k.toNat x)))
  | _, _ => False
@[simp] theorem fMul_int {i j : Int} {P : D → Prop} : fMul (.int i) (.int j) P = ((CMul i j ∨ CMulW i j) ∧ P (.int (i * j))) := rfl
@[simp] theorem fMul_lst {x : List D} {k : Int} {P : D → Prop} : fMul (.lst x) (.int k) P = (-(2 ^ 63) ≤ k ∧ k < 2 ^ 63 ∧ x.length * k.toNat ≤ sizeLine ∧ P (.lst (List.flatten (List.replicate k.toNat x)))) := rfl

theorem RepL.flat {K : Frag} {A : Av} {H : Hp} {ds : List D} {vs : List V} (r : RepL K A H ds vs) : ∀ n : Nat, RepL K A H (List.flatten (List.replicate n ds)) (List.flatten (List.replicate n vs))
  | 0 => rfl
  | n + 1 => by rw [List.replicate_succ, List.replicate_succ, List.flatten_cons, List.flatten_cons]; exact r.append (RepL.flat r n)
def rMulA : R2 := fun x y H Q => rI CMul (fun i j => .int (i * j)) x y H Q ∨ rI CMulW (fun i j => .int (i * j)) x y H Q ∨ rRep x y H Q
theorem op_mulA {X : Cx} : OpR X (binaryOp .Mult) rMulA := OpR.or op_mul (OpR.or op_mulW op_rep)
theorem sim_mul {K : Frag} : Sim2 K rMulA fMul := by
  intro A H d1 d2 v1 v2 hA r1 r2 P p Q q
  cases d1 with
  | int i =>
    cases d2 with
    | int j =>
      cases r1; cases r2
      rcases p.1 with c | c
      · exact .inl ⟨_, _, rfl, rfl, c, q _ _ _ p.2 rfl (.inl rfl)⟩
      · exact .inr (.inl ⟨_, _, rfl, rfl, c, q _ _ _ p.2 rfl (.inl rfl)⟩)
    | _ => exact p.elim
  | lst i =>
    cases d2 with
    | int j =>
      obtain ⟨a, vs, rfl, h1, k1⟩ := r1
      cases r2
      obtain ⟨p1, p2, p3, p4⟩ := p
      exact .inr (.inr ⟨a, _, vs, rfl, rfl, h1, p1, p2, by rw [← k1.length]; exact p3, fun l hl => q _ _ _ p4 (new_lst hA hl (k1.flat _)) (.inr ⟨l, _, hl, rfl⟩)⟩)
    | _ => exact p.elim
  | _ => exact p.elim

/-! ### ==, != at any depth -/
mutual
def D.py : D → PyData
  | .non => .none
  | .bl b => .bool b
  | .int i => .int i
  | .str x => .str x
  | .ty _ => .dict []
  | .tup ds => .tuple (D.pyL ds)
  | .lst ds => .list (D.pyL ds)
  | .fl ds => .list (D.pyL ds)
def D.pyL : List D → List PyData
  | [] => []
  | d :: ds => D.py d :: D.pyL ds
end
mutual
/-- no class within -/
def D.nt : D → Bool
  | .ty _ => false
  | .tup ds => D.ntL ds
  | .lst ds => D.ntL ds
  | .fl ds => D.ntL ds
  | _ => true
def D.ntL : List D → Bool
  | [] => true
  | d :: ds => D.nt d && D.ntL ds
end
def eqD (a b : D) : Bool := PyData.eqv a.py b.py
def shD (d : D) : Bool := SeqAt.shaped d.py
theorem lay_nt : ∀ d : D, d.py.canLay0 = true → True := fun _ _ => trivial
mutual
theorem Rep.dp {K : Frag} {A : Av} {H : Hp} : ∀ (d : D) (v : V), d.py.canLay0 = true → Rep K A H d v → Dp K H v d.py
  | .non, _, _, h => by cases h; exact .non
  | .bl b, _, _, h => by cases h; exact .bl b
  | .int b, _, _, h => by cases h; exact .int b
  | .str b, _, _, h => by cases h; exact .str b
  | .ty b, _, z, h => by simp [D.py, PyData.canLay0] at z
  | .tup ds, v, z, h => by
    obtain ⟨a, vs, e, h1, r⟩ := tup_sq h
    subst e
    exact .tup h1 (RepL.dp ds vs (by simpa [D.py, PyData.canLay0] using z) r)
  | .lst ds, v, z, h => by
    obtain ⟨a, vs, e, h1, r⟩ := h
    subst e
    exact .lst (.inl (.inl h1.1)) (RepL.dp ds vs (by simpa [D.py, PyData.canLay0] using z) r)
  | .fl ds, v, z, h => by
    obtain ⟨a, vs, e, h1, r⟩ := fl_sq h
    subst e
    exact .lst h1 (RepL.dp ds vs (by simpa [D.py, PyData.canLay0] using z) r)
theorem RepL.dp {K : Frag} {A : Av} {H : Hp} : ∀ (ds : List D) (vs : List V), PyData.canLayAll0 (D.pyL ds) = true → RepL K A H ds vs → DpAll K H vs (D.pyL ds)
  | [], _, _, h => by cases h; exact .nil
  | d :: ds, _, z, ⟨v, r, e, h, t⟩ => by
    subst e
    have z2 : d.py.canLay0 = true ∧ PyData.canLayAll0 (D.pyL ds) = true := by simpa [D.pyL, PyData.canLayAll0] using z
    exact .cons (Rep.dp d v z2.1 h) (RepL.dp ds r z2.2 t)
end
theorem RepT.dp {K : Frag} {A : Av} {H : Hp} {d : D} {v : V} (z : shD d = true) (h : RepT K A H d v) : Dp K H v d.py := by
  have z1 := SeqAt.canLay_of_shaped z
  cases d with
  | lst ds =>
    obtain ⟨a, vs, e, h1, r⟩ := h
    subst e
    exact .lst (.inl (.inl h1)) (RepL.dp ds vs (by simpa [D.py, PyData.canLay0] using z1) r)
  | non => exact Rep.dp (A := A) _ _ z1 h
  | bl _ => exact Rep.dp (A := A) _ _ z1 h
  | int _ => exact Rep.dp (A := A) _ _ z1 h
  | str _ => exact Rep.dp (A := A) _ _ z1 h
  | ty _ => exact Rep.dp (A := A) _ _ z1 h
  | tup _ => exact Rep.dp (A := A) _ _ z1 h
  | fl _ => exact Rep.dp (A := A) _ _ z1 h
def fEq : F2 := fun a b P => shD a = true ∧ shD b = true ∧ P (.bl (eqD a b))
def fNe : F2 := fun a b P => shD a = true ∧ shD b = true ∧ P (.bl (!eqD a b))
theorem sim_eq {K : Frag} : Sim2 K (rEqD K) fEq := by
  intro A H d1 d2 v1 v2 hA r1 r2 P p Q q
  exact ⟨_, _, r1.dp p.1, r2.dp p.2.1, p.1, p.2.1, q _ _ _ p.2.2 rfl (.inl rfl)⟩
theorem sim_ne {K : Frag} : Sim2 K (rNeD K) fNe := by
  intro A H d1 d2 v1 v2 hA r1 r2 P p Q q
  exact ⟨_, _, r1.dp p.1, r2.dp p.2.1, p.1, p.2.1, q _ _ _ p.2.2 rfl (.inl rfl)⟩

/-! ### is None -/
def isNon : D → Bool
  | .non => true
  | _ => false
theorem RepT.isNon {K : Frag} {A : Av} {H : Hp} {d : D} {v : V} (h : RepT K A H d v) : decide (v = .non) = isNon d := by
  cases d with
  | non => cases h; rfl
  | bl b => cases h; rfl
  | int b => cases h; rfl
  | str b => cases h; rfl
  | ty b => cases h; rfl
  | tup ds => obtain ⟨a, vs, e, _⟩ := h; subst e; rfl
  | fl ds => obtain ⟨a, vs, e, _⟩ := h; subst e; rfl
  | lst ds => obtain ⟨a, vs, e, _⟩ := h; subst e; rfl
def fIsN : F2 := fun a b P => match b with
  | .non => P (.bl (isNon a))
  | _ => False
def fNotN : F2 := fun a b P => match b with
  | .non => P (.bl (!isNon a))
  | _ => False
@[simp] theorem fIsN_non {a : D} {P : D → Prop} : fIsN a .non P = P (.bl (isNon a)) := rfl
@[simp] theorem fNotN_non {a : D} {P : D → Prop} : fNotN a .non P = P (.bl (!isNon a)) := rfl
def rIsNo : R2 := fun x y H Q => y = .non ∧ Q (.bl (decide (x = .non))) H
def rNotNo : R2 := fun x y H Q => y = .non ∧ Q (.bl (!decide (x = .non))) H
theorem sim_isN {K : Frag} : Sim2 K rIsNo fIsN := by
  intro A H d1 d2 v1 v2 hA r1 r2 P p Q q
  cases d2 <;> first | exact p.elim | (cases r2; exact ⟨rfl, by rw [r1.isNon]; exact q _ _ _ p rfl (.inl rfl)⟩)
theorem sim_notN {K : Frag} : Sim2 K rNotNo fNotN := by
  intro A H d1 d2 v1 v2 hA r1 r2 P p Q q
  cases d2 <;> first | exact p.elim | (cases r2; exact ⟨rfl, by rw [r1.isNon]; exact q _ _ _ p rfl (.inl rfl)⟩)

/-! ### in, not in: flat items of a list or tuple; a text in a text -/
def flatD : D → Bool
  | .non => true
  | .bl _ => true
  | .int _ => true
  | .str _ => true
  | _ => false
def eqF : D → D → Bool
  | .non, .non => true
  | .bl a, .bl b => a == b
  | .bl a, .int b => (if a then 1 else 0) == b
  | .int a, .bl b => a == (if b then 1 else 0)
  | .int a, .int b => a == b
  | .str a, .str b => a == b
  | _, _ => false
theorem Rep.flat {K : Frag} {A : Av} {H : Hp} {d : D} {v : V} (h : Rep K A H d v) (f : flatD d = true) : flatV v = true := by
  cases d with
  | non => cases h; rfl
  | bl _ => cases h; rfl
  | int _ => cases h; rfl
  | str _ => cases h; rfl
  | _ => exact absurd f (by simp [flatD])
theorem RepL.flatAll {K : Frag} {A : Av} {H : Hp} : ∀ {ds : List D} {vs : List V}, RepL K A H ds vs → ds.all flatD = true → vs.all flatV = true
  | [], _, h, _ => by cases h; rfl
  | d :: ds, _, ⟨v, r, e, h, t⟩, f => by
    subst e
    rw [List.all_cons, Bool.and_eq_true] at f ⊢
    exact ⟨h.flat f.1, RepL.flatAll t f.2⟩
theorem eqF_of {K : Frag} {A : Av} {H : Hp} {d e : D} {v u : V} (h : Rep K A H d v) (g : Rep K A H e u) (f : flatD d = true) (f' : flatD e = true) : eqV v u = eqF d e := by
  cases d with
  | non => cases e with
    | non => cases h; cases g; rfl
    | bl _ => cases h; cases g; rfl
    | int _ => cases h; cases g; rfl
    | str _ => cases h; cases g; rfl
    | _ => exact absurd f' (by simp [flatD])
  | bl _ => cases e with
    | non => cases h; cases g; rfl
    | bl _ => cases h; cases g; rfl
    | int _ => cases h; cases g; rfl
    | str _ => cases h; cases g; rfl
    | _ => exact absurd f' (by simp [flatD])
  | int _ => cases e with
    | non => cases h; cases g; rfl
    | bl _ => cases h; cases g; rfl
    | int _ => cases h; cases g; rfl
    | str _ => cases h; cases g; rfl
    | _ => exact absurd f' (by simp [flatD])
  | str _ => cases e with
    | non => cases h; cases g; rfl
    | bl _ => cases h; cases g; rfl
    | int _ => cases h; cases g; rfl
    | str _ => cases h; cases g; rfl
    | _ => exact absurd f' (by simp [flatD])
  | _ => exact absurd f (by simp [flatD])
theorem inF_of {K : Frag} {A : Av} {H : Hp} {e : D} {u : V} (g : Rep K A H e u) (f' : flatD e = true) : ∀ {ds : List D} {vs : List V}, RepL K A H ds vs → ds.all flatD = true → inV u vs = ds.any fun y => eqF y e
  | [], _, h, _ => by cases h; rfl
  | d :: ds, _, ⟨v, r, q, h, t⟩, f => by
    subst q
    rw [List.all_cons, Bool.and_eq_true] at f
    show (eqV v u || inV u r) = _
    rw [List.any_cons, eqF_of h g f.1 f', inF_of g f' t f.2]
def inD (x : D) (ds : List D) : Bool := ds.any fun y => eqF y x
def items : D → Option (List D)
  | .tup ds => some ds
  | .lst ds => some ds
  | .fl ds => some ds
  | _ => none
@[simp] theorem items_tup {ds : List D} : items (.tup ds) = some ds := rfl
@[simp] theorem items_lst {ds : List D} : items (.lst ds) = some ds := rfl
@[simp] theorem items_fl {ds : List D} : items (.fl ds) = some ds := rfl
theorem RepT.items {K : Frag} {A : Av} {H : Hp} {d : D} {v : V} {ds : List D} (h : RepT K A H d v) (e : items d = some ds) : ∃ a vs, v = .ref a ∧ (SqL K H a vs ∨ SqT K H a vs) ∧ RepL K A H ds vs := by
  cases d with
  | tup ds => cases e; obtain ⟨a, vs, e1, h1, r⟩ := tup_sq (h : Rep K A H (.tup _) v); exact ⟨a, vs, e1, .inr h1, r⟩
  | lst ds => cases e; obtain ⟨a, vs, e1, h1, r⟩ := h; exact ⟨a, vs, e1, .inl (.inl (.inl h1)), r⟩
  | fl ds => cases e; obtain ⟨a, vs, e1, h1, r⟩ := fl_sq (h : Rep K A H (.fl _) v); exact ⟨a, vs, e1, .inl h1, r⟩
  | _ => cases e
def asS : D → Option Str
  | .str x => some x
  | _ => none
@[simp] theorem asS_str {x : Str} : asS (.str x) = some x := rfl
theorem RepT.asS {K : Frag} {A : Av} {H : Hp} {d : D} {v : V} {x : Str} (h : RepT K A H d v) (e : asS d = some x) : v = .str x := by
  unfold Mp.asS at e
  split at e
  · cases e; exact h
  · cases e
def fIn (neg : Bool) : F2 := fun x c P => (on (asS x) fun i => on (asS c) fun j => P (.bl (if neg then !(!(Builtin.Str.occurrences j i 0 j.length 1).isEmpty) else !(Builtin.Str.occurrences j i 0 j.length 1).isEmpty))) ∨
  on (items c) fun ds => flatD x = true ∧ ds.all flatD = true ∧ P (.bl (if neg then !inD x ds else inD x ds))
def rInS2 (neg : Bool) : R2 := fun x y H Q => ∃ i j, x = .str i ∧ y = .str j ∧ Q (.bl (if neg then !(!(Builtin.Str.occurrences j i 0 j.length 1).isEmpty) else !(Builtin.Str.occurrences j i 0 j.length 1).isEmpty)) H
def rInA (K : Frag) (neg : Bool) : R2 := fun x y H Q => rIn K neg x y H Q ∨ rInS2 neg x y H Q
theorem op_inA {X : Cx} : OpR X (compareOp .In) (rInA X.K false) := OpR.or op_in_seq op_in_str
theorem op_notInA {X : Cx} : OpR X (compareOp .NotIn) (rInA X.K true) := OpR.or op_notIn_seq op_notIn_str
theorem RepT.rep {K : Frag} {A : Av} {H : Hp} {d : D} {v : V} (h : RepT K A H d v) (f : flatD d = true) : Rep K A H d v := by
  cases d with
  | lst _ => cases f
  | _ => exact h
theorem sim_in {K : Frag} {neg : Bool} : Sim2 K (rInA K neg) (fIn neg) := by
  intro A H d1 d2 v1 v2 hA r1 r2 P p Q q
  rcases p with p | p
  · obtain ⟨i, e1, p⟩ := on.ex p
    obtain ⟨j, e2, p⟩ := on.ex p
    exact .inr ⟨_, _, r1.asS e1, r2.asS e2, q _ _ _ p rfl (.inl rfl)⟩
  · obtain ⟨ds, e, f1, f2, p⟩ := on.ex p
    obtain ⟨a, vs, e1, h1, r⟩ := r2.items e
    refine .inl ⟨a, vs, e1, h1, (r1.rep f1).flat f1, r.flatAll f2, ?_⟩
    rw [inF_of (r1.rep f1) f1 r f2]
    exact q _ _ _ p rfl (.inl rfl)

/-! ### items by place -/
def fIx : F2 := fun x y P => match y with
  | .int i => (match x with
    | .str z => z.length ≤ sizeLine ∧ on (atI z.cps.toList i) fun c => P (.str ⟨#[c]⟩)
    | x => on (items x) fun ds => on (atI ds i) P)
  | _ => False
@[simp] theorem fIx_lst {ds : List D} {i : Int} {P : D → Prop} : fIx (.lst ds) (.int i) P = on (atI ds i) P := rfl
@[simp] theorem fIx_tup {ds : List D} {i : Int} {P : D → Prop} : fIx (.tup ds) (.int i) P = on (atI ds i) P := rfl
@[simp] theorem fIx_fl {ds : List D} {i : Int} {P : D → Prop} : fIx (.fl ds) (.int i) P = on (atI ds i) P := rfl
@[simp] theorem fIx_str {z : Str} {i : Int} {P : D → Prop} : fIx (.str z) (.int i) P = (z.length ≤ sizeLine ∧ on (atI z.cps.toList i) fun c => P (.str ⟨#[c]⟩)) := rfl
theorem RepL.atI {K : Frag} {A : Av} {H : Hp} {ds : List D} {vs : List V} {i : Int} {d : D} (r : RepL K A H ds vs) (h : atI ds i = some d) : ∃ v, L2.atI vs i = some v ∧ Rep K A H d v := by
  unfold L2.atI at h ⊢
  rw [← r.length]
  cases e : ixN ds.length i with
  | none => rw [e] at h; cases h
  | some j => rw [e] at h; exact r.get h
theorem sim_ix {K : Frag} : Sim2 K (rIx K) fIx := by
  intro A H d1 d2 v1 v2 hA r1 r2 P p Q q
  cases d2 with
  | int i =>
    cases r2
    cases d1 with
    | str z =>
      cases r1
      obtain ⟨c, e, p2⟩ := on.ex p.2
      exact .inr (.inr ⟨_, _, c, rfl, rfl, p.1, e, q _ _ _ p2 rfl (.inl rfl)⟩)
    | tup ds =>
      obtain ⟨d, e, p⟩ := on.ex (show on (atI ds i) P from p)
      obtain ⟨a, vs, e1, h1, r⟩ := tup_sq (r1 : Rep K A H (.tup ds) v1)
      obtain ⟨v, e2, r2⟩ := r.atI e
      exact .inr (.inl ⟨a, vs, i, v, e1, rfl, h1, e2, q _ _ _ p r2 (.inl rfl)⟩)
    | lst ds =>
      obtain ⟨d, e, p⟩ := on.ex (show on (atI ds i) P from p)
      obtain ⟨a, vs, e1, h1, r⟩ := r1
      obtain ⟨v, e2, r2⟩ := r.atI e
      exact .inl ⟨a, vs, i, v, e1, rfl, .inl (.inl h1), e2, q _ _ _ p r2 (.inl rfl)⟩
    | fl ds =>
      obtain ⟨d, e, p⟩ := on.ex (show on (atI ds i) P from p)
      obtain ⟨a, vs, e1, h1, r⟩ := fl_sq (r1 : Rep K A H (.fl ds) v1)
      obtain ⟨v, e2, r2⟩ := r.atI e
      exact .inl ⟨a, vs, i, v, e1, rfl, h1, e2, q _ _ _ p r2 (.inl rfl)⟩
    | _ => exact p.elim
  | _ => exact p.elim

/-! ### len, int, abs, min, max, list, tuple, isinstance -/
def one (ds : List D) (k : D → Prop) : Prop := match ds with
  | [d] => k d
  | _ => False
@[simp] theorem one_one {d : D} {k : D → Prop} : one [d] k = k d := rfl
theorem one.ex {K : Frag} {A : Av} {H : Hp} {ds : List D} {vs : List V} {k : D → Prop} (h : one ds k) (r : RepTL K A H ds vs) : ∃ d v, vs = [v] ∧ RepT K A H d v ∧ k d := by
  cases r with
  | nil => exact h.elim
  | @cons d v ds vs r t =>
    cases t with
    | cons _ _ => exact h.elim
    | nil => exact ⟨d, v, rfl, r, h⟩
def two (ds : List D) (k : D → D → Prop) : Prop := match ds with
  | [d, e] => k d e
  | _ => False
@[simp] theorem two_two {d e : D} {k : D → D → Prop} : two [d, e] k = k d e := rfl
theorem two.ex {K : Frag} {A : Av} {H : Hp} {ds : List D} {vs : List V} {k : D → D → Prop} (h : two ds k) (r : RepTL K A H ds vs) : ∃ d e v u, vs = [v, u] ∧ RepT K A H d v ∧ RepT K A H e u ∧ k d e := by
  cases r with
  | nil => exact h.elim
  | @cons d v ds vs r t =>
    cases t with
    | nil => exact h.elim
    | @cons e u ds vs r2 t =>
      cases t with
      | cons _ _ => exact h.elim
      | nil => exact ⟨d, e, v, u, rfl, r, r2, h⟩
def asI : D → Option Int
  | .int x => some x
  | _ => none
@[simp] theorem asI_int {x : Int} : asI (.int x) = some x := rfl
theorem RepT.asI {K : Frag} {A : Av} {H : Hp} {d : D} {v : V} {x : Int} (h : RepT K A H d v) (e : asI d = some x) : v = .int x := by
  unfold Mp.asI at e
  split at e
  · cases e; exact h
  · cases e
def fLen : FN := fun ds P => one ds fun d => (on (asS d) fun z => z.length ≤ sizeLine ∧ P (.int z.length)) ∨ on (items d) fun xs => P (.int xs.length)
def rLenA (K : Frag) : List V → Hp → VK → Prop := fun xs H Q => ∃ x n, xs = [x] ∧ LenV K x H n ∧ Q (.int n) H
theorem sim_len {K : Frag} : SimN K (rLenA K) fLen := by
  intro A H ds vs hA r P p Q q
  obtain ⟨d, v, rfl, r, p⟩ := p.ex r
  rcases p with p | p
  · obtain ⟨z, e, p1, p2⟩ := on.ex p
    cases r.asS e
    exact ⟨_, _, rfl, ⟨p1, rfl⟩, q _ _ _ p2 rfl (.inl rfl)⟩
  · obtain ⟨xs, e, p⟩ := on.ex p
    obtain ⟨a, vs, rfl, h, r2⟩ := r.items e
    exact ⟨_, _, rfl, h.imp (fun h => ⟨vs, h, r2.length⟩) (fun h => ⟨vs, h, r2.length⟩), q _ _ _ p rfl (.inl rfl)⟩
def asB' : D → Option Bool
  | .bl x => some x
  | _ => none
@[simp] theorem asB'_bl {x : Bool} : asB' (.bl x) = some x := rfl
theorem RepT.asB {K : Frag} {A : Av} {H : Hp} {d : D} {v : V} {x : Bool} (h : RepT K A H d v) (e : asB' d = some x) : v = .bl x := by
  unfold Mp.asB' at e
  split at e
  · cases e; exact h
  · cases e
def fInt : FN := fun ds P => one ds fun d => (on (asI d) fun i => P (.int i)) ∨ on (asB' d) fun b => P (.int (if b then 1 else 0))
def rInt1 : List V → Hp → VK → Prop := fun xs H Q => (∃ i, xs = [.int i] ∧ Q (.int i) H) ∨ ∃ k, xs = [.bl k] ∧ Q (.int (if k then 1 else 0)) H
theorem sim_int {K : Frag} : SimN K rInt1 fInt := by
  intro A H ds vs hA r P p Q q
  obtain ⟨d, v, rfl, r, p⟩ := p.ex r
  rcases p with p | p
  · obtain ⟨z, e, p⟩ := on.ex p
    cases r.asI e
    exact .inl ⟨_, rfl, q _ _ _ p rfl (.inl rfl)⟩
  · obtain ⟨z, e, p⟩ := on.ex p
    cases r.asB e
    exact .inr ⟨_, rfl, q _ _ _ p rfl (.inl rfl)⟩
def fAbs : FN := fun ds P => one ds fun d => on (asI d) fun i => P (.int (if i < 0 then -i else i))
def rAbs1 : List V → Hp → VK → Prop := fun xs H Q => ∃ i, xs = [.int i] ∧ Q (.int (if i < 0 then -i else i)) H
theorem sim_abs {K : Frag} : SimN K rAbs1 fAbs := by
  intro A H ds vs hA r P p Q q
  obtain ⟨d, v, rfl, r, p⟩ := p.ex r
  obtain ⟨z, e, p⟩ := on.ex p
  cases r.asI e
  exact ⟨_, rfl, q _ _ _ p rfl (.inl rfl)⟩
def fMM (g : Int → Int → Int) : FN := fun ds P => two ds fun d e => on (asI d) fun i => on (asI e) fun j => P (.int (g i j))
def rMM (g : Int → Int → Int) : List V → Hp → VK → Prop := fun xs H Q => ∃ i j, xs = [.int i, .int j] ∧ Q (.int (g i j)) H
theorem sim_MM {K : Frag} {g : Int → Int → Int} : SimN K (rMM g) (fMM g) := by
  intro A H ds vs hA r P p Q q
  obtain ⟨d, e, v, u, rfl, r1, r2, p⟩ := p.ex r
  obtain ⟨i, e1, p⟩ := on.ex p
  obtain ⟨j, e2, p⟩ := on.ex p
  cases r1.asI e1
  cases r2.asI e2
  exact ⟨_, _, rfl, q _ _ _ p rfl (.inl rfl)⟩
/-- list(x) that nobody will change, tuple(x) -/
def fList : FN := fun ds P => one ds fun d => on (items d) fun xs => P (.lst xs)
def rListA (K : Frag) : List V → Hp → VK → Prop := fun xs H Q => ∃ p ys, xs = [.ref p] ∧ (SqL K H p ys ∨ SqT K H p ys) ∧ ∀ l, H l = none → Q (.ref l) (upd H l (.lst ys))
theorem sim_list {K : Frag} : SimN K (rListA K) fList := by
  intro A H ds vs hA r P p Q q
  obtain ⟨d, v, rfl, r, p⟩ := p.ex r
  obtain ⟨xs, e, p⟩ := on.ex p
  obtain ⟨a, vs, rfl, h, r2⟩ := r.items e
  exact ⟨a, vs, rfl, h, fun l hl => q _ _ _ p (new_lst hA hl r2) (.inr ⟨l, _, hl, rfl⟩)⟩
def fTuple : FN := fun ds P => one ds fun d => on (items d) fun xs => P (.tup xs)
def rTupleA (K : Frag) : List V → Hp → VK → Prop := fun xs H Q => ∃ p ys, xs = [.ref p] ∧ ((SqL K H p ys ∧ ∀ l, H l = none → Q (.ref l) (upd H l (.tup ys))) ∨ (SqT K H p ys ∧ Q (.ref p) H))
theorem sim_tuple {K : Frag} : SimN K (rTupleA K) fTuple := by
  intro A H ds vs hA r P p Q q
  obtain ⟨d, v, rfl, r, p⟩ := p.ex r
  obtain ⟨xs, e, p⟩ := on.ex p
  cases d with
  | tup ds =>
    cases e
    obtain ⟨a, vs, rfl, h, r2⟩ := tup_sq (r : Rep K A H (.tup _) v)
    exact ⟨a, vs, rfl, .inr ⟨h, q _ _ _ p r (.inl rfl)⟩⟩
  | lst ds =>
    cases e
    obtain ⟨a, vs, rfl, h, r2⟩ := r
    exact ⟨a, vs, rfl, .inl ⟨.inl (.inl h), fun l hl => q _ _ _ p (new_tup hA hl r2) (.inr ⟨l, _, hl, rfl⟩)⟩⟩
  | fl ds =>
    cases e
    obtain ⟨a, vs, rfl, h, r2⟩ := fl_sq (r : Rep K A H (.fl _) v)
    exact ⟨a, vs, rfl, .inl ⟨h, fun l hl => q _ _ _ p (new_tup hA hl r2) (.inr ⟨l, _, hl, rfl⟩)⟩⟩
  | _ => cases e
/-- the built-in class of a datum -/
def tyN : D → Option String
  | .non => some "NoneType"
  | .bl _ => some "bool"
  | .int _ => some "int"
  | .str _ => some "str"
  | .tup _ => some "tuple"
  | .lst _ => some "list"
  | .fl _ => some "list"
  | .ty _ => none
theorem RepT.tyx {K : Frag} {A : Av} {H : Hp} {d : D} {v : V} {n : String} (h : RepT K A H d v) (e : tyN d = some n) : TyX K H v (.type n) := by
  cases d with
  | non => cases e; cases h; exact .base .non
  | bl b => cases e; cases h; exact .base (.bl b)
  | int b => cases e; cases h; exact .base (.int b)
  | str b => cases e; cases h; exact .base (.str b)
  | ty b => cases e
  | lst ds => cases e; obtain ⟨a, vs, rfl, h1, r⟩ := h; exact .base (.lst h1)
  | tup ds =>
    cases e
    obtain ⟨a, vs, rfl, h1, r⟩ := tup_sq (h : Rep K A H (.tup ds) v)
    rcases h1 with (h1 | ⟨o, h1⟩) | ⟨o, its, m, h1, h2, h3, _⟩
    · exact .base (.tup h1)
    · exact .fTuple h1
    · exact .kTuple h1 h2
  | fl ds =>
    cases e
    obtain ⟨a, vs, rfl, h1, r⟩ := fl_sq (h : Rep K A H (.fl ds) v)
    rcases h1 with (h1 | ⟨o, h1⟩) | ⟨o, its, m, h1, h2, h3, _⟩
    · exact .base (.lst h1)
    · exact .base (.frz h1)
    · exact .kList h1 h2
/-- is a datum of type n one of type m -/
def isTy (d : D) (m : String) : Option Bool := (tyN d).bind fun n => kitB n m
def tyNames : List D → Option (List String)
  | [] => some []
  | .ty m :: r => (tyNames r).bind fun l => some (m :: l)
  | _ => none
def isAny (n : String) : List String → Option Bool
  | [] => some false
  | m :: r => (kitB n m).bind fun b => if b then some true else isAny n r
theorem tyNames_ok {K : Frag} {A : Av} {H : Hp} : ∀ {ms : List D} {vs : List V} {l : List String}, RepL K A H ms vs → tyNames ms = some l → Paired ClsV vs (l.map Value.type)
  | [], _, l, r, e => by cases r; cases e; exact .nil
  | m :: ms, _, l, ⟨v, r, q, h, t⟩, e => by
    subst q
    cases m with
    | ty m =>
      cases h
      have e1 : ((tyNames ms).bind fun l => some (m :: l)) = some l := e
      cases g : tyNames ms with
      | none => rw [g] at e1; cases e1
      | some l' => rw [g] at e1; cases e1; exact .cons (.ty m) (tyNames_ok t g)
    | _ => cases e
theorem isAny_ok {K : Frag} {n : String} : ∀ {l : List String} {b : Bool}, isAny n l = some b → PySem.W.kitAny K (.type n) (l.map Value.type) = some b
  | [], b, e => by cases e; exact kitAny_nil
  | m :: r, b, e => by
    have e1 : ((kitB n m).bind fun b => if b then some true else isAny n r) = some b := e
    cases g : kitB n m with
    | none => rw [g] at e1; cases e1
    | some c =>
      rw [g] at e1
      refine kitAny_cons (kit_ty g) (fun z => ?_) (fun z => ?_)
      · subst z; exact isAny_ok e1
      · subst z; cases e1; rfl
def asTy : D → Option String
  | .ty n => some n
  | _ => none
def asTup : D → Option (List D)
  | .tup n => some n
  | _ => none
@[simp] theorem asTy_ty {n : String} : asTy (.ty n) = some n := rfl
@[simp] theorem asTup_tup {n : List D} : asTup (.tup n) = some n := rfl
def fIsi : FN := fun ds P => two ds fun d c => on (tyN d) fun n => (on (asTy c) fun m => on (kitB n m) fun b => P (.bl b)) ∨ on (asTup c) fun ms => on (tyNames ms) fun l => on (isAny n l) fun b => P (.bl b)
def rIsiA (K : Frag) : List V → Hp → VK → Prop := fun xs H Q => rIsi K xs H Q ∨ rIsiT K xs H Q ∨ rIsiK K xs H Q
theorem call_isiA {X : Cx} : CallR X (.builtin "isinstance") (rIsiA X.K) := CallR.or call_isi (CallR.or call_isiT call_isiK)
theorem sim_isi {K : Frag} : SimN K (rIsiA K) fIsi := by
  intro A H ds vs hA r P p Q q
  obtain ⟨d, c, v, u, rfl, r1, r2, p⟩ := p.ex r
  obtain ⟨n, hn, p⟩ := on.ex p
  rcases p with p | p
  · obtain ⟨m, hm, p⟩ := on.ex p
    obtain ⟨b, hb, pf⟩ := on.ex p
    cases c <;> first | cases hm | skip
    cases r2
    exact .inl ⟨v, _, _, _, b, rfl, .ty _, r1.tyx hn, kit_ty hb, q _ _ _ pf rfl (.inl rfl)⟩
  · obtain ⟨ms, hm, p⟩ := on.ex p
    obtain ⟨l, hl, p⟩ := on.ex p
    obtain ⟨b, hb, pf⟩ := on.ex p
    cases c <;> first | cases hm | skip
    obtain ⟨a, vs, rfl, h, r⟩ := (r2 : Rep K A H (.tup ms) u)
    have hc := tyNames_ok r hl
    rcases h with h | h
    · exact .inr (.inl ⟨v, a, vs, _, _, b, rfl, h.1, hc, r1.tyx hn, isAny_ok hb, q _ _ _ pf rfl (.inl rfl)⟩)
    · rcases h with h | ⟨o, its, k, h1, h2, h3, h4, h5⟩
      · rcases h with h | ⟨_, h⟩ <;> cases h
      · obtain ⟨oc, od, dt, sl⟩ := o
        simp only at h2 h3
        subst h2 h3
        have e := ClsV.all hc h5
        exact .inr (.inr ⟨v, a, od, its.toList, k, sl, _, b, rfl, by simpa using h1, r1.tyx hn, by rw [e]; exact isAny_ok hb, q _ _ _ pf rfl (.inl rfl)⟩)
end Mp

set_option Elab.async false
set_option linter.all false
set_option maxRecDepth 100000
set_option maxHeartbeats 4000000
/-! Mp4: statements, loops, comprehensions, defs. -/
namespace Mp
open PySem PySem.Spec PyProof.Rows L2

/-- what a statement goes on with -/
structure MK where
  nx : PS → Prop
  bk : PS → Prop
  ct : PS → Prop
  rt : S → List O → Prop
  ex : MX
abbrev MS := PS → MK → Prop
abbrev MG := S → PS → (PS → Prop) → Prop

/-- a def's entry: where its callers' objects stand, the heap -/
structure En where
  as : List Addr
  h : Hp
structure Pre0 (ρ : En) (α : Mp_) (H : Hp) : Prop where
  own : ρ.as <+: α.own.map (·.1)
  nw : ∀ (n : Nat) (p : Addr × List Addr), ρ.as.length ≤ n → α.own[n]? = some p → ρ.h p.1 = none
  stay : ∀ a o, ρ.h a = some o → ∃ u, H a = some u
theorem Pre0.ext {ρ : En} {α β : Mp_} {hp hp1 : List O} {H H1 : Hp} (h : Pre0 ρ α H) (e : Ext α hp H β hp1 H1) : Pre0 ρ β H1 where
  own := h.own.trans e.pre.own
  nw := fun n p hn q => by
    by_cases hl : n < α.own.length
    · obtain ⟨p', h1, h2⟩ := e.pre.get (List.getElem?_eq_getElem hl)
      rw [q] at h1
      cases h1
      rw [h2]
      exact h.nw n _ hn (List.getElem?_eq_getElem hl)
    · exact none_back h.stay (e.nw n p (by omega) q)
  stay := fun a o q => by
    obtain ⟨u, hu⟩ := h.stay a o q
    exact e.step.stay a u hu
structure Here (K : Frag) (ρ : En) (α : Mp_) (s : PS) (H : Hp) (σ : L2.St) : Prop where
  pre : Pre0 ρ α H
  n0 : ρ.as.length = s.n0
  ok : WOk K α s.hp H
  env : EnvR K α s.hp H s.env σ
/-- behind a statement -/
def PostN (K : Frag) (ρ : En) (α : Mp_) (hp : List O) (H : Hp) (N : PS → Prop) (Dn : L2.St → Hp → Prop) : Prop :=
  ∀ s' α' H' σ', N s' → Here K ρ α' s' H' σ' → StepW α hp H α' s'.hp H' → α'.ban = α.ban → Dn σ' H'
structure PostS (K : Frag) (W : WX) (ρ : En) (α : Mp_) (hp : List O) (H : Hp) (k : MK) (D : Ends) : Prop where
  nx : PostN K ρ α hp H k.nx D.nx
  bk : PostN K ρ α hp H k.bk D.bk
  ct : PostN K ρ α hp H k.ct D.ct
  rt : ∀ v hp' α' H' u, k.rt v hp' → Pre0 ρ α' H' → WOk K α' hp' H' → StepW α hp H α' hp' H' → α'.ban = α.ban → SRep K α' hp' H' v u → D.rt u H'
  ex : ∀ x hp' α' H' c dd σ', k.ex x hp' → Pre0 ρ α' H' → WOk K α' hp' H' → StepW α hp H α' hp' H' → α'.ban = α.ban → XRep K (Al α' hp') H' x c dd → W c dd σ' H'
def SimS (K : Frag) (W : WX) (t : TS) (M : MS) : Prop := ∀ (ρ : En) (α : Mp_) (s : PS) (H : Hp) (σ : L2.St), Here K ρ α s H σ → ∀ k, M s k → ∀ D : Ends, PostS K W ρ α s.hp H k D → t D σ H
/-- a target; us: the slots that it stores -/
def SimG (K : Frag) (g : TG) (us : List Nat) (M : MG) : Prop := ∀ (ρ : En) (α : Mp_) (s : PS) (H : Hp) (σ : L2.St) (v : S) (u : V), Here K ρ α s H σ → SRep K α s.hp H v u → ∀ N, M v s N → ∀ Q : L2.St → Hp → Prop,
  (∀ s' α' H' σ', N s' → Here K ρ α' s' H' σ' → Ext α s.hp H α' s'.hp H' → (σ'.length = σ.length ∧ ∀ i, i ∉ us → σ'[i]? = σ[i]?) → Q σ' H') → g u σ H Q
section
variable {K : Frag} {W : WX} {ρ : En} {α β : Mp_} {hp hp1 : List O} {H H1 : Hp} {σ : L2.St} {s : PS}
theorem PostN.at {N : PS → Prop} {Dn : L2.St → Hp → Prop} (p : PostN K ρ α hp H N Dn) (e : StepW α hp H β hp1 H1) (b : β.ban = α.ban) : PostN K ρ β hp1 H1 N Dn := fun s' a h' σ' n i st bb => p s' a h' σ' n i (e.trans st) (bb.trans b)
theorem PostS.at {k : MK} {D : Ends} (p : PostS K W ρ α hp H k D) (e : StepW α hp H β hp1 H1) (b : β.ban = α.ban) : PostS K W ρ β hp1 H1 k D :=
  ⟨p.nx.at e b, p.bk.at e b, p.ct.at e b, fun v h a h' u r pr w st bb => p.rt v h a h' u r pr w (e.trans st) (bb.trans b), fun x h a h' c dd σ' r pr w st bb => p.ex x h a h' c dd σ' r pr w (e.trans st) (bb.trans b)⟩
theorem Here.ext (i : Here K ρ α s H σ) (e : Ext α s.hp H β hp1 H1) (w : WOk K β hp1 H1) : Here K ρ β { s with hp := hp1 } H1 σ := ⟨i.pre.ext e, i.n0, w, i.env.mono e⟩
theorem PostS.postX {k : MK} {D : Ends} (p : PostS K W ρ α hp H k D) (pre : Pre0 ρ α H) : PostX K W σ α hp H k.ex := fun x h a h' c dd r e w q => p.ex x h a h' c dd σ r (pre.ext e) w e.step e.pre.ban q
theorem EnvR.set {env : List (Option S)} {i : Nat} {v : S} {u : V} (e : EnvR K α hp H env σ) (r : SRep K α hp H v u) : EnvR K α hp H (env.set i (some v)) (σ.set i (some u)) := by
  refine ⟨by rw [List.length_set, List.length_set]; exact e.1, fun j s hj => ?_⟩
  by_cases hi : i = j
  · subst hi
    by_cases hl : i < env.length
    · rw [List.getElem?_set_self hl] at hj
      cases hj
      exact ⟨u, List.getElem?_set_self (by rw [← e.1]; exact hl), r⟩
    · rw [List.getElem?_eq_none (by simpa using hl)] at hj
      cases hj
  · rw [List.getElem?_set_ne hi] at hj
    obtain ⟨v', h1, h2⟩ := e.2 j s hj
    exact ⟨v', by rw [List.getElem?_set_ne hi]; exact h1, h2⟩
end

/-! ### simple statements -/
def mgName (i : Nat) : MG := fun v s N => N { s with env := s.env.set i (some v) }
theorem simg_name {K : Frag} (i : Nat) : SimG K (gName i) [i] (mgName i) := by
  intro ρ α s H σ v u h r N m Q q
  exact q _ α H _ m ⟨h.pre, h.n0, h.ok, h.env.set r⟩ Ext.refl ⟨List.length_set .., fun j hj => List.getElem?_set_ne fun e => hj (by simp [e])⟩
def mAsg (Ma : ME) (G : MG) : MS := fun s k => Ma s (fun v hp' => G v { s with hp := hp' } k.nx) k.ex
theorem sim_asg {K : Frag} {W : WX} {t : TE} {g : TG} {us : List Nat} {Ma : ME} {G : MG} (ha : SimE K W t Ma) (hg : SimG K g us G) : SimS K W (tAsg t g) (mAsg Ma G) := by
  intro ρ α s H σ h k m D p
  refine ha α s H σ h.ok h.env _ _ m _ (fun v hp1 α1 H1 u m1 e1 w1 r1 => ?_) (p.postX h.pre)
  refine hg ρ α1 { s with hp := hp1 } H1 σ v u (h.ext e1 w1) r1 _ m1 _ fun s' α' H' σ' n i e _ => ?_
  exact p.nx s' α' H' σ' n i (e1.trans e).step ((e1.trans e).pre.ban)
def mDrop (Ma : ME) : MS := fun s k => Ma s (fun _ hp' => k.nx { s with hp := hp' }) k.ex
theorem sim_drop {K : Frag} {W : WX} {t : TE} {Ma : ME} (ha : SimE K W t Ma) : SimS K W (tDrop t) (mDrop Ma) := by
  intro ρ α s H σ h k m D p
  refine ha α s H σ h.ok h.env _ _ m _ (fun v hp1 α1 H1 u m1 e1 w1 r1 => ?_) (p.postX h.pre)
  exact p.nx _ α1 H1 σ m1 (h.ext e1 w1) e1.step e1.pre.ban
def mRet (Ma : ME) : MS := fun s k => Ma s k.rt k.ex
theorem sim_ret {K : Frag} {W : WX} {t : TE} {Ma : ME} (ha : SimE K W t Ma) : SimS K W (tRet t) (mRet Ma) := by
  intro ρ α s H σ h k m D p
  refine ha α s H σ h.ok h.env _ _ m _ (fun v hp1 α1 H1 u m1 e1 w1 r1 => ?_) (p.postX h.pre)
  exact p.rt v hp1 α1 H1 u m1 (h.pre.ext e1) w1 e1.step e1.pre.ban r1
def mRetN : MS := fun s k => k.rt (.d .non) s.hp
theorem sim_retN {K : Frag} {W : WX} : SimS K W tRetN mRetN := fun ρ α s H σ h k m D p => p.rt _ s.hp α H .non m h.pre h.ok (Step.refl al_sub) rfl rfl
def mNext : MS := fun s k => k.nx s
def mBreak : MS := fun s k => k.bk s
def mCont : MS := fun s k => k.ct s
theorem sim_next {K : Frag} {W : WX} : SimS K W tNext mNext := fun ρ α s H σ h k m D p => p.nx s α H σ m h (Step.refl al_sub) rfl
theorem sim_break {K : Frag} {W : WX} : SimS K W tBreak mBreak := fun ρ α s H σ h k m D p => p.bk s α H σ m h (Step.refl al_sub) rfl
theorem sim_cont {K : Frag} {W : WX} : SimS K W tCont mCont := fun ρ α s H σ h k m D p => p.ct s α H σ m h (Step.refl al_sub) rfl
def mSeq (Ma Mb : MS) : MS := fun s k => Ma s { k with nx := fun s' => Mb s' k }
theorem sim_seq {K : Frag} {W : WX} {t u : TS} {Ma Mb : MS} (ha : SimS K W t Ma) (hb : SimS K W u Mb) : SimS K W (tSeq t u) (mSeq Ma Mb) := by
  intro ρ α s H σ h k m D p
  refine ha ρ α s H σ h _ m _ ⟨fun s' α' H' σ' n i st b => ?_, p.bk, p.ct, p.rt, p.ex⟩
  exact hb ρ α' s' H' σ' i k n D (p.at st b)
def mIfS (Mc : MT) (Ma Mb : MS) : MS := fun s k => Mc s (fun b hp' => if b = true then Ma { s with hp := hp' } k else Mb { s with hp := hp' } k) k.ex
theorem sim_ifS {K : Frag} {W : WX} {c : TT} {t u : TS} {Mc : MT} {Ma Mb : MS} (hc : SimT K W c Mc) (ha : SimS K W t Ma) (hb : SimS K W u Mb) : SimS K W (tIfS c t u) (mIfS Mc Ma Mb) := by
  intro ρ α s H σ h k m D p
  refine hc α s H σ h.ok h.env _ _ m _ (fun b hp1 α1 H1 m1 e1 w1 => ?_) (p.postX h.pre)
  cases b with
  | true => exact ha ρ α1 _ H1 σ (h.ext e1 w1) k m1 D (p.at e1.step e1.pre.ban)
  | false => exact hb ρ α1 _ H1 σ (h.ext e1 w1) k m1 D (p.at e1.step e1.pre.ban)
/-- x += e on a number -/
def envI (s : PS) (i : Nat) : Option Int := match s.env[i]? with
  | some (some (.d (.int a))) => some a
  | _ => none
def mAug (i : Nat) (f : Int → Int → Int) (Ma : ME) : MS := fun s k => on (envI s i) fun a => Ma s (fun v hp' => on (val hp' v) fun d => on (asI d) fun b => k.nx { s with hp := hp', env := s.env.set i (some (.d (.int (f a b)))) }) k.ex
theorem sim_aug {K : Frag} {W : WX} {t : TE} {Ma : ME} (i : Nat) (f : Int → Int → Int) (ha : SimE K W t Ma) : SimS K W (tAug i t (ipI f)) (mAug i f Ma) := by
  intro ρ α s H σ h k m D p
  obtain ⟨a, g, m⟩ := on.ex m
  have hx : σ[i]? = some (some (.int a)) := by
    unfold envI at g
    split at g
    · cases g
      rename_i q
      obtain ⟨v, h1, h2⟩ := h.env.2 i _ q
      cases (show v = .int a from h2)
      exact h1
    · cases g
  refine ⟨_, hx, ha α s H σ h.ok h.env _ _ m _ (fun v hp1 α1 H1 u m1 e1 w1 r1 => ?_) (p.postX h.pre)⟩
  obtain ⟨d, g1, m1⟩ := on.ex m1
  obtain ⟨b, g2, m1⟩ := on.ex m1
  have hi := h.ext e1 w1
  refine ⟨a, b, rfl, (r1.val w1 g1).asI g2, p.nx _ α1 H1 _ m1 ⟨hi.pre, hi.n0, hi.ok, hi.env.set (v := .d (.int (f a b))) rfl⟩ e1.step e1.pre.ban⟩

/-! ### while -/
def whileN (Mc : MT) (Mb : MS) : Nat → MS
  | 0 => fun _ _ => False
  | n + 1 => fun s k => Mc s (fun b hp' => if b = true then Mb { s with hp := hp' } { k with nx := fun s' => whileN Mc Mb n s' k, ct := fun s' => whileN Mc Mb n s' k, bk := k.nx } else k.nx { s with hp := hp' }) k.ex
def mWhile (Mc : MT) (Mb : MS) : MS := fun s k => ∃ n, whileN Mc Mb n s k
theorem sim_while {K : Frag} {W : WX} {c : TT} {t : TS} {Mc : MT} {Mb : MS} (hc : SimT K W c Mc) (hb : SimS K W t Mb) : SimS K W (tWhile c t) (mWhile Mc Mb) := by
  intro ρ α s H σ h k ⟨n, m⟩ D p
  refine ⟨fun n σ' H' => ∃ α' s', Here K ρ α' s' H' σ' ∧ StepW α s.hp H α' s'.hp H' ∧ α'.ban = α.ban ∧ whileN Mc Mb n s' k, ⟨n, α, s, h, Step.refl al_sub, rfl, m⟩, ?_⟩
  rintro n σ' H' ⟨α', s', h', st, bb, m⟩
  cases n with
  | zero => exact m.elim
  | succ n =>
    have p' := p.at st bb
    refine hc α' s' H' σ' h'.ok h'.env _ _ m _ (fun b hp1 α1 H1 m1 e1 w1 => ?_) (p'.postX h'.pre)
    have p1 := p'.at e1.step e1.pre.ban
    cases b with
    | false => exact p1.nx _ α1 H1 σ' m1 (h'.ext e1 w1) (Step.refl al_sub) rfl
    | true =>
      show ∃ N : L2.St → Hp → Prop, _ ∧ _
      refine ⟨fun σ2 H2 => ∃ α' s', Here K ρ α' s' H2 σ2 ∧ StepW α s.hp H α' s'.hp H2 ∧ α'.ban = α.ban ∧ whileN Mc Mb n s' k, fun σ2 H2 q => ⟨n, Nat.lt_succ_self n, q⟩, ?_⟩
      have nn : PostN K ρ α1 hp1 H1 (fun s' => whileN Mc Mb n s' k) (fun σ2 H2 => ∃ α' s', Here K ρ α' s' H2 σ2 ∧ StepW α s.hp H α' s'.hp H2 ∧ α'.ban = α.ban ∧ whileN Mc Mb n s' k) := fun s2 α2 H2 σ2 n2 i2 st2 b2 => ⟨α2, s2, i2, (st.trans e1.step).trans st2, b2.trans (e1.pre.ban.trans bb), n2⟩
      exact hb ρ α1 _ H1 σ' (h'.ext e1 w1) _ m1 _ ⟨nn, p1.nx, nn, p1.rt, p1.ex⟩

/-! ### what is walked -/
/-- the walked list, if it is one that may change, is as it was -/
def still (v : Option Nat) (ds : List D) (hp : List O) : Prop := match v with
  | none => True
  | some n => hp[n]? = some (.lst ds)
@[simp] theorem still_none {ds : List D} {hp : List O} : still none ds hp = True := rfl
def sameAt (v : Option Nat) (α β : Mp_) : Prop := match v with
  | none => True
  | some n => ∃ p q, α.own[n]? = some p ∧ β.own[n]? = some q ∧ q.1 = p.1
def Walks (K : Frag) (J : It) (α : Mp_) (hp : List O) (H : Hp) (v : Option Nat) (ds : List D) : Prop :=
  ∀ α' hp' H', StepA α hp H α' hp' H' → sameAt v α α' → WOk K α' hp' H' → still v ds hp' →
    (∀ i d, ds[i]? = some d → J.go i H' ∧ ∀ x H'', J.yld i H' x H'' → (H'' = H' ∨ ∃ p o, H' p = none ∧ H'' = upd H' p o) ∧ Rep K (Al α' hp') H'' d x) ∧ J.stop ds.length H'
abbrev MI := PS → (Option Nat → List D → List O → Prop) → MX → Prop
def SimI (K : Frag) (W : WX) (wi : TI) (M : MI) : Prop := ∀ (α : Mp_) (s : PS) (H : Hp) (σ : L2.St), WOk K α s.hp H → EnvR K α s.hp H s.env σ → ∀ R Xp, M s R Xp → ∀ Q : It → Hp → Prop,
  (∀ v ds hp' α' H' J, R v ds hp' → Ext α s.hp H α' hp' H' → WOk K α' hp' H' → Walks K J α' hp' H' v ds → still v ds hp' → (∀ n, v = some n → n < hp'.length) → Q J H') → PostX K W σ α s.hp H Xp → wi σ H Q
/-- a thing's items, and which object it is -/
def walked (hp : List O) (v : S) (R : Option Nat → List D → List O → Prop) : Prop := match v with
  | .d d => on (items d) fun ds => R none ds hp
  | .mu n => match hp[n]? with
    | some (.lst ds) => R (some n) ds hp
    | _ => False
/-- a list or a tuple -/
def iSq (K : Frag) (t : TE) : TI := fun σ H R => t σ H fun x H1 => ∃ a, x = .ref a ∧ (((∃ vs, SqL K H1 a vs) ∧ R (Itl K a) H1) ∨ ((∃ vs, SqT K H1 a vs) ∧ R (Itt K a) H1))
theorem pi_sq {X : Cx} {tg l : Expr} {t : TE} (h : PE X l t) : PI X tg l (iSq X.K t) := by
  refine ⟨fun pins st σ H R I hq => thn (h.run pins st σ H _ I hq) fun v st1 ⟨x, G, J, rv, a, ex, q⟩ => ?_⟩
  subst ex
  cases rv
  have kp : Inv X pins σ G { st1 with heap := st1.heap.push { cls := .type "x", data := .fields #[] } } := J.kept (t' := st1.toks) fun _ _ e => Heap.get?_push_of_some _ e
  have fp : ∀ b ∈ [st1.heap.objs.size], FpOk X pins G b := fun b hb => by
    cases List.mem_singleton.mp hb
    exact J.fpOk (Nat.le_refl _) (J.hok.fresh (Nat.le_refl _))
  rcases q with ⟨⟨vs, hv⟩, q⟩ | ⟨⟨vs, hv⟩, q⟩
  · obtain ⟨us, _, pl, _⟩ := J.list hv
    exact wpAny_pyIter_list pl.isList ⟨st1.heap.objs.size, [st1.heap.objs.size], _, _, G, rfl, J.kept (t' := st1.toks) (fun _ _ e => Heap.get?_push_of_some _ e), turn_list a _, ⟨_, Heap.get?_push_size _ rfl, rfl, rfl⟩, fp, q⟩
  · obtain ⟨us, _, pl, _⟩ := J.tuple hv
    exact wpAny_pyIter_tuple (show st1.heap.IsTuple a us.toArray from pl) ⟨st1.heap.objs.size, [st1.heap.objs.size], _, _, G, rfl, J.kept (t' := st1.toks) (fun _ _ e => Heap.get?_push_of_some _ e), turn_tuple a _, ⟨_, Heap.get?_push_size _ rfl, rfl, rfl⟩, fp, q⟩
theorem walks_l {K : Frag} {α : Mp_} {hp : List O} {H : Hp} {a : Addr} {v : Option Nat} {ds : List D} (h : ∀ α' hp' H', StepA α hp H α' hp' H' → sameAt v α α' → WOk K α' hp' H' → still v ds hp' → ∃ vs, SqL K H' a vs ∧ RepL K (Al α' hp') H' ds vs) : Walks K (Itl K a) α hp H v ds := by
  intro α' hp' H' st sa w stl
  obtain ⟨vs, hv, r⟩ := h α' hp' H' st sa w stl
  refine ⟨fun i d hd => ?_, ⟨vs, hv, by rw [r.length]; exact Nat.le_refl _⟩⟩
  obtain ⟨u, h1, h2⟩ := r.get hd
  refine ⟨⟨vs, u, hv, h1⟩, fun x H'' ⟨e, y⟩ => ?_⟩
  subst e
  have := y vs hv
  rw [h1] at this
  cases this
  exact ⟨.inl rfl, h2⟩
theorem walks_t {K : Frag} {α : Mp_} {hp : List O} {H : Hp} {a : Addr} {v : Option Nat} {ds : List D} (h : ∀ α' hp' H', StepA α hp H α' hp' H' → sameAt v α α' → WOk K α' hp' H' → still v ds hp' → ∃ vs, SqT K H' a vs ∧ RepL K (Al α' hp') H' ds vs) : Walks K (Itt K a) α hp H v ds := by
  intro α' hp' H' st sa w stl
  obtain ⟨vs, hv, r⟩ := h α' hp' H' st sa w stl
  refine ⟨fun i d hd => ?_, ⟨vs, hv, by rw [r.length]; exact Nat.le_refl _⟩⟩
  obtain ⟨u, h1, h2⟩ := r.get hd
  refine ⟨⟨vs, u, hv, h1⟩, fun x H'' ⟨e, y⟩ => ?_⟩
  subst e
  have := y vs hv
  rw [h1] at this
  cases this
  exact ⟨.inl rfl, h2⟩
def miSq (Ma : ME) : MI := fun s R Xp => Ma s (fun v hp' => walked hp' v R) Xp
theorem simi_sq {K : Frag} {W : WX} {t : TE} {Ma : ME} (ha : SimE K W t Ma) : SimI K W (iSq K t) (miSq Ma) := by
  intro α s H σ w e R Xp m Q q qx
  refine ha α s H σ w e _ _ m _ (fun v hp1 α1 H1 u m1 e1 w1 r1 => ?_) qx
  cases v with
  | d d =>
    obtain ⟨ds, hd, m1⟩ := on.ex (show on (items d) _ from m1)
    cases d with
    | tup xs =>
      cases hd
      obtain ⟨a, vs, eu, h1, r⟩ := tup_sq (show Rep K (Al α1 hp1) H1 (.tup _) u from r1)
      refine ⟨a, eu, .inr ⟨⟨vs, h1⟩, q none _ hp1 α1 H1 _ m1 e1 w1 (walks_t fun α' hp' H' st _ w' _ => ?_) trivial (fun n z => by cases z)⟩⟩
      obtain ⟨a', vs', eu', h1', r'⟩ := tup_sq (Rep.mono st _ _ (show Rep K (Al α1 hp1) H1 (.tup _) u from r1))
      cases eu.symm.trans eu'
      exact ⟨vs', h1', r'⟩
    | lst xs =>
      cases hd
      obtain ⟨a, vs, eu, h1, r⟩ := (show Rep K (Al α1 hp1) H1 (.lst _) u from r1)
      refine ⟨a, eu, .inl ⟨⟨vs, .inl (.inl h1.1)⟩, q none _ hp1 α1 H1 _ m1 e1 w1 (walks_l fun α' hp' H' st _ w' _ => ?_) trivial (fun n z => by cases z)⟩⟩
      obtain ⟨a', vs', eu', h1', r'⟩ := Rep.mono st _ _ (show Rep K (Al α1 hp1) H1 (.lst _) u from r1)
      cases eu.symm.trans eu'
      exact ⟨vs', .inl (.inl h1'.1), r'⟩
    | fl xs =>
      cases hd
      obtain ⟨a, vs, eu, h1, r⟩ := fl_sq (show Rep K (Al α1 hp1) H1 (.fl _) u from r1)
      refine ⟨a, eu, .inl ⟨⟨vs, h1⟩, q none _ hp1 α1 H1 _ m1 e1 w1 (walks_l fun α' hp' H' st _ w' _ => ?_) trivial (fun n z => by cases z)⟩⟩
      obtain ⟨a', vs', eu', h1', r'⟩ := fl_sq (Rep.mono st _ _ (show Rep K (Al α1 hp1) H1 (.fl _) u from r1))
      cases eu.symm.trans eu'
      exact ⟨vs', h1', r'⟩
    | _ => cases hd
  | mu n =>
    obtain ⟨p, hp, eu⟩ := r1
    simp only [walked] at m1
    cases g : hp1[n]? with
    | none => rw [g] at m1; exact m1.elim
    | some o =>
      rw [g] at m1
      cases o with
      | lst ds =>
        obtain ⟨_, vs, h1, r⟩ := w1.obj n _ p g hp
        refine ⟨p.1, eu, .inl ⟨⟨vs, .inl (.inl h1)⟩, q (some n) ds hp1 α1 H1 _ m1 e1 w1 (walks_l fun α' hp' H' st sa w' stl => ?_) g (fun k z => by cases z; exact (List.getElem?_eq_some_iff.mp g).1)⟩⟩
        obtain ⟨p1, p2, g1, g2, g3⟩ := sa
        rw [hp] at g1
        cases g1
        obtain ⟨_, vs', h1', r'⟩ := w'.obj n _ p2 stl g2
        rw [g3] at h1'
        exact ⟨vs', .inl (.inl h1'), r'⟩
      | dct _ => exact m1.elim
      | ins _ _ => exact m1.elim
      | gone => exact m1.elim
/-- the numbers of a range -/
def rng (lo c : Int) (n : Nat) : List D := (List.range n).map fun (i : Nat) => D.int (lo + (i : Int) * c)
theorem rng_len {lo c : Int} {n : Nat} : (rng lo c n).length = n := by unfold rng; simp
theorem rng_get {lo c : Int} {n i : Nat} {d : D} (h : (rng lo c n)[i]? = some d) : i < n ∧ d = .int (lo + (i : Int) * c) := by
  have hi : i < n := by have := (List.getElem?_eq_some_iff.mp h).1; rwa [rng_len] at this
  unfold rng at h
  rw [List.getElem?_map, List.getElem?_range hi] at h
  cases h
  exact ⟨hi, rfl⟩
theorem walks_r {K : Frag} {α : Mp_} {hp : List O} {H : Hp} {lo : Int} {n : Nat} : Walks K (Itr lo n) α hp H none (rng lo 1 n) := by
  intro α' hp' H' st sa w stl
  refine ⟨fun i d hd => ?_, by show n ≤ _; rw [rng_len]; exact Nat.le_refl _⟩
  obtain ⟨h1, rfl⟩ := rng_get hd
  exact ⟨h1, fun x H'' ⟨e, y⟩ => ⟨.inl e, by subst y; show V.int _ = V.int _; rw [Int.mul_one]⟩⟩
theorem walks_c {K : Frag} {α : Mp_} {hp : List O} {H : Hp} {lo c : Int} {n : Nat} : Walks K (Itc lo c n) α hp H none (rng lo c n) := by
  intro α' hp' H' st sa w stl
  refine ⟨fun i d hd => ?_, by show n ≤ _; rw [rng_len]; exact Nat.le_refl _⟩
  obtain ⟨h1, rfl⟩ := rng_get hd
  exact ⟨h1, fun x H'' ⟨e, y⟩ => ⟨.inl e, by subst y; rfl⟩⟩
def intsD : List D → Option (List Int)
  | [] => some []
  | .int i :: r => (intsD r).bind fun l => some (i :: l)
  | _ => none
theorem ints_ok {K : Frag} {A : Av} {H : Hp} : ∀ {ds : List D} {vs : List V} {l : List Int}, RepTL K A H ds vs → intsD ds = some l → vs = l.map V.int
  | [], _, l, h, e => by cases h; cases e; rfl
  | d :: ds, _, l, h, e => by
    cases h with
    | @cons _ v _ vs h t =>
      cases d with
      | int i =>
        have e1 : ((intsD ds).bind fun l => some (i :: l)) = some l := e
        cases g : intsD ds with
        | none => rw [g] at e1; cases e1
        | some l' =>
          rw [g] at e1
          cases e1
          cases (show v = .int i from h)
          rw [ints_ok t g]
          rfl
      | _ => cases e
/-- range(n), range(a, b), range(a, b, c): Rs what it tells of the numbers -/
def miRng (f : List Int → (Int → Int → Nat → Prop) → Prop) (Ma : MA) : MI := fun s R Xp => Ma s (fun vs hp' => on (vals hp' vs) fun ds => on (intsD ds) fun l => f l fun lo c n => R none (rng lo c n) hp') Xp
def f1R : List Int → (Int → Int → Nat → Prop) → Prop := fun l k => match l with
  | [j] => -(2 ^ 62) ≤ j ∧ j < 2 ^ 62 ∧ k 0 1 j.toNat
  | _ => False
def f2R : List Int → (Int → Int → Nat → Prop) → Prop := fun l k => match l with
  | [i, j] => (-(2 ^ 62) ≤ i ∧ i < 2 ^ 62 ∧ -(2 ^ 62) ≤ j ∧ j < 2 ^ 62) ∧ k i 1 (j - i).toNat
  | _ => False
def f3R : List Int → (Int → Int → Nat → Prop) → Prop := fun l k => match l with
  | [i, j, c] => ∃ n, RgC i j c n ∧ k i c n
  | _ => False
theorem simi_r1 {K : Frag} {W : WX} {t : TA} {Ma : MA} (ha : SimA K W t Ma) : SimI K W (iRng1 t) (miRng f1R Ma) := by
  intro α s H σ w e R Xp m Q q qx
  refine ha α s H σ w e _ _ m _ (fun v hp1 α1 H1 u m1 e1 w1 r1 => ?_) qx
  obtain ⟨ds, hd, m1⟩ := on.ex m1
  obtain ⟨l, hl, m1⟩ := on.ex m1
  cases ints_ok (r1.vals w1 hd) hl
  match l, m1 with
  | [j], m1 => exact ⟨j, rfl, m1.1, m1.2.1, q _ _ _ α1 H1 _ m1.2.2 e1 w1 walks_r trivial (fun n z => by cases z)⟩
theorem simi_r2 {K : Frag} {W : WX} {t : TA} {Ma : MA} (ha : SimA K W t Ma) : SimI K W (iRng2 t) (miRng f2R Ma) := by
  intro α s H σ w e R Xp m Q q qx
  refine ha α s H σ w e _ _ m _ (fun v hp1 α1 H1 u m1 e1 w1 r1 => ?_) qx
  obtain ⟨ds, hd, m1⟩ := on.ex m1
  obtain ⟨l, hl, m1⟩ := on.ex m1
  cases ints_ok (r1.vals w1 hd) hl
  match l, m1 with
  | [i, j], m1 => exact ⟨i, j, rfl, m1.1, q _ _ _ α1 H1 _ m1.2 e1 w1 walks_r trivial (fun n z => by cases z)⟩
theorem simi_r3 {K : Frag} {W : WX} {t : TA} {Ma : MA} (ha : SimA K W t Ma) : SimI K W (iRng3 t) (miRng f3R Ma) := by
  intro α s H σ w e R Xp m Q q qx
  refine ha α s H σ w e _ _ m _ (fun v hp1 α1 H1 u m1 e1 w1 r1 => ?_) qx
  obtain ⟨ds, hd, m1⟩ := on.ex m1
  obtain ⟨l, hl, m1⟩ := on.ex m1
  cases ints_ok (r1.vals w1 hd) hl
  match l, m1 with
  | [i, j, c], ⟨n, g, m1⟩ => exact ⟨i, j, c, n, rfl, g, q _ _ _ α1 H1 _ m1 e1 w1 walks_c trivial (fun n z => by cases z)⟩

/-! ### for -/
def forL (v : Option Nat) (all : List D) (G : MG) (Mb : MS) : List D → MS
  | [] => fun s k => k.nx s
  | d :: ds => fun s k => G (.d d) s fun s1 => Mb s1 { k with nx := fun s2 => still v all s2.hp ∧ forL v all G Mb ds s2 k, ct := fun s2 => still v all s2.hp ∧ forL v all G Mb ds s2 k, bk := k.nx }
def mFor (I : MI) (G : MG) (Mb : MS) : MS := fun s k => I s (fun v ds hp' => (∀ n, v = some n → n < s.n0) ∧ forL v ds G Mb ds { s with hp := hp' } k) k.ex
theorem pre_same {ρ : List Addr} {α β : Mp_} (h : ρ <+: α.own.map (·.1)) (h' : ρ <+: β.own.map (·.1)) {v : Option Nat} (hv : ∀ n, v = some n → n < ρ.length) : sameAt v α β := by
  cases v with
  | none => trivial
  | some n =>
    have hn := hv n rfl
    have g : ∀ {γ : Mp_}, ρ <+: γ.own.map (·.1) → ∃ p, γ.own[n]? = some p ∧ p.1 = ρ[n] := fun {γ} ⟨t, ht⟩ => by
      have e : (γ.own.map (·.1))[n]? = some ρ[n] := by rw [← ht, List.getElem?_append_left hn]; exact List.getElem?_eq_getElem hn
      rw [List.getElem?_map] at e
      cases q : γ.own[n]? with
      | none => rw [q] at e; cases e
      | some p => rw [q] at e; exact ⟨p, rfl, Option.some.inj e⟩
    obtain ⟨p, h1, h2⟩ := g h
    obtain ⟨q, h3, h4⟩ := g h'
    exact ⟨p, q, h1, h3, h4.trans h2.symm⟩
theorem sim_for {K : Frag} {W : WX} {wi : TI} {g : TG} {us : List Nat} {t : TS} {I : MI} {G : MG} {Mb : MS} (hi : SimI K W wi I) (hg : SimG K g us G) (hb : SimS K W t Mb) : SimS K W (tFor wi g t) (mFor I G Mb) := by
  intro ρ α s H σ h k m D p
  refine hi α s H σ h.ok h.env _ _ m _ (fun v ds hp1 α1 H1 J m1 e1 w1 wk stl hvl => ?_) (p.postX h.pre)
  obtain ⟨hv, m1⟩ := m1
  have h1 := h.ext e1 w1
  have p1 := p.at e1.step e1.pre.ban
  have hv' : ∀ n, v = some n → n < ρ.as.length := fun n z => by rw [h.n0]; exact hv n z
  -- by turns
  let P : Nat → L2.St → Hp → Prop := fun i σ' H' => ∃ α' s', Here K ρ α' s' H' σ' ∧ StepW α1 hp1 H1 α' s'.hp H' ∧ α'.ban = α1.ban ∧ still v ds s'.hp ∧ forL v ds G Mb (ds.drop i) s' k
  refine ⟨fun i m σ' H' => m = ds.length - i ∧ i ≤ ds.length ∧ P i σ' H', ⟨ds.length, by simp, Nat.zero_le _, α1, { s with hp := hp1 }, h1, Step.refl al_sub, rfl, stl, by rw [List.drop_zero]; exact m1⟩, ?_⟩
  rintro i m σ' H' ⟨rfl, hil, α', s', h', st, bb, stl', mm⟩
  obtain ⟨w2, w3⟩ := wk α' s'.hp H' st.toA (pre_same h1.pre.own h'.pre.own hv') h'.ok stl'
  by_cases hlt : i < ds.length
  · obtain ⟨go, yl⟩ := w2 i ds[i] (List.getElem?_eq_getElem hlt)
    refine .inr ⟨go, P (i + 1), fun σ2 H2 q => ⟨ds.length - (i + 1), by omega, rfl, hlt, q⟩, fun x H2 y => ?_⟩
    obtain ⟨gr, rx⟩ := yl x H2 y
    obtain ⟨e2, wk2⟩ := h'.ok.grown gr
    rw [List.drop_eq_getElem_cons hlt] at mm
    have p2 := (p1.at st bb).at e2.step e2.pre.ban
    refine hg ρ α' { s' with hp := s'.hp } H2 σ' (.d ds[i]) x (h'.ext e2 wk2) rx _ mm _ fun s3 α3 H3 σ3 n3 i3 e3 _ => ?_
    have p3 := p2.at e3.step e3.pre.ban
    have nn : PostN K ρ α3 s3.hp H3 (fun s2 => still v ds s2.hp ∧ forL v ds G Mb (ds.drop (i + 1)) s2 k) (P (i + 1)) := fun s4 α4 H4 σ4 n4 i4 st4 b4 =>
      ⟨α4, s4, i4, ((st.trans e2.step).trans e3.step).trans st4, b4.trans (e3.pre.ban.trans (e2.pre.ban.trans bb)), n4.1, n4.2⟩
    exact hb ρ α3 s3 H3 σ3 i3 _ n3 _ ⟨nn, p3.nx, nn, p3.rt, p3.ex⟩
  · have e : i = ds.length := by omega
    subst e
    rw [List.drop_length] at mm
    exact .inl ⟨w3, (p1.at st bb).nx s' α' H' σ' mm h' (Step.refl al_sub) rfl⟩
end Mp

set_option Elab.async false
set_option linter.all false
set_option maxRecDepth 100000
set_option maxHeartbeats 4000000
/-! Mp5: comprehensions, lists and dicts that change, calls, defs. -/
namespace Mp
open PySem PySem.Spec PyProof.Rows L2

/-! ### comprehensions -/
def isD : S → Option D
  | .d x => some x
  | _ => none
@[simp] theorem isD_d {x : D} : isD (.d x) = some x := rfl
theorem SRep.isD {K : Frag} {α : Mp_} {hp : List O} {H : Hp} {s : S} {v : V} {d : D} (h : SRep K α hp H s v) (e : Mp.isD s = some d) : Rep K (Al α hp) H d v := by
  cases s with
  | d x => cases e; exact h
  | mu n => cases e
def noX : MX := fun _ _ => False
def wipeE (env : List (Option S)) : List Nat → List (Option S)
  | [] => env
  | v :: vs => (wipeE env vs).set v none
theorem wipe_get (σ : L2.St) (i : Nat) : ∀ vs : List Nat, (wipe σ vs)[i]? = if i ∈ vs then (if i < σ.length then some none else none) else σ[i]?
  | [] => by simp [wipe]
  | v :: vs => by
    unfold wipe
    by_cases h : v = i
    · subst h
      by_cases hl : v < σ.length
      · rw [List.getElem?_set_self (by rw [wipe_length]; exact hl)]; simp [hl]
      · rw [List.getElem?_eq_none (by rw [List.length_set, wipe_length]; omega)]; simp [hl]
    · rw [List.getElem?_set_ne h, wipe_get σ i vs]
      simp [Ne.symm h]
theorem wipeE_get (σ : List (Option S)) (i : Nat) : ∀ vs : List Nat, (wipeE σ vs)[i]? = if i ∈ vs then (if i < σ.length then some none else none) else σ[i]?
  | [] => by simp [wipeE]
  | v :: vs => by
    have hl0 : ∀ ws : List Nat, (wipeE σ ws).length = σ.length := fun ws => by
      induction ws with
      | nil => rfl
      | cons w ws ih => unfold wipeE; rw [List.length_set, ih]
    unfold wipeE
    by_cases h : v = i
    · subst h
      by_cases hl : v < σ.length
      · rw [List.getElem?_set_self (by rw [hl0]; exact hl)]; simp [hl]
      · rw [List.getElem?_eq_none (by rw [List.length_set, hl0]; omega)]; simp [hl]
    · rw [List.getElem?_set_ne h, wipeE_get σ i vs]
      simp [Ne.symm h]
theorem EnvR.wipe {K : Frag} {α : Mp_} {hp : List O} {H : Hp} {env : List (Option S)} {σ : L2.St} (e : EnvR K α hp H env σ) (vs : List Nat) : EnvR K α hp H (wipeE env vs) (wipe σ vs) := by
  refine ⟨?_, fun i s hi => ?_⟩
  · rw [wipe_length, ← e.1]
    induction vs with
    | nil => rfl
    | cons w ws ih => unfold wipeE; rw [List.length_set, ih]
  · rw [wipeE_get] at hi
    rw [wipe_get]
    by_cases h : i ∈ vs
    · rw [if_pos h] at hi
      split at hi <;> cases hi
    · rw [if_neg h] at hi ⊢
      exact e.2 i s hi
theorem wipe_back {σ σ2 : L2.St} {us vs : List Nat} (hl : σ2.length = σ.length) (hs : ∀ u ∈ us, u ∈ vs) (h : ∀ i, i ∉ us → σ2[i]? = (wipe σ vs)[i]?) : wipe σ2 vs = wipe σ vs := by
  apply List.ext_getElem?
  intro i
  rw [wipe_get, wipe_get, hl]
  by_cases hi : i ∈ vs
  · rw [if_pos hi, if_pos hi]
  · rw [if_neg hi, if_neg hi, h i fun z => hi (hs i z), wipe_get, if_neg hi]
theorem WOk.unban {K : Frag} {α : Mp_} {hp : List O} {H : Hp} {b : Av} (w : WOk K α hp H) (hb : ∀ a, b a → α.ban a) : WOk K { α with ban := b } hp H ∧ StepW α hp H { α with ban := b } hp H := by
  have st : StepW α hp H { α with ban := b } hp H := ⟨fun _ _ h _ => h, fun a h => .inl (h.imp id (hb a)), fun _ h => .inl h, al_sub, fun _ o h => ⟨o, h⟩⟩
  exact ⟨⟨w.len, fun n o p h1 h2 => (w.obj n o p h1 h2).mono st fun _ _ _ => rfl, w.one, w.inj, fun a h => w.ban a (hb a h)⟩, st⟩
theorem stay_upd {H : Hp} {p : Addr} {o : HO} : ∀ a u, H a = some u → ∃ w, upd H p o a = some w := fun a u e => by
  by_cases z : a = p
  · subst z; exact ⟨o, upd_same⟩
  · exact ⟨u, by rw [upd_ne z]; exact e⟩
/-- the banned thing at p is another one now -/
theorem stepBan {α : Mp_} {hp : List O} {H : Hp} {p : Addr} {o : HO} (hp' : α.ban p) : Step (Al α hp) (Al α hp) H (Al α hp) (Al α hp) (upd H p o) :=
  ⟨fun a u e n => by
    have z : a ≠ p := fun z => by subst z; exact n (.inr hp')
    rw [upd_ne z]; exact e, fun _ h => .inl h, fun _ h => .inl h, fun _ h => h, stay_upd⟩
theorem WOk.setBan {K : Frag} {α : Mp_} {hp : List O} {H : Hp} {p : Addr} {o : HO} (w : WOk K α hp H) (hb : α.ban p) : WOk K α hp (upd H p o) :=
  ⟨w.len, fun n u q h1 h2 => (w.obj n u q h1 h2).mono (stepBan hb) fun hg b hz => upd_ne fun z => (w.ban p hb).2 (z ▸ ⟨n, q, u, h2, h1, hg, hz⟩), w.one, w.inj, fun a ha => by
    refine ⟨?_, (w.ban a ha).2⟩
    by_cases z : a = p
    · subst z; exact ⟨o, upd_same⟩
    · obtain ⟨x, hx⟩ := (w.ban a ha).1
      exact ⟨x, by rw [upd_ne z]; exact hx⟩⟩
def compL (v : Option Nat) (all : List D) (G : MG) (Mt : MT) (Me : ME) (env0 : List (Option S)) : List D → List D → List O → (List D → List O → Prop) → Prop
  | [], acc, hp, R => R acc hp
  | d :: ds, acc, hp, R => G (.d d) ⟨hp, env0, hp.length⟩ fun s1 => Mt s1 (fun b hp2 => if b = true then Me { s1 with hp := hp2 } (fun y hp3 => on (isD y) fun dy => acc.length < sizeLine ∧ still v all hp3 ∧ compL v all G Mt Me env0 ds (acc ++ [dy]) hp3 R) noX
      else still v all hp2 ∧ compL v all G Mt Me env0 ds acc hp2 R) noX
def mLc (I : MI) (G : MG) (Mt : MT) (Me : ME) (vs : List Nat) : ME := fun s R Xp => I s (fun v ds hp' => compL v ds G Mt Me (wipeE s.env vs) ds [] hp' fun acc hp2 => R (.d (.lst acc)) hp2) Xp
def mLcM (I : MI) (G : MG) (Mt : MT) (Me : ME) (vs : List Nat) : ME := fun s R Xp => I s (fun v ds hp' => compL v ds G Mt Me (wipeE s.env vs) ds [] hp' fun acc hp2 => R (.mu hp2.length) (hp2 ++ [.lst acc])) Xp
theorem postX_no {K : Frag} {W : WX} {σ : L2.St} {α : Mp_} {hp : List O} {H : Hp} : PostX K W σ α hp H noX := fun _ _ _ _ _ _ z => z.elim
/-- the comprehension's run: at its end the new list stands at p -/
structure Built (K : Frag) (α1 : Mp_) (hp1 : List O) (H1 : Hp) (p : Addr) (α' : Mp_) (hp' : List O) (H' : Hp) (acc : List D) : Prop where
  pre : α1.own.map (·.1) <+: α'.own.map (·.1)
  ban : α'.ban = fun a => α1.ban a ∨ a = p
  ok : WOk K α' hp' H'
  step : StepW α1 hp1 H1 α' hp' H'
  nw : ∀ (n : Nat) (p : Addr × List Addr), α1.own.length ≤ n → α'.own[n]? = some p → H1 p.1 = none
  at_ : ∃ us, H' p = some (.lst us) ∧ RepL K (Al α' hp') H' acc us
theorem Built.go {K : Frag} {α1 α2 α3 : Mp_} {hp1 hp2 hp3 : List O} {H1 H2 H3 : Hp} {p : Addr} {acc : List D} (b : Built K α1 hp1 H1 p α2 hp2 H2 acc) (e : Ext α2 hp2 H2 α3 hp3 H3) (w : WOk K α3 hp3 H3) : Built K α1 hp1 H1 p α3 hp3 H3 acc := by
  obtain ⟨us, h1, h2⟩ := b.at_
  refine ⟨b.pre.trans e.pre.own, e.pre.ban.trans b.ban, w, b.step.trans e.step, fun n q h z => ?_, us, e.step.keep p _ h1 ?_, RepL.mono e.step _ _ h2⟩
  · by_cases hn : n < α2.own.length
    · obtain ⟨q', h3, h4⟩ := e.pre.get (List.getElem?_eq_getElem hn)
      rw [z] at h3
      cases h3
      rw [h4]
      exact b.nw n _ h (List.getElem?_eq_getElem hn)
    · exact none_back b.step.stay (e.nw n q (by omega) z)
  · exact (b.ok.ban p (by rw [b.ban]; exact .inr rfl)).2
theorem Built.app {K : Frag} {α1 α2 : Mp_} {hp1 hp2 : List O} {H1 H2 : Hp} {p : Addr} {acc : List D} {d : D} {u : V} (hn : H1 p = none) (b : Built K α1 hp1 H1 p α2 hp2 H2 acc) (r : Rep K (Al α2 hp2) H2 d u) :
    ∃ us, H2 p = some (.lst us) ∧ us.length = acc.length ∧ Built K α1 hp1 H1 p α2 hp2 (upd H2 p (.lst (us ++ [u]))) (acc ++ [d]) := by
  obtain ⟨us, h1, h2⟩ := b.at_
  have hb : α2.ban p := by rw [b.ban]; exact .inr rfl
  refine ⟨us, h1, h2.length.symm, b.pre, b.ban, b.ok.setBan hb, ⟨fun a o e n => by
    have z : a ≠ p := fun z => by subst z; rw [hn] at e; cases e
    rw [upd_ne z]; exact b.step.keep a o e n, b.step.newA, b.step.newM, b.step.sub, fun a o e => by
    obtain ⟨u, hu⟩ := b.step.stay a o e
    exact stay_upd a u hu⟩, b.nw, _, upd_same, ?_⟩
  · exact (RepL.mono (stepBan hb) _ _ h2).append (.cons (Rep.mono (stepBan hb) _ _ r) .nil)
/-- the end of it: a list that nobody will change; one that will be changed -/
theorem Built.fin {K : Frag} {α1 α2 : Mp_} {hp1 hp2 : List O} {H1 H2 : Hp} {p : Addr} {acc : List D} (w1 : WOk K α1 hp1 H1) (hn : H1 p = none) (b : Built K α1 hp1 H1 p α2 hp2 H2 acc) :
    ∃ α3, Ext α1 hp1 H1 α3 hp2 H2 ∧ WOk K α3 hp2 H2 ∧ Rep K (Al α3 hp2) H2 (.lst acc) (.ref p) := by
  obtain ⟨us, h1, h2⟩ := b.at_
  obtain ⟨w3, st⟩ := b.ok.unban (b := α1.ban) (fun a h => by rw [b.ban]; exact .inl h)
  refine ⟨{ α2 with ban := α1.ban }, ⟨⟨b.pre, rfl⟩, b.step.trans st, b.nw⟩, w3, p, us, rfl, ⟨h1, fun z => ?_⟩, RepL.mono st _ _ h2⟩
  rcases z with z | z
  · exact (b.ok.ban p (by rw [b.ban]; exact .inr rfl)).2 z
  · obtain ⟨o, ho⟩ := (w1.ban p z).1
    rw [hn] at ho
    cases ho
theorem Built.finM {K : Frag} {α1 α2 : Mp_} {hp1 hp2 : List O} {H1 H2 : Hp} {p : Addr} {acc : List D} (w1 : WOk K α1 hp1 H1) (hn : H1 p = none) (b : Built K α1 hp1 H1 p α2 hp2 H2 acc) :
    ∃ α3, Ext α1 hp1 H1 α3 (hp2 ++ [.lst acc]) H2 ∧ WOk K α3 (hp2 ++ [.lst acc]) H2 ∧ SRep K α3 (hp2 ++ [.lst acc]) H2 (.mu hp2.length) (.ref p) := by
  obtain ⟨us, h1, h2⟩ := b.at_
  have hb : α2.ban p := by rw [b.ban]; exact .inr rfl
  obtain ⟨w3, st⟩ := b.ok.unban (b := α1.ban) (fun a h => by rw [b.ban]; exact .inl h)
  let α3 : Mp_ := { α2 with ban := α1.ban }
  have np : ¬ Al α3 hp2 p := fun z => by
    rcases z with z | z
    · exact (b.ok.ban p hb).2 z
    · obtain ⟨o, ho⟩ := (w1.ban p z).1
      rw [hn] at ho
      cases ho
  -- from the banned world: p changes from banned to owned
  have mt : ∀ a, Mt (α3.push (p, [])) (hp2 ++ [.lst acc]) a → Mt α2 hp2 a ∨ a = p := fun a h => by
    rcases (mt_push w3.len).mp h with h | ⟨_, h⟩
    · exact .inl h
    · rcases h with h | h
      · exact .inr h
      · cases h
  have st2 : Step (Al α2 hp2) (Al α2 hp2) H2 (Al (α3.push (p, [])) (hp2 ++ [.lst acc])) (Al (α3.push (p, [])) (hp2 ++ [.lst acc])) H2 := by
    have q : ∀ a, Al (α3.push (p, [])) (hp2 ++ [.lst acc]) a → Al α2 hp2 a := fun a h => by
      rcases h with h | h
      · rcases mt a h with h | h
        · exact .inl h
        · subst h; exact .inr hb
      · exact .inr (by rw [b.ban]; exact .inl h)
    exact ⟨fun _ _ h _ => h, fun a h => .inl (q a h), fun a h => .inl (q a h), fun _ h => h, fun _ o h => ⟨o, h⟩⟩
  have stW : StepW α1 hp1 H1 (α3.push (p, [])) (hp2 ++ [.lst acc]) H2 := ⟨b.step.keep, fun a h => by
    rcases h with h | h
    · rcases mt a h with h | h
      · exact b.step.newA a (.inl h)
      · subst h; exact .inr hn
    · exact .inl (.inr h), fun a h => by
    rcases mt a h with h | h
    · exact b.step.newM a h
    · subst h; exact .inr hn, al_sub, b.step.stay⟩
  have hl := w3.len
  have cut : ∀ (n : Nat) (u : O) (q : Addr × List Addr), (hp2 ++ [O.lst acc])[n]? = some u → (α2.own ++ [(p, [])])[n]? = some q → (hp2[n]? = some u ∧ α2.own[n]? = some q) ∨ (n = hp2.length ∧ u = .lst acc ∧ q = (p, [])) := fun n u q h1 h2 => by
    by_cases hx : n < hp2.length
    · rw [List.getElem?_append_left hx] at h1
      rw [List.getElem?_append_left (by have : α2.own.length = hp2.length := hl; omega)] at h2
      exact .inl ⟨h1, h2⟩
    · have hy : n < (hp2 ++ [O.lst acc]).length := (List.getElem?_eq_some_iff.mp h1).1
      have en : n = hp2.length := by simp at hy; omega
      subst en
      rw [List.getElem?_append_right (Nat.le_refl _)] at h1
      rw [← (show α2.own.length = hp2.length from hl), List.getElem?_append_right (Nat.le_refl _)] at h2
      simp at h1 h2
      exact .inr ⟨rfl, h1.symm, h2.symm⟩
  have no : ∀ a, Mt α2 hp2 a → a ≠ p := fun a h z => (b.ok.ban p hb).2 (z ▸ h)
  refine ⟨α3.push (p, []), ⟨⟨?_, rfl⟩, stW, fun n q h z => ?_⟩, ⟨by show (α2.own ++ [(p, [])]).length = _; simp; exact hl, fun n u q h3 h4 => ?_, fun n u q h3 h4 hg => ?_, fun m n u u' q q' h3 h4 h5 h6 h7 h8 hne a ha hb' => ?_, fun a ha => ?_⟩, (p, []), ?_, rfl⟩
  · show α1.own.map Prod.fst <+: (α2.own ++ [(p, [])]).map Prod.fst
    rw [List.map_append]
    exact b.pre.trans (List.prefix_append _ _)
  · have z : (α2.own ++ [(p, [])])[n]? = some q := z
    by_cases hx : n < α2.own.length
    · rw [List.getElem?_append_left hx] at z
      exact b.nw n q h z
    · rw [List.getElem?_append_right (by omega)] at z
      cases y : n - α2.own.length with
      | zero => rw [y] at z; cases z; exact hn
      | succ k => rw [y] at z; cases z
  · rcases cut n u q h3 h4 with ⟨h3, h4⟩ | ⟨_, rfl, rfl⟩
    · exact (b.ok.obj n u q h3 h4).mono st2 fun _ _ _ => rfl
    · exact ⟨rfl, us, h1, RepL.mono st2 _ _ h2⟩
  · rcases cut n u q h3 h4 with ⟨h3, h4⟩ | ⟨_, rfl, rfl⟩
    · exact b.ok.one n u q h3 h4 hg
    · exact ⟨by simp, by simp⟩
  · rcases cut m u q h3 h4 with ⟨h3, h4⟩ | ⟨e1, z1, z2⟩
    · rcases cut n u' q' h6 h7 with ⟨h6, h7⟩ | ⟨e2, z3, z4⟩
      · exact b.ok.inj m n u u' q q' h3 h4 h5 h6 h7 h8 hne a ha hb'
      · rw [z4] at hb'
        rcases hb' with hb' | hb'
        · exact no a ⟨m, q, u, h4, h3, h5, ha⟩ hb'
        · cases hb'
    · rcases cut n u' q' h6 h7 with ⟨h6, h7⟩ | ⟨e2, z3, z4⟩
      · rw [z2] at ha
        rcases ha with ha | ha
        · exact no a ⟨n, q', u', h7, h6, h8, hb'⟩ ha
        · cases ha
      · exact hne (e1.trans e2.symm)
  · have ha : α1.ban a := ha
    obtain ⟨⟨o, ho⟩, hm⟩ := w1.ban a ha
    refine ⟨⟨o, b.step.keep a o ho hm⟩, fun z => ?_⟩
    rcases mt a z with z | z
    · exact (b.ok.ban a (by rw [b.ban]; exact .inl ha)).2 z
    · subst z
      rw [hn] at ho
      cases ho
  · show (α2.own ++ [(p, [])])[hp2.length]? = _
    rw [← (show α2.own.length = hp2.length from hl), List.getElem?_append_right (Nat.le_refl _)]
    simp

theorem Here.of {K : Frag} {α : Mp_} {hp : List O} {H : Hp} {env : List (Option S)} {σ : L2.St} (w : WOk K α hp H) (e : EnvR K α hp H env σ) : Here K ⟨α.own.map Prod.fst, H⟩ α ⟨hp, env, hp.length⟩ H σ :=
  ⟨⟨List.prefix_refl _, fun n p h z => (at_none (by rw [List.length_map] at h; exact h) z).elim, fun _ o h => ⟨o, h⟩⟩, by rw [List.length_map]; exact w.len, w, e⟩
theorem own_same {α β : Mp_} (h : α.own.map Prod.fst <+: β.own.map Prod.fst) {v : Option Nat} {hp : List O} {K : Frag} {H : Hp} (w : WOk K α hp H) (hv : ∀ n, v = some n → n < hp.length) : sameAt v α β :=
  pre_same (ρ := α.own.map Prod.fst) (List.prefix_refl _) h fun n z => by rw [List.length_map, w.len]; exact hv n z
theorem SRep.monoA {K : Frag} {α β : Mp_} {hp hp1 : List O} {H H1 : Hp} (st : StepA α hp H β hp1 H1) (pre : α.own.map Prod.fst <+: β.own.map Prod.fst) : ∀ {s : S} {v : V}, SRep K α hp H s v → SRep K β hp1 H1 s v
  | .d x, v, h => Rep.mono st x v h
  | .mu n, v, ⟨p, h, q⟩ => by
    obtain ⟨p', h', e'⟩ := Pre.get (α := α) (β := { β with ban := α.ban }) ⟨pre, rfl⟩ h
    exact ⟨p', h', by rw [q, e']⟩
theorem EnvR.monoA {K : Frag} {α β : Mp_} {hp hp1 : List O} {H H1 : Hp} (st : StepA α hp H β hp1 H1) (pre : α.own.map Prod.fst <+: β.own.map Prod.fst) {env : List (Option S)} {σ : L2.St} (h : EnvR K α hp H env σ) : EnvR K β hp1 H1 env σ :=
  ⟨h.1, fun i s hi => by obtain ⟨v, h1, h2⟩ := h.2 i s hi; exact ⟨v, h1, h2.monoA st pre⟩⟩
theorem Walks.at {K : Frag} {J : It} {α β : Mp_} {hp hp1 : List O} {H H1 : Hp} {v : Option Nat} {ds : List D} (wk : Walks K J α hp H v ds) (st : StepA α hp H β hp1 H1) (pre : α.own.map Prod.fst <+: β.own.map Prod.fst) (w : WOk K α hp H) (hv : ∀ n, v = some n → n < hp.length) : Walks K J β hp1 H1 v ds := by
  intro α' hp' H' st' sa w' stl
  refine wk α' hp' H' (st.trans st') ?_ w' stl
  cases v with
  | none => trivial
  | some n =>
    obtain ⟨p, q, h1, h2, h3⟩ := own_same (v := some n) pre w hv
    obtain ⟨p', q', g1, g2, g3⟩ := sa
    rw [h2] at g1
    cases g1
    exact ⟨p, q', h1, g2, g3.trans h3⟩
/-- the loop of a comprehension, from a state where acc0 has been built; Fin: what is wanted at its end -/
theorem lc_loop {K : Frag} {W0 : WX} {g : TG} {tt : TT} {te : TE} {us vs : List Nat} {G : MG} {Mt : MT} {Me : ME} (hg : SimG K g us G) (hu : ∀ u ∈ us, u ∈ vs) (ht : SimT K W0 tt Mt) (he : SimE K W0 te Me)
    {α1 α0 : Mp_} {hp1 hp0 : List O} {H1 H0 : Hp} {env : List (Option S)} {σ : L2.St} {v : Option Nat} {ds acc0 : List D} {J : It} {p : Addr} {R : List D → List O → Prop} {Fin : Hp → Prop}
    (hn : H1 p = none) (b0 : Built K α1 hp1 H1 p α0 hp0 H0 acc0) (e0 : EnvR K α0 hp0 H0 env σ) (wk : Walks K J α0 hp0 H0 v ds) (stl : still v ds hp0) (hv : ∀ n, v = some n → n < hp0.length)
    (m : compL v ds G Mt Me (wipeE env vs) ds acc0 hp0 R) (fin : ∀ α2 hp2 H2 acc, R acc hp2 → Built K α1 hp1 H1 p α2 hp2 H2 acc → StepA α0 hp0 H0 α2 hp2 H2 → α0.own.map Prod.fst <+: α2.own.map Prod.fst → Fin H2) :
    ∃ W : Nat → Nat → Hp → Prop, (∃ m, W 0 m H0) ∧ ∀ i m H, W i m H → (J.stop i H ∧ Fin H) ∨ (J.go i H ∧ ∃ Nx : Hp → Prop, (∀ H', Nx H' → ∃ m', m' < m ∧ W (i + 1) m' H') ∧ ∀ x H', J.yld i H x H' → g x (wipe σ vs) H' fun σ2 H2 => wipe σ2 vs = wipe σ vs ∧ tt σ2 H2 fun b H3 =>
      if b = true then te σ2 H3 fun y H4 => ∃ acc, H4 p = some (.lst acc) ∧ acc.length < sizeLine ∧ Nx (upd H4 p (.lst (acc ++ [y]))) else Nx H3) := by
  let P : Nat → Hp → Prop := fun i H' => ∃ α' hp' acc, Built K α1 hp1 H1 p α' hp' H' acc ∧ StepA α0 hp0 H0 α' hp' H' ∧ α0.own.map Prod.fst <+: α'.own.map Prod.fst ∧ still v ds hp' ∧ compL v ds G Mt Me (wipeE env vs) (ds.drop i) acc hp' R
  refine ⟨fun i m H' => m = ds.length - i ∧ i ≤ ds.length ∧ P i H', ⟨ds.length, by simp, Nat.zero_le _, α0, hp0, acc0, b0, Step.refl fun _ h => h, List.prefix_refl _, stl, by rw [List.drop_zero]; exact m⟩, ?_⟩
  rintro i m H' ⟨rfl, hil, α', hp', acc, b, st, pre, stl', mm⟩
  obtain ⟨w2, w3⟩ := wk α' hp' H' st (own_same pre b0.ok hv) b.ok stl'
  by_cases hlt : i < ds.length
  · obtain ⟨go, yl⟩ := w2 i ds[i] (List.getElem?_eq_getElem hlt)
    refine .inr ⟨go, P (i + 1), fun H2 q => ⟨ds.length - (i + 1), by omega, rfl, hlt, q⟩, fun x H2 y => ?_⟩
    obtain ⟨gr, rx⟩ := yl x H2 y
    obtain ⟨e2, wk2⟩ := b.ok.grown gr
    have b2 := b.go e2 wk2
    have st2 := st.trans e2.step.toA
    rw [List.drop_eq_getElem_cons hlt] at mm
    have env2 : EnvR K α' hp' H2 (wipeE env vs) (wipe σ vs) := EnvR.wipe (e0.monoA st2 pre) vs
    refine hg _ α' ⟨hp', wipeE env vs, hp'.length⟩ H2 _ (.d ds[i]) x (Here.of wk2 env2) rx _ mm _ fun s3 α3 H3 σ3 n3 i3 e3 fr => ?_
    have b3 := b2.go e3 i3.ok
    refine ⟨wipe_back (by rw [fr.1, wipe_length]) hu fr.2, ?_⟩
    refine ht α3 s3 H3 σ3 i3.ok i3.env _ _ n3 _ (fun c hp4 α4 H4 m4 e4 w4 => ?_) postX_no
    have b4 := b3.go e4 w4
    cases c with
    | false => exact ⟨α4, hp4, acc, b4, (st2.trans e3.step.toA).trans e4.step.toA, (pre.trans e3.pre.own).trans e4.pre.own, m4.1, m4.2⟩
    | true =>
      refine he α4 { s3 with hp := hp4 } H4 σ3 w4 (i3.env.mono e4) _ _ m4 _ (fun y5 hp5 α5 H5 u5 m5 e5 w5 r5 => ?_) postX_no
      have b5 := b4.go e5 w5
      obtain ⟨dy, hd, hz, stl5, m5⟩ := on.ex m5
      obtain ⟨ws, h1, h2, b6⟩ := b5.app hn (r5.isD hd)
      have hb : α5.ban p := by rw [b5.ban]; exact .inr rfl
      exact ⟨ws, h1, by rw [h2]; exact hz, α5, hp5, _, b6, (((st2.trans e3.step.toA).trans e4.step.toA).trans e5.step.toA).trans (stepBan hb), ((pre.trans e3.pre.own).trans e4.pre.own).trans e5.pre.own, stl5, m5⟩
  · have e : i = ds.length := by omega
    subst e
    rw [List.drop_length] at mm
    exact .inl ⟨w3, fin α' hp' H' acc mm b st pre⟩
/-- .. from its beginning -/
theorem built0 {K : Frag} {α1 : Mp_} {hp1 : List O} {H1 : Hp} {p : Addr} (w1 : WOk K α1 hp1 H1) (hn : H1 p = none) : Built K α1 hp1 H1 p { α1 with ban := fun a => α1.ban a ∨ a = p } hp1 (upd H1 p (.lst [])) [] := by
  obtain ⟨w2, st⟩ := w1.banned (o := .lst []) hn
  exact ⟨List.prefix_refl _, rfl, w2, st, fun n q h z => (at_none h z).elim, [], upd_same, .nil⟩
theorem lc_run {K : Frag} {W0 : WX} {g : TG} {tt : TT} {te : TE} {us vs : List Nat} {G : MG} {Mt : MT} {Me : ME} (hg : SimG K g us G) (hu : ∀ u ∈ us, u ∈ vs) (ht : SimT K W0 tt Mt) (he : SimE K W0 te Me)
    {α1 : Mp_} {hp1 : List O} {H1 : Hp} {env : List (Option S)} {σ : L2.St} {v : Option Nat} {ds : List D} {J : It} {p : Addr} {R : List D → List O → Prop} {Fin : Hp → Prop}
    (w1 : WOk K α1 hp1 H1) (e1 : EnvR K α1 hp1 H1 env σ) (wk : Walks K J α1 hp1 H1 v ds) (stl : still v ds hp1) (hv : ∀ n, v = some n → n < hp1.length) (hn : H1 p = none)
    (m : compL v ds G Mt Me (wipeE env vs) ds [] hp1 R) (fin : ∀ α2 hp2 H2 acc, R acc hp2 → Built K α1 hp1 H1 p α2 hp2 H2 acc → Fin H2) :
    ∃ W : Nat → Nat → Hp → Prop, (∃ m, W 0 m (upd H1 p (.lst []))) ∧ ∀ i m H, W i m H → (J.stop i H ∧ Fin H) ∨ (J.go i H ∧ ∃ Nx : Hp → Prop, (∀ H', Nx H' → ∃ m', m' < m ∧ W (i + 1) m' H') ∧ ∀ x H', J.yld i H x H' → g x (wipe σ vs) H' fun σ2 H2 => wipe σ2 vs = wipe σ vs ∧ tt σ2 H2 fun b H3 =>
      if b = true then te σ2 H3 fun y H4 => ∃ acc, H4 p = some (.lst acc) ∧ acc.length < sizeLine ∧ Nx (upd H4 p (.lst (acc ++ [y]))) else Nx H3) :=
  lc_loop hg hu ht he hn (built0 w1 hn) (e1.monoA (built0 w1 hn).step.toA (built0 w1 hn).pre) (wk.at (built0 w1 hn).step.toA (built0 w1 hn).pre w1 hv) stl hv m fun α2 hp2 H2 acc r b _ _ => fin α2 hp2 H2 acc r b
theorem sim_lc {K : Frag} {W W0 : WX} {wi : TI} {g : TG} {tt : TT} {te : TE} {us vs : List Nat} {I : MI} {G : MG} {Mt : MT} {Me : ME} (hi : SimI K W wi I) (hg : SimG K g us G) (hu : ∀ u ∈ us, u ∈ vs) (ht : SimT K W0 tt Mt) (he : SimE K W0 te Me) :
    SimE K W (tLc wi g tt te vs) (mLc I G Mt Me vs) := by
  intro α s H σ w e R Xp m Q q qx
  refine hi α s H σ w e _ _ m _ (fun v ds hp1 α1 H1 J m1 e1 w1 wk stl hv => fun p hn => ?_) qx
  refine lc_run hg hu ht he w1 (e.mono e1) wk stl hv hn m1 fun α2 hp2 H2 acc r b => ?_
  obtain ⟨α3, e3, w3, r3⟩ := b.fin w1 hn
  exact q _ _ _ _ _ r (e1.trans e3) w3 r3
theorem sim_lcM {K : Frag} {W W0 : WX} {wi : TI} {g : TG} {tt : TT} {te : TE} {us vs : List Nat} {I : MI} {G : MG} {Mt : MT} {Me : ME} (hi : SimI K W wi I) (hg : SimG K g us G) (hu : ∀ u ∈ us, u ∈ vs) (ht : SimT K W0 tt Mt) (he : SimE K W0 te Me) :
    SimE K W (tLc wi g tt te vs) (mLcM I G Mt Me vs) := by
  intro α s H σ w e R Xp m Q q qx
  refine hi α s H σ w e _ _ m _ (fun v ds hp1 α1 H1 J m1 e1 w1 wk stl hv => fun p hn => ?_) qx
  refine lc_run hg hu ht he w1 (e.mono e1) wk stl hv hn m1 fun α2 hp2 H2 acc r b => ?_
  obtain ⟨α3, e3, w3, r3⟩ := b.finM w1 hn
  exact q _ _ _ _ _ r (e1.trans e3) w3 r3

/-! two clauses, without tests -/
def compL2 (v : Option Nat) (all : List D) (G : MG) (I1 : MI) (G1 : MG) (Me : ME) (vs1 : List Nat) (env0 : List (Option S)) : List D → List D → List O → (List D → List O → Prop) → Prop
  | [], acc, hp, R => R acc hp
  | d :: ds, acc, hp, R => G (.d d) ⟨hp, env0, hp.length⟩ fun s1 => I1 s1 (fun v1 ds1 hp2 => compL v1 ds1 G1 (fun s R _ => R true s.hp) Me (wipeE s1.env vs1) ds1 acc hp2 fun acc2 hp3 => still v all hp3 ∧ compL2 v all G I1 G1 Me vs1 env0 ds acc2 hp3 R) noX
def mLc2 (I : MI) (G : MG) (I1 : MI) (G1 : MG) (Me : ME) (vs vs1 : List Nat) : ME := fun s R Xp => I s (fun v ds hp' => compL2 v ds G I1 G1 Me vs1 (wipeE s.env vs) ds [] hp' fun acc hp2 => R (.d (.lst acc)) hp2) Xp
def mLc2M (I : MI) (G : MG) (I1 : MI) (G1 : MG) (Me : ME) (vs vs1 : List Nat) : ME := fun s R Xp => I s (fun v ds hp' => compL2 v ds G I1 G1 Me vs1 (wipeE s.env vs) ds [] hp' fun acc hp2 => R (.mu hp2.length) (hp2 ++ [.lst acc])) Xp
theorem lc2_run {K : Frag} {W0 : WX} {g g1 : TG} {wi1 : TI} {te : TE} {us us1 vs vs1 : List Nat} {G G1 : MG} {I1 : MI} {Me : ME} (hg : SimG K g us G) (hu : ∀ u ∈ us, u ∈ vs) (hi1 : SimI K W0 wi1 I1) (hg1 : SimG K g1 us1 G1) (hu1 : ∀ u ∈ us1, u ∈ vs1) (he : SimE K W0 te Me)
    {α1 : Mp_} {hp1 : List O} {H1 : Hp} {env : List (Option S)} {σ : L2.St} {v : Option Nat} {ds : List D} {J : It} {p : Addr} {R : List D → List O → Prop} {Fin : Hp → Prop}
    (w1 : WOk K α1 hp1 H1) (e1 : EnvR K α1 hp1 H1 env σ) (wk : Walks K J α1 hp1 H1 v ds) (stl : still v ds hp1) (hv : ∀ n, v = some n → n < hp1.length) (hn : H1 p = none)
    (m : compL2 v ds G I1 G1 Me vs1 (wipeE env vs) ds [] hp1 R) (fin : ∀ α2 hp2 H2 acc, R acc hp2 → Built K α1 hp1 H1 p α2 hp2 H2 acc → Fin H2) :
    ∃ W : Nat → Nat → Hp → Prop, (∃ m, W 0 m (upd H1 p (.lst []))) ∧ ∀ i m H, W i m H → (J.stop i H ∧ Fin H) ∨ (J.go i H ∧ ∃ Nx : Hp → Prop, (∀ H', Nx H' → ∃ m', m' < m ∧ W (i + 1) m' H') ∧ ∀ x H', J.yld i H x H' → g x (wipe σ vs) H' fun σ2 H2 => wipe σ2 vs = wipe σ vs ∧ tYes σ2 H2 fun b H3 =>
      if b = true then wi1 σ2 H3 fun J1 H4 => ∃ W1 : Nat → Nat → Hp → Prop, (∃ m, W1 0 m H4) ∧ ∀ j k H, W1 j k H →
        (J1.stop j H ∧ Nx H) ∨ (J1.go j H ∧ ∃ Nx1 : Hp → Prop, (∀ H', Nx1 H' → ∃ k', k' < k ∧ W1 (j + 1) k' H') ∧ ∀ x H', J1.yld j H x H' → g1 x (wipe σ2 vs1) H' fun σ3 H5 => wipe σ3 vs1 = wipe σ2 vs1 ∧ tYes σ3 H5 fun b H6 =>
          if b = true then te σ3 H6 fun y H7 => ∃ acc, H7 p = some (.lst acc) ∧ acc.length < sizeLine ∧ Nx1 (upd H7 p (.lst (acc ++ [y]))) else Nx1 H6)
      else Nx H3) := by
  have b0 := built0 w1 hn
  let P : Nat → Hp → Prop := fun i H' => ∃ α' hp' acc, Built K α1 hp1 H1 p α' hp' H' acc ∧ still v ds hp' ∧ compL2 v ds G I1 G1 Me vs1 (wipeE env vs) (ds.drop i) acc hp' R
  refine ⟨fun i m H' => m = ds.length - i ∧ i ≤ ds.length ∧ P i H', ⟨ds.length, by simp, Nat.zero_le _, _, hp1, [], b0, stl, by rw [List.drop_zero]; exact m⟩, ?_⟩
  rintro i m H' ⟨rfl, hil, α', hp', acc, b, stl', mm⟩
  obtain ⟨w2, w3⟩ := wk α' hp' H' b.step.toA (own_same b.pre w1 hv) b.ok stl'
  by_cases hlt : i < ds.length
  · obtain ⟨go, yl⟩ := w2 i ds[i] (List.getElem?_eq_getElem hlt)
    refine .inr ⟨go, P (i + 1), fun H2 q => ⟨ds.length - (i + 1), by omega, rfl, hlt, q⟩, fun x H2 y => ?_⟩
    obtain ⟨gr, rx⟩ := yl x H2 y
    obtain ⟨e2, wk2⟩ := b.ok.grown gr
    have b2 := b.go e2 wk2
    rw [List.drop_eq_getElem_cons hlt] at mm
    have env2 : EnvR K α' hp' H2 (wipeE env vs) (wipe σ vs) := EnvR.wipe (e1.monoA b2.step.toA b2.pre) vs
    refine hg _ α' ⟨hp', wipeE env vs, hp'.length⟩ H2 _ (.d ds[i]) x (Here.of wk2 env2) rx _ mm _ fun s3 α3 H3 σ3 n3 i3 e3 fr => ?_
    have b3 := b2.go e3 i3.ok
    refine ⟨wipe_back (by rw [fr.1, wipe_length]) hu fr.2, ?_⟩
    show wi1 σ3 H3 _
    refine hi1 α3 s3 H3 σ3 i3.ok i3.env _ _ n3 _ (fun v1 ds1 hp4 α4 H4 J1 m4 e4 w4 wk4 stl4 hv4 => ?_) postX_no
    have b4 := b3.go e4 w4
    exact lc_loop (Fin := P (i + 1)) hg1 hu1 (W0 := W0) (Mt := fun s R _ => R true s.hp) (tt := tYes) (fun α s H σ w e R Xp m Q q _ => q _ _ α H m Ext.refl w) he hn b4 (i3.env.mono e4) wk4 stl4 hv4 m4
      fun α5 hp5 H5 acc5 r5 b5 _ _ => ⟨α5, hp5, acc5, b5, r5.1, r5.2⟩
  · have e : i = ds.length := by omega
    subst e
    rw [List.drop_length] at mm
    exact .inl ⟨w3, fin α' hp' H' acc mm b⟩
theorem sim_lc2 {K : Frag} {W W0 : WX} {wi wi1 : TI} {g g1 : TG} {te : TE} {us us1 vs vs1 : List Nat} {I I1 : MI} {G G1 : MG} {Me : ME} (hi : SimI K W wi I) (hg : SimG K g us G) (hu : ∀ u ∈ us, u ∈ vs) (hi1 : SimI K W0 wi1 I1) (hg1 : SimG K g1 us1 G1) (hu1 : ∀ u ∈ us1, u ∈ vs1) (he : SimE K W0 te Me) :
    SimE K W (tLc2 wi g tYes wi1 g1 tYes te vs vs1) (mLc2 I G I1 G1 Me vs vs1) := by
  intro α s H σ w e R Xp m Q q qx
  refine hi α s H σ w e _ _ m _ (fun v ds hp1 α1 H1 J m1 e1 w1 wk stl hv => fun p hn => ?_) qx
  refine lc2_run hg hu hi1 hg1 hu1 he w1 (e.mono e1) wk stl hv hn m1 fun α2 hp2 H2 acc r b => ?_
  obtain ⟨α3, e3, w3, r3⟩ := b.fin w1 hn
  exact q _ _ _ _ _ r (e1.trans e3) w3 r3
theorem sim_lc2M {K : Frag} {W W0 : WX} {wi wi1 : TI} {g g1 : TG} {te : TE} {us us1 vs vs1 : List Nat} {I I1 : MI} {G G1 : MG} {Me : ME} (hi : SimI K W wi I) (hg : SimG K g us G) (hu : ∀ u ∈ us, u ∈ vs) (hi1 : SimI K W0 wi1 I1) (hg1 : SimG K g1 us1 G1) (hu1 : ∀ u ∈ us1, u ∈ vs1) (he : SimE K W0 te Me) :
    SimE K W (tLc2 wi g tYes wi1 g1 tYes te vs vs1) (mLc2M I G I1 G1 Me vs vs1) := by
  intro α s H σ w e R Xp m Q q qx
  refine hi α s H σ w e _ _ m _ (fun v ds hp1 α1 H1 J m1 e1 w1 wk stl hv => fun p hn => ?_) qx
  refine lc2_run hg hu hi1 hg1 hu1 he w1 (e.mono e1) wk stl hv hn m1 fun α2 hp2 H2 acc r b => ?_
  obtain ⟨α3, e3, w3, r3⟩ := b.finM w1 hn
  exact q _ _ _ _ _ r (e1.trans e3) w3 r3
end Mp

set_option Elab.async false
set_option linter.all false
set_option maxRecDepth 100000
set_option maxHeartbeats 4000000
/-! Mp6: lists and dicts that change, slices, calls, defs. -/
namespace Mp
open PySem PySem.Spec PyProof.Rows L2

/-! ### an object changes in its place -/
theorem set_get {τ : Type} {l : List τ} {n m : Nat} {x y : τ} (h : (l.set n x)[m]? = some y) : (n = m ∧ x = y) ∨ (n ≠ m ∧ l[m]? = some y) := by
  by_cases e : n = m
  · subst e
    have hn : n < l.length := by have := (List.getElem?_eq_some_iff.mp h).1; rwa [List.length_set] at this
    rw [List.getElem?_set_self hn] at h
    exact .inl ⟨rfl, Option.some.inj h⟩
  · rw [List.getElem?_set_ne e] at h
    exact .inr ⟨e, h⟩
theorem WOk.put {K : Frag} {α : Mp_} {hp : List O} {H : Hp} {n : Nat} {o o' : O} {p : Addr × List Addr} {x : HO} (w : WOk K α hp H) (h : hp[n]? = some o) (hg : o ≠ .gone) (ha : α.own[n]? = some p) (hg' : o' ≠ .gone)
    (ho : StepW α hp H α (hp.set n o') (upd H p.1 x) → OR K (Al α (hp.set n o')) (upd H p.1 x) p o') : WOk K α (hp.set n o') (upd H p.1 x) ∧ Ext α hp H α (hp.set n o') (upd H p.1 x) := by
  have hn : n < hp.length := (List.getElem?_eq_some_iff.mp h).1
  have mt : ∀ a, Mt α (hp.set n o') a → Mt α hp a := fun a ⟨m, q, u, h1, h2, h3, h4⟩ => by
    rcases set_get h2 with ⟨e, _⟩ | ⟨_, h2⟩
    · subst e
      exact ⟨n, q, o, h1, h, hg, h4⟩
    · exact ⟨m, q, u, h1, h2, h3, h4⟩
  have al : ∀ a, Al α (hp.set n o') a → Al α hp a := fun a z => z.imp (mt a) id
  have hp1 : Mt α hp p.1 := ⟨n, p, o, ha, h, hg, .inl rfl⟩
  have st : StepW α hp H α (hp.set n o') (upd H p.1 x) := ⟨fun a u e z => by
    have : a ≠ p.1 := fun y => by subst y; exact z hp1
    rw [upd_ne this]; exact e, fun a z => .inl (al a z), fun a z => .inl (mt a z), al_sub, stay_upd⟩
  refine ⟨⟨by rw [List.length_set]; exact w.len, fun m u q h1 h2 => ?_, fun m u q h1 h2 hz => ?_, fun m k u u' q q' h1 h2 h3 h4 h5 h6 hne a hx hy => ?_, fun a hb => ?_⟩, ⟨Pre.refl _, st, fun _ _ h e => (at_none h e).elim⟩⟩
  · rcases set_get h1 with ⟨e, e'⟩ | ⟨e, h1⟩
    · subst e e'
      rw [ha] at h2
      cases h2
      exact ho st
    · refine (w.obj m u q h1 h2).mono st fun hz b hb => ?_
      rw [upd_ne fun y => ?_]
      subst y
      exact w.inj n m o u p q h ha hg h1 h2 hz e _ (.inl rfl) hb
  · rcases set_get h1 with ⟨e, e'⟩ | ⟨e, h1⟩
    · subst e
      exact w.one n o q h h2 hg
    · exact w.one m u q h1 h2 hz
  · have f : ∀ {m : Nat} {u : O}, (hp.set n o')[m]? = some u → u ≠ .gone → ∃ u', hp[m]? = some u' ∧ u' ≠ .gone := fun {m u} h1 hz => by
      rcases set_get h1 with ⟨e, e'⟩ | ⟨e, h1⟩
      · subst e; exact ⟨o, h, hg⟩
      · exact ⟨u, h1, hz⟩
    obtain ⟨v, g1, g2⟩ := f h1 h3
    obtain ⟨v', g3, g4⟩ := f h4 h6
    exact w.inj m k v v' q q' g1 h2 g2 g3 h5 g4 hne a hx hy
  · obtain ⟨⟨y, hy⟩, hm⟩ := w.ban a hb
    obtain ⟨z, hz⟩ := st.stay a y hy
    exact ⟨⟨z, hz⟩, fun z => hm (mt a z)⟩
/-- an own list gets other items -/
theorem WOk.putLst {K : Frag} {α : Mp_} {hp : List O} {H : Hp} {n : Nat} {ds ds' : List D} {p : Addr × List Addr} {us' : List V} (w : WOk K α hp H) (h : hp[n]? = some (.lst ds)) (ha : α.own[n]? = some p) (r : RepL K (Al α hp) H ds' us') :
    WOk K α (hp.set n (.lst ds')) (upd H p.1 (.lst us')) ∧ Ext α hp H α (hp.set n (.lst ds')) (upd H p.1 (.lst us')) :=
  w.put h (fun z => by cases z) ha (fun z => by cases z) fun st => ⟨(w.obj n _ p h ha).1, us', upd_same, RepL.mono st _ _ r⟩
def lstAt (hp : List O) (n : Nat) : Option (List D) := match hp[n]? with
  | some (.lst ds) => some ds
  | _ => none
theorem lstAt_some {hp : List O} {n : Nat} {ds : List D} (h : hp[n]? = some (.lst ds)) : lstAt hp n = some ds := by unfold lstAt; rw [h]
theorem lstAt_get {hp : List O} {n : Nat} {ds : List D} (h : lstAt hp n = some ds) : hp[n]? = some (.lst ds) := by
  unfold lstAt at h
  split at h
  · rename_i q; cases h; exact q
  · cases h
def dctAt (hp : List O) (n : Nat) : Option (List (Key × D)) := match hp[n]? with
  | some (.dct ds) => some ds
  | _ => none
theorem dctAt_get {hp : List O} {n : Nat} {ds : List (Key × D)} (h : dctAt hp n = some ds) : hp[n]? = some (.dct ds) := by
  unfold dctAt at h
  split at h
  · rename_i q; cases h; exact q
  · cases h
def asMu : S → Option Nat
  | .mu n => some n
  | _ => none
@[simp] theorem asMu_mu {n : Nat} : asMu (.mu n) = some n := rfl
theorem SRep.asMu {K : Frag} {α : Mp_} {hp : List O} {H : Hp} {s : S} {v : V} {n : Nat} (h : SRep K α hp H s v) (e : Mp.asMu s = some n) : ∃ p, α.own[n]? = some p ∧ v = .ref p.1 := by
  cases s with
  | d _ => cases e
  | mu m => cases e; exact h

theorem tyV_list {K : Frag} {H : Hp} {a : Addr} {us : List V} (h : H a = some (.lst us)) : tyV K "list" (.ref a) H := .inl ⟨rfl, _, .inl (.inl h)⟩
theorem WOk.lstOf {K : Frag} {α : Mp_} {hp : List O} {H : Hp} {n : Nat} {ds : List D} {p : Addr × List Addr} (w : WOk K α hp H) (h : lstAt hp n = some ds) (ha : α.own[n]? = some p) : ∃ us, H p.1 = some (.lst us) ∧ RepL K (Al α hp) H ds us := (w.obj n _ p (lstAt_get h) ha).2
/-! ### methods of a list that changes it: f tells the answer and the new items from the arguments (x: they may be lists that change; else data alone) -/
abbrev FM := List D → List D → (D → List D → Prop) → Prop
def args (x : Bool) (hp : List O) (vs : List S) : Option (List D) := if x then vals hp vs else allD vs
def SimM (K : Frag) (x : Bool) (r : V → List V → Hp → VK → Prop) (f : FM) : Prop := ∀ (A : Av) (H : Hp) (a : Addr) (ds es : List D) (us vs : List V), H a = some (.lst us) → RepL K A H ds us → (if x then RepTL K A H es vs else RepL K A H es vs) → ∀ P, f ds es P → ∀ Q : VK,
  (∀ d ds' v us', P d ds' → (∀ A' H', (∀ e u, Rep K A H e u → Rep K A' H' e u) → Rep K A' H' d v) → RepL K A H ds' us' → Q v (upd H a (.lst us'))) → r (.ref a) vs H Q
def mMeth (x : Bool) (f : FM) (Mo : ME) (Ma : MA) : ME := fun s R Xp => Mo s (fun o hp1 => on (asMu o) fun n => on (lstAt hp1 n) fun _ => Ma { s with hp := hp1 } (fun vs hp2 => on (lstAt hp2 n) fun ds => on (args x hp2 vs) fun es => f ds es fun d ds' => R (.d d) (hp2.set n (.lst ds'))) Xp) Xp
theorem SRepL.args {K : Frag} {α : Mp_} {hp : List O} {H : Hp} (w : WOk K α hp H) {x : Bool} {vs : List S} {us : List V} {es : List D} (r : SRepL K α hp H vs us) (h : args x hp vs = some es) : if x then RepTL K (Al α hp) H es us else RepL K (Al α hp) H es us := by
  cases x with
  | true => exact r.vals w h
  | false => exact r.allD h
theorem sim_meth {K : Frag} {W : WX} {x : Bool} {r : V → List V → Hp → VK → Prop} {f : FM} {to : TE} {t : TA} {Mo : ME} {Ma : MA} (hr : SimM K x r f) (ho : SimE K W to Mo) (ha : SimA K W t Ma) : SimE K W (tBM K "list" r to t) (mMeth x f Mo Ma) := by
  intro α s H σ w e R Xp m Q q qx
  refine ho α s H σ w e _ _ m _ (fun o hp1 α1 H1 u m1 e1 w1 r1 => ?_) qx
  obtain ⟨n, g1, m1⟩ := on.ex m1
  obtain ⟨ds0, g2, m1⟩ := on.ex m1
  obtain ⟨p, h1, h2⟩ := r1.asMu g1
  obtain ⟨us0, h3, _⟩ := w1.lstOf g2 h1
  subst h2
  refine ⟨tyV_list h3, ha α1 { s with hp := hp1 } H1 σ w1 (e.mono e1) _ _ m1 _ (fun vs hp2 α2 H2 ws m2 e2 w2 r2 => ?_) (qx.at e1)⟩
  obtain ⟨ds, g3, m2⟩ := on.ex m2
  obtain ⟨es, g4, m2⟩ := on.ex m2
  obtain ⟨p2, h4, h5⟩ := e2.pre.get h1
  obtain ⟨us, h6, h7⟩ := w2.lstOf g3 h4
  rw [← h5]
  refine hr _ H2 p2.1 ds es us ws h6 h7 (r2.args w2 g4) _ m2 Q fun d ds' v us' pp rd rl => ?_
  obtain ⟨w3, e3⟩ := w2.putLst (lstAt_get g3) h4 rl
  exact q _ _ α2 _ v pp ((e1.trans e2).trans e3) w3 (rd _ _ fun _ _ h => Rep.mono e3.step _ _ h)
theorem sim_meth0 {K : Frag} {W : WX} {r : V → List V → Hp → VK → Prop} {f : FM} {to : TE} {Mo : ME} (hr : SimM K false r f) (ho : SimE K W to Mo) : SimE K W (tBM0 K "list" r to) (mMeth false f Mo mNil) := by
  intro α s H σ w e R Xp m Q q qx
  refine ho α s H σ w e _ _ m _ (fun o hp1 α1 H1 u m1 e1 w1 r1 => ?_) qx
  obtain ⟨n, g1, m1⟩ := on.ex m1
  obtain ⟨ds, g2, m1⟩ := on.ex m1
  obtain ⟨p, h1, h2⟩ := r1.asMu g1
  obtain ⟨us, h3, h7⟩ := w1.lstOf g2 h1
  subst h2
  refine ⟨tyV_list h3, ?_⟩
  obtain ⟨ds', g3, m1⟩ := on.ex (show on (lstAt hp1 n) _ from m1)
  cases g2.symm.trans g3
  obtain ⟨es, g4, m1⟩ := on.ex m1
  cases g4
  refine hr _ H1 p.1 ds [] us [] h3 h7 rfl _ m1 Q fun d ds' v us' pp rd rl => ?_
  obtain ⟨w3, e3⟩ := w1.putLst (lstAt_get g2) h1 rl
  exact q _ _ α1 _ v pp (e1.trans e3) w3 (rd _ _ fun _ _ h => Rep.mono e3.step _ _ h)
def fAppend : FM := fun ds es P => one es fun e => ds.length < sizeLine ∧ P .non (ds ++ [e])
theorem sim_append {K : Frag} : SimM K false rAppend fAppend := by
  intro A H a ds es us vs h r re P p Q q
  match es, vs, re, p with
  | [e], _, ⟨v, t, ev, h1, h2⟩, p =>
    cases h2
    subst ev
    exact ⟨a, us, v, rfl, rfl, h, by rw [← r.length]; exact p.1, q .non _ .non _ p.2 (fun _ _ _ => rfl) (r.append (.cons h1 .nil))⟩
def fExtend : FM := fun ds es P => one es fun e => on (match e with | .lst zs => some zs | _ => none) fun zs => ds.length + zs.length ≤ sizeLine ∧ P .non (ds ++ zs)
theorem sim_extend {K : Frag} : SimM K true rExtend fExtend := by
  intro A H a ds es us vs h r re P p Q q
  obtain ⟨d, v, rfl, r1, p⟩ := p.ex re
  obtain ⟨zs, g, p1, p2⟩ := on.ex p
  cases d with
  | lst ys =>
    cases g
    obtain ⟨b, ws, rfl, h1, h2⟩ := r1
    exact ⟨a, b, us, ws, rfl, rfl, h, h1, by rw [← r.length, ← h2.length]; exact p1, q .non _ .non _ p2 (fun _ _ _ => rfl) (r.append h2)⟩
  | _ => cases g
def fPop : FM := fun ds es P => match es with
  | [] => on (ds[ds.length - 1]?) fun y => P y ds.dropLast
  | _ => False
theorem sim_pop {K : Frag} : SimM K false rPop fPop := by
  intro A H a ds es us vs h r re P p Q q
  match es, vs, re, p with
  | [], _, re, p =>
    cases re
    obtain ⟨y, g, p⟩ := on.ex p
    obtain ⟨v, h1, h2⟩ := r.get g
    rw [r.length] at h1
    exact ⟨a, us, v, rfl, rfl, h, h1, q y _ v _ p (fun _ _ k => k _ _ h2) r.dropLast⟩
def fPopAt : FM := fun ds es P => one es fun e => on (asI e) fun i => -(2 ^ 63) ≤ i ∧ i < 2 ^ 63 ∧ on (seqIndex? i ds.length) fun k => on (ds[k]?) fun y => P y (ds.eraseIdx k)
theorem sim_popAt {K : Frag} : SimM K false rPopAt fPopAt := by
  intro A H a ds es us vs h r re P p Q q
  match es, vs, re, p with
  | [e], _, ⟨v, t, ev, h1, h2⟩, p =>
    cases h2
    subst ev
    obtain ⟨i, g1, b1, b2, p⟩ := on.ex (show on (asI e) _ from p)
    obtain ⟨k, g2, p⟩ := on.ex p
    obtain ⟨y, g3, p⟩ := on.ex p
    obtain ⟨u, h3, h4⟩ := r.get g3
    cases h1.t.asI g1
    exact ⟨a, us, i, k, u, rfl, rfl, h, b1, b2, by rw [← r.length]; exact g2, h3, q y _ u _ p (fun _ _ k => k _ _ h4) (r.eraseIdx k)⟩
def fReverse : FM := fun ds es P => match es with
  | [] => P .non ds.reverse
  | _ => False
theorem sim_reverse {K : Frag} : SimM K false rReverse fReverse := by
  intro A H a ds es us vs h r re P p Q q
  match es, vs, re, p with
  | [], _, re, p => cases re; exact ⟨a, us, rfl, rfl, h, q .non _ .non _ p (fun _ _ _ => rfl) r.reverse⟩
def fClear : FM := fun ds es P => match es with
  | [] => P .non []
  | _ => False
theorem sim_clear {K : Frag} : SimM K false rClear fClear := by
  intro A H a ds es us vs h r re P p Q q
  match es, vs, re, p with
  | [], _, re, p => cases re; exact ⟨a, us, rfl, rfl, h, q .non _ .non _ p (fun _ _ _ => rfl) .nil⟩

/-! ### xs[i] = e -/
def mgSub (Mo Mi : ME) : MG := fun v s N => Mo s (fun o hp1 => Mi { s with hp := hp1 } (fun i hp2 => on (asMu o) fun n => on (lstAt hp2 n) fun ds => on (isD i) fun di => on (asI di) fun k => on (ixN ds.length k) fun j => on (isD v) fun d => N { s with hp := hp2.set n (.lst (ds.set j d)) }) noX) noX
theorem simg_sub {K : Frag} {W : WX} {to ti : TE} {Mo Mi : ME} (ho : SimE K W to Mo) (hi : SimE K W ti Mi) : SimG K (gSub to ti rSetL) [] (mgSub Mo Mi) := by
  intro ρ α s H σ v u h rv N m Q q
  refine ho α s H σ h.ok h.env _ _ m _ (fun o hp1 α1 H1 uo m1 e1 w1 r1 => ?_) postX_no
  refine hi α1 { s with hp := hp1 } H1 σ w1 (h.env.mono e1) _ _ m1 _ (fun i hp2 α2 H2 ui m2 e2 w2 r2 => ?_) postX_no
  obtain ⟨n, g1, m2⟩ := on.ex m2
  obtain ⟨ds, g2, m2⟩ := on.ex m2
  obtain ⟨di, g3, m2⟩ := on.ex m2
  obtain ⟨k, g4, m2⟩ := on.ex m2
  obtain ⟨j, g5, m2⟩ := on.ex m2
  obtain ⟨d, g6, m2⟩ := on.ex m2
  obtain ⟨p, h1, h2⟩ := (r1.mono e2).asMu g1
  obtain ⟨us, h3, h4⟩ := w2.lstOf g2 h1
  subst h2
  have rd := (rv.mono (e1.trans e2)).isD g6
  obtain ⟨w3, e3⟩ := w2.putLst (lstAt_get g2) h1 (h4.set j rd)
  refine ⟨p.1, us, k, j, rfl, (r2.isD g3).t.asI g4, h3, by rw [← h4.length]; exact g5, ?_⟩
  exact q _ α2 _ σ m2 (h.ext ((e1.trans e2).trans e3) w3) ((e1.trans e2).trans e3) ⟨rfl, fun _ _ => rfl⟩
/-! ### a, b = e -/
def mgsNil : List D → PS → (PS → Prop) → Prop := fun ds s N => match ds with
  | [] => N s
  | _ => False
def mgsCons (G : MG) (Gs : List D → PS → (PS → Prop) → Prop) : List D → PS → (PS → Prop) → Prop := fun ds s N => match ds with
  | d :: r => G (.d d) s fun s1 => Gs r s1 N
  | _ => False
def SimGs (K : Frag) (g : TGs) (us : List Nat) (M : List D → PS → (PS → Prop) → Prop) : Prop := ∀ (ρ : En) (α : Mp_) (s : PS) (H : Hp) (σ : L2.St) (ds : List D) (vs : List V), Here K ρ α s H σ → RepL K (Al α s.hp) H ds vs → ∀ N, M ds s N → ∀ Q : L2.St → Hp → Prop,
  (∀ s' α' H' σ', N s' → Here K ρ α' s' H' σ' → Ext α s.hp H α' s'.hp H' → (σ'.length = σ.length ∧ ∀ i, i ∉ us → σ'[i]? = σ[i]?) → Q σ' H') → g vs σ H Q
theorem simgs_nil {K : Frag} : SimGs K gNil [] mgsNil := by
  intro ρ α s H σ ds vs h r N m Q q
  match ds, vs, r, m with
  | [], _, r, m => cases r; exact ⟨rfl, q s α H σ m h Ext.refl ⟨rfl, fun _ _ => rfl⟩⟩
theorem simgs_cons {K : Frag} {g : TG} {gs : TGs} {us ws : List Nat} {G : MG} {Gs : List D → PS → (PS → Prop) → Prop} (h1 : SimG K g us G) (h2 : SimGs K gs ws Gs) : SimGs K (gCons g gs) (us ++ ws) (mgsCons G Gs) := by
  intro ρ α s H σ ds vs h r N m Q q
  match ds, vs, r, m with
  | d :: ds, _, ⟨v, t, e, r1, r2⟩, m =>
    subst e
    refine ⟨v, t, rfl, h1 ρ α s H σ (.d d) v h r1 _ m _ fun s1 α1 H1 σ1 n1 i1 e1 f1 => ?_⟩
    refine h2 ρ α1 s1 H1 σ1 ds t i1 (RepL.mono e1.step _ _ r2) _ n1 _ fun s2 α2 H2 σ2 n2 i2 e2 f2 => ?_
    refine q s2 α2 H2 σ2 n2 i2 (e1.trans e2) ⟨f2.1.trans f1.1, fun i hi => ?_⟩
    rw [List.mem_append, not_or] at hi
    exact (f2.2 i hi.2).trans (f1.2 i hi.1)
def mgTup (n : Nat) (Gs : List D → PS → (PS → Prop) → Prop) : MG := fun v s N => on (isD v) fun d => on (asTup d) fun ds => ds.length = n ∧ Gs ds s N
theorem simg_tup {K : Frag} {n : Nat} {gs : TGs} {us : List Nat} {Gs : List D → PS → (PS → Prop) → Prop} (h : SimGs K gs us Gs) : SimG K (gTup K n gs) us (mgTup n Gs) := by
  intro ρ α s H σ v u hh r N m Q q
  obtain ⟨d, g1, m⟩ := on.ex m
  obtain ⟨ds, g2, m1, m2⟩ := on.ex m
  have rd := r.isD g1
  cases d with
  | tup ds' =>
    cases g2
    obtain ⟨a, vs, e, h1, h2⟩ := tup_sq rd
    exact ⟨a, vs, e, h1, by rw [← h2.length]; exact m1, h ρ α s H σ ds vs hh h2 N m2 Q q⟩
  | _ => cases g2
end Mp

set_option Elab.async false
set_option linter.all false
set_option maxRecDepth 100000
set_option maxHeartbeats 4000000
/-! Mp7: dicts, slices, calls, defs. -/
namespace Mp
open PySem PySem.Spec PyProof.Rows L2

/-! ### dicts -/
def keyD : D → Option Key
  | .int i => some (.inl i)
  | .str x => some (.inr x)
  | _ => none
@[simp] theorem keyD_int {i : Int} : keyD (.int i) = some (.inl i) := rfl
@[simp] theorem keyD_str {i : Str} : keyD (.str i) = some (.inr i) := rfl
theorem Rep.key {K : Frag} {A : Av} {H : Hp} {d : D} {v : V} {k : Key} (h : Rep K A H d v) (e : keyD d = some k) : v = kV k := by
  cases d with
  | int i => cases e; exact h
  | str i => cases e; exact h
  | _ => cases e
def getK (l : List (Key × D)) (k : Key) : Option D := (l.find? fun kv => decide (kv.1 = k)).map (·.2)
def setK (l : List (Key × D)) (k : Key) (d : D) : List (Key × D) :=
  if (l.any fun kv => decide (kv.1 = k)) = true then l.map (fun kv => if kv.1 = k then (kv.1, d) else kv) else l ++ [(k, d)]
section
variable {K : Frag} {A : Av} {H : Hp}
theorem RepK.get : ∀ {l : List (Key × D)} {ws : List (Key × V)} {k : Key} {d : D}, RepK K A H l ws → getK l k = some d → ∃ v, valV ws k = some v ∧ Rep K A H d v
  | [], _, k, d, _, e => by cases e
  | (j, x) :: r, _, k, d, ⟨v, t, e, h, q⟩, g => by
    subst e
    unfold getK valV at *
    rw [List.find?_cons] at g ⊢
    by_cases hj : j = k
    · simp only [hj, decide_true, Option.map_some] at g ⊢
      cases g
      exact ⟨v, rfl, h⟩
    · simp only [hj, decide_false] at g ⊢
      exact RepK.get q g
theorem RepK.none : ∀ {l : List (Key × D)} {ws : List (Key × V)} {k : Key}, RepK K A H l ws → getK l k = none → valV ws k = none
  | [], _, k, h, _ => by cases h; rfl
  | (j, x) :: r, _, k, ⟨v, t, e, h, q⟩, g => by
    subst e
    unfold getK valV at *
    rw [List.find?_cons] at g ⊢
    by_cases hj : j = k
    · simp only [hj, decide_true, Option.map_some] at g
      cases g
    · simp only [hj, decide_false] at g ⊢
      exact RepK.none q g
theorem RepK.any (k : Key) : ∀ {l : List (Key × D)} {ws : List (Key × V)}, RepK K A H l ws → (ws.any fun kv => decide (kv.1 = k)) = l.any fun kv => decide (kv.1 = k)
  | [], _, h => by cases h; rfl
  | (j, x) :: r, _, ⟨v, t, e, h, q⟩ => by subst e; rw [List.any_cons, List.any_cons, RepK.any k q]
theorem RepK.len : ∀ {l : List (Key × D)} {ws : List (Key × V)}, RepK K A H l ws → l.length = ws.length
  | [], _, h => by cases h; rfl
  | (j, x) :: r, _, ⟨v, t, e, h, q⟩ => by subst e; exact congrArg Nat.succ (RepK.len q)
theorem RepK.app : ∀ {l m : List (Key × D)} {ws us : List (Key × V)}, RepK K A H l ws → RepK K A H m us → RepK K A H (l ++ m) (ws ++ us)
  | [], _, _, _, h, g => by cases h; exact g
  | (j, x) :: r, _, _, _, ⟨v, t, e, h, q⟩, g => by subst e; exact ⟨v, t ++ _, rfl, h, RepK.app q g⟩
theorem RepK.repl (k : Key) {d : D} {u : V} (hd : Rep K A H d u) : ∀ {l : List (Key × D)} {ws : List (Key × V)}, RepK K A H l ws → RepK K A H (l.map fun kv => if kv.1 = k then (kv.1, d) else kv) (ws.map fun kv => if kv.1 = k then (kv.1, u) else kv)
  | [], _, h => by cases h; rfl
  | (j, x) :: r, _, ⟨v, t, e, h, q⟩ => by
    subst e
    rw [List.map_cons, List.map_cons]
    by_cases hj : j = k
    · simp only [hj, if_true]; exact ⟨u, _, rfl, hd, RepK.repl k hd q⟩
    · simp only [hj, if_false]; exact ⟨v, _, rfl, h, RepK.repl k hd q⟩
theorem RepK.set {l : List (Key × D)} {ws : List (Key × V)} (k : Key) {d : D} {u : V} (hd : Rep K A H d u) (h : RepK K A H l ws) : RepK K A H (setK l k d) (putK ws k u) := by
  unfold setK putK
  rw [h.any k]
  split
  · exact h.repl k hd
  · exact h.app ⟨u, [], rfl, hd, rfl⟩
end
theorem WOk.dctOf {K : Frag} {α : Mp_} {hp : List O} {H : Hp} {n : Nat} {ds : List (Key × D)} {p : Addr × List Addr} (w : WOk K α hp H) (h : dctAt hp n = some ds) (ha : α.own[n]? = some p) : ∃ us, H p.1 = some (.dK us) ∧ RepK K (Al α hp) H ds us := (w.obj n _ p (dctAt_get h) ha).2
def mDGet (Md Mk : ME) : ME := fun s R Xp => Md s (fun o hp1 => Mk { s with hp := hp1 } (fun y hp2 => on (asMu o) fun n => on (dctAt hp2 n) fun l => on (isD y) fun dy => on (keyD dy) fun k => on (getK l k) fun d => R (.d d) hp2) Xp) Xp
theorem sim_dget {K : Frag} {W : WX} {td ty : TE} {Md Mk : ME} (hd : SimE K W td Md) (hk : SimE K W ty Mk) : SimE K W (tDGet td ty) (mDGet Md Mk) := by
  intro α s H σ w e R Xp m Q q qx
  refine hd α s H σ w e _ _ m _ (fun o hp1 α1 H1 u m1 e1 w1 r1 => ?_) qx
  refine hk α1 { s with hp := hp1 } H1 σ w1 (e.mono e1) _ _ m1 _ (fun y hp2 α2 H2 uy m2 e2 w2 r2 => ?_) (qx.at e1)
  obtain ⟨n, g1, m2⟩ := on.ex m2
  obtain ⟨l, g2, m2⟩ := on.ex m2
  obtain ⟨dy, g3, m2⟩ := on.ex m2
  obtain ⟨k, g4, m2⟩ := on.ex m2
  obtain ⟨d, g5, m2⟩ := on.ex m2
  obtain ⟨p, h1, h2⟩ := (r1.mono e2).asMu g1
  obtain ⟨us, h3, h4⟩ := w2.dctOf g2 h1
  obtain ⟨v, h5, h6⟩ := h4.get g5
  subst h2
  refine ⟨p.1, v, rfl, ?_, q _ _ α2 H2 v m2 (e1.trans e2) w2 h6⟩
  rw [(r2.isD g3).key g4, ← h5]
  exact DGet.k h3
def mDIn (neg : Bool) (Mk Md : ME) : ME := fun s R Xp => Mk s (fun y hp1 => Md { s with hp := hp1 } (fun o hp2 => on (asMu o) fun n => on (dctAt hp2 n) fun l => on (isD y) fun dy => on (keyD dy) fun k => R (.d (.bl (if neg then !(getK l k).isSome else (getK l k).isSome))) hp2) Xp) Xp
theorem RepK.isSome {K : Frag} {A : Av} {H : Hp} {l : List (Key × D)} {ws : List (Key × V)} {k : Key} (h : RepK K A H l ws) : (valV ws k).isSome = (getK l k).isSome := by
  cases e : getK l k with
  | none => rw [h.none e]; rfl
  | some d => obtain ⟨v, h1, _⟩ := h.get e; rw [h1]; rfl
theorem sim_din {K : Frag} {W : WX} {td ty : TE} {Md Mk : ME} (hk : SimE K W ty Mk) (hd : SimE K W td Md) : SimE K W (tDIn ty td) (mDIn false Mk Md) := by
  intro α s H σ w e R Xp m Q q qx
  refine hk α s H σ w e _ _ m _ (fun y hp1 α1 H1 u m1 e1 w1 r1 => ?_) qx
  refine hd α1 { s with hp := hp1 } H1 σ w1 (e.mono e1) _ _ m1 _ (fun o hp2 α2 H2 uy m2 e2 w2 r2 => ?_) (qx.at e1)
  obtain ⟨n, g1, m2⟩ := on.ex m2
  obtain ⟨l, g2, m2⟩ := on.ex m2
  obtain ⟨dy, g3, m2⟩ := on.ex m2
  obtain ⟨k, g4, m2⟩ := on.ex m2
  obtain ⟨p, h1, h2⟩ := r2.asMu g1
  obtain ⟨us, h3, h4⟩ := w2.dctOf g2 h1
  subst h2
  refine ⟨p.1, valV us k, rfl, ?_, ?_⟩
  · rw [((r1.mono e2).isD g3).key g4]; exact DGet.k h3
  · rw [h4.isSome]; exact q _ _ α2 H2 _ m2 (e1.trans e2) w2 rfl
theorem sim_dnotin {K : Frag} {W : WX} {td ty : TE} {Md Mk : ME} (hk : SimE K W ty Mk) (hd : SimE K W td Md) : SimE K W (tDNotIn ty td) (mDIn true Mk Md) := by
  intro α s H σ w e R Xp m Q q qx
  refine hk α s H σ w e _ _ m _ (fun y hp1 α1 H1 u m1 e1 w1 r1 => ?_) qx
  refine hd α1 { s with hp := hp1 } H1 σ w1 (e.mono e1) _ _ m1 _ (fun o hp2 α2 H2 uy m2 e2 w2 r2 => ?_) (qx.at e1)
  obtain ⟨n, g1, m2⟩ := on.ex m2
  obtain ⟨l, g2, m2⟩ := on.ex m2
  obtain ⟨dy, g3, m2⟩ := on.ex m2
  obtain ⟨k, g4, m2⟩ := on.ex m2
  obtain ⟨p, h1, h2⟩ := r2.asMu g1
  obtain ⟨us, h3, h4⟩ := w2.dctOf g2 h1
  subst h2
  refine ⟨p.1, valV us k, rfl, ?_, ?_⟩
  · rw [((r1.mono e2).isD g3).key g4]; exact DGet.k h3
  · rw [h4.isSome]; exact q _ _ α2 H2 _ m2 (e1.trans e2) w2 rfl
/-- d[k] = e -/
def mDPut (Md Mk Me : ME) : MS := fun s k => Me s (fun v hp1 => Md { s with hp := hp1 } (fun o hp2 => Mk { s with hp := hp2 } (fun y hp3 => on (asMu o) fun n => on (dctAt hp3 n) fun l => on (isD y) fun dy => on (keyD dy) fun key => on (isD v) fun d => l.length < sizeLine ∧
  k.nx { s with hp := hp3.set n (.dct (setK l key d)) }) k.ex) k.ex) k.ex
theorem sim_dput {K : Frag} {W : WX} {td ty tv : TE} {Md Mk Me : ME} (hd : SimE K W td Md) (hk : SimE K W ty Mk) (he : SimE K W tv Me) : SimS K W (sDPut td ty tv) (mDPut Md Mk Me) := by
  intro ρ α s H σ h k m D p
  have px := p.postX (σ := σ) h.pre
  refine he α s H σ h.ok h.env _ _ m _ (fun v hp1 α1 H1 u m1 e1 w1 r1 => ?_) px
  refine hd α1 { s with hp := hp1 } H1 σ w1 (h.env.mono e1) _ _ m1 _ (fun o hp2 α2 H2 uo m2 e2 w2 r2 => ?_) (px.at e1)
  refine hk α2 { s with hp := hp2 } H2 σ w2 ((h.env.mono e1).mono e2) _ _ m2 _ (fun y hp3 α3 H3 uy m3 e3 w3 r3 => ?_) ((px.at e1).at e2)
  obtain ⟨n, g1, m3⟩ := on.ex m3
  obtain ⟨l, g2, m3⟩ := on.ex m3
  obtain ⟨dy, g3, m3⟩ := on.ex m3
  obtain ⟨key, g4, m3⟩ := on.ex m3
  obtain ⟨d, g5, hz, m3⟩ := on.ex m3
  obtain ⟨q, h1, h2⟩ := (r2.mono e3).asMu g1
  obtain ⟨us, h3, h4⟩ := w3.dctOf g2 h1
  subst h2
  have rd := ((r1.mono e2).mono e3).isD g5
  obtain ⟨w4, e4⟩ := w3.put (x := .dK (putK us key u)) (o' := .dct (setK l key d)) (dctAt_get g2) (fun z => by cases z) h1 (fun z => by cases z) fun st => ⟨(w3.obj n _ q (dctAt_get g2) h1).1, _, upd_same, (h4.set key rd).mono st⟩
  have eT := ((e1.trans e2).trans e3).trans e4
  refine ⟨q.1, upd H3 q.1 (.dK (putK us key u)), rfl, ?_, p.nx _ α3 _ σ m3 (h.ext eT w4) eT.step eT.pre.ban⟩
  rw [(r3.isD g3).key g4]
  exact DPut.k h3 (by rw [← h4.len]; exact hz)
/-- {k: v, ..}: a dict that will change; the values are data -/
def mPairs : List (ME × ME) → PS → (List (S × S) → List O → Prop) → MX → Prop
  | [], s, R, _ => R [] s.hp
  | (Mk, Mv) :: r, s, R, Xp => Mk s (fun k hp1 => Mv { s with hp := hp1 } (fun v hp2 => mPairs r { s with hp := hp2 } (fun ps hp3 => R ((k, v) :: ps) hp3) Xp) Xp) Xp
def keysD : List (S × S) → Option (List (Key × D))
  | [] => some []
  | (k, v) :: r => (isD k).bind fun dk => (keyD dk).bind fun key => (isD v).bind fun d => (keysD r).bind fun l => some ((key, d) :: l)
inductive SimPs (K : Frag) (W : WX) : List (TE × TE) → List (ME × ME) → Prop where
  | nil : SimPs K W [] []
  | cons {tk tv : TE} {Mk Mv : ME} {r : List (TE × TE)} {m : List (ME × ME)} (h1 : SimE K W tk Mk) (h2 : SimE K W tv Mv) (h3 : SimPs K W r m) : SimPs K W ((tk, tv) :: r) ((Mk, Mv) :: m)
theorem sim_pairs {K : Frag} {W : WX} : ∀ {tr : List (TE × TE)} {mr : List (ME × ME)}, SimPs K W tr mr → ∀ (α : Mp_) (s : PS) (H : Hp) (σ : L2.St), WOk K α s.hp H → EnvR K α s.hp H s.env σ → ∀ R Xp, mPairs mr s R Xp → ∀ Q : List (V × V) → Hp → Prop,
    (∀ ps hp' α' H' vs, R ps hp' → Ext α s.hp H α' hp' H' → WOk K α' hp' H' → Paired (fun (x : S × S) (y : V × V) => SRep K α' hp' H' x.1 y.1 ∧ SRep K α' hp' H' x.2 y.2) ps vs → Q vs H') → PostX K W σ α s.hp H Xp → tPairs tr σ H Q
  | _, _, .nil, α, s, H, σ, w, e, R, Xp, m, Q, q, _ => q [] s.hp α H [] m Ext.refl w .nil
  | _, _, .cons h1 h2 h3, α, s, H, σ, w, e, R, Xp, m, Q, q, qx => by
    refine h1 α s H σ w e _ _ m _ (fun k hp1 α1 H1 u m1 e1 w1 r1 => ?_) qx
    refine h2 α1 { s with hp := hp1 } H1 σ w1 (e.mono e1) _ _ m1 _ (fun v hp2 α2 H2 u2 m2 e2 w2 r2 => ?_) (qx.at e1)
    refine sim_pairs h3 α2 { s with hp := hp2 } H2 σ w2 ((e.mono e1).mono e2) _ _ m2 _ (fun ps hp3 α3 H3 vs m3 e3 w3 r3 => ?_) ((qx.at e1).at e2)
    exact q _ _ α3 H3 _ m3 ((e1.trans e2).trans e3) w3 (.cons ⟨(r1.mono e2).mono e3, r2.mono e3⟩ r3)
theorem keysD_ok {K : Frag} {α : Mp_} {hp : List O} {H : Hp} : ∀ {ps : List (S × S)} {vs : List (V × V)} {l : List (Key × D)}, Paired (fun (x : S × S) (y : V × V) => SRep K α hp H x.1 y.1 ∧ SRep K α hp H x.2 y.2) ps vs → keysD ps = some l →
    ∃ kvs : List (Key × V), vs = kvs.map (fun kv => (kV kv.1, kv.2)) ∧ RepK K (Al α hp) H l kvs
  | [], _, l, r, e => by cases r; cases e; exact ⟨[], rfl, rfl⟩
  | (k, v) :: r, _, l, rr, e => by
    cases rr with
    | @cons a b as bs h t =>
      obtain ⟨u1, u2⟩ := b
      unfold keysD at e
      cases g1 : isD k with
      | none => rw [g1] at e; cases e
      | some dk =>
        cases g2 : keyD dk with
        | none => rw [g1] at e; simp [g2] at e
        | some key =>
          cases g3 : isD v with
          | none => rw [g1] at e; simp [g2, g3] at e
          | some d =>
            cases g4 : keysD r with
            | none => rw [g1] at e; simp [g2, g3, g4] at e
            | some l' =>
              rw [g1] at e
              simp [g2, g3, g4] at e
              subst e
              obtain ⟨kvs, e1, r1⟩ := keysD_ok t g4
              refine ⟨(key, u2) :: kvs, ?_, u2, kvs, rfl, h.2.isD g3, r1⟩
              rw [e1, List.map_cons]
              have : u1 = kV key := (h.1.isD g1).key g2
              rw [this]
def mergeD (l more : List (Key × D)) : List (Key × D) := more.foldl (fun acc kv => setK acc kv.1 kv.2) l
theorem RepK.merge {K : Frag} {A : Av} {H : Hp} : ∀ {more : List (Key × D)} {ms : List (Key × V)} {l : List (Key × D)} {ws : List (Key × V)}, RepK K A H more ms → RepK K A H l ws → RepK K A H (mergeD l more) (mergeK ws ms)
  | [], _, l, ws, h, g => by cases h; exact g
  | (k, d) :: r, _, l, ws, ⟨v, t, e, h, q⟩, g => by subst e; exact RepK.merge (more := r) (ms := t) q (g.set k h)

/-- the banned thing at p becomes an object of one's own -/
theorem ban_push {K : Frag} {α1 α2 : Mp_} {hp1 hp2 : List O} {H1 H2 : Hp} {p : Addr} {o : O} (w1 : WOk K α1 hp1 H1) (hn : H1 p = none) (bpre : α1.own.map Prod.fst <+: α2.own.map Prod.fst) (bban : α2.ban = fun a => α1.ban a ∨ a = p) (bok : WOk K α2 hp2 H2)
    (bst : StepW α1 hp1 H1 α2 hp2 H2) (bnw : ∀ (n : Nat) (q : Addr × List Addr), α1.own.length ≤ n → α2.own[n]? = some q → H1 q.1 = none)
    (ho : ∀ A' : Av, Step (Al α2 hp2) (Al α2 hp2) H2 A' A' H2 → OR K A' H2 (p, []) o) :
    ∃ α3, Ext α1 hp1 H1 α3 (hp2 ++ [o]) H2 ∧ WOk K α3 (hp2 ++ [o]) H2 ∧ SRep K α3 (hp2 ++ [o]) H2 (.mu hp2.length) (.ref p) := by
  have hb : α2.ban p := by rw [bban]; exact .inr rfl
  obtain ⟨w3, st⟩ := bok.unban (b := α1.ban) (fun a h => by rw [bban]; exact .inl h)
  let α3 : Mp_ := { α2 with ban := α1.ban }
  have mt : ∀ a, Mt (α3.push (p, [])) (hp2 ++ [o]) a → Mt α2 hp2 a ∨ a = p := fun a h => by
    rcases (mt_push w3.len).mp h with h | ⟨_, h⟩
    · exact .inl h
    · rcases h with h | h
      · exact .inr h
      · cases h
  have st2 : Step (Al α2 hp2) (Al α2 hp2) H2 (Al (α3.push (p, [])) (hp2 ++ [o])) (Al (α3.push (p, [])) (hp2 ++ [o])) H2 := by
    have q : ∀ a, Al (α3.push (p, [])) (hp2 ++ [o]) a → Al α2 hp2 a := fun a h => by
      rcases h with h | h
      · rcases mt a h with h | h
        · exact .inl h
        · subst h; exact .inr hb
      · exact .inr (by rw [bban]; exact .inl h)
    exact ⟨fun _ _ h _ => h, fun a h => .inl (q a h), fun a h => .inl (q a h), fun _ h => h, fun _ o h => ⟨o, h⟩⟩
  have stW : StepW α1 hp1 H1 (α3.push (p, [])) (hp2 ++ [o]) H2 := ⟨bst.keep, fun a h => by
    rcases h with h | h
    · rcases mt a h with h | h
      · exact bst.newA a (.inl h)
      · subst h; exact .inr hn
    · exact .inl (.inr h), fun a h => by
    rcases mt a h with h | h
    · exact bst.newM a h
    · subst h; exact .inr hn, al_sub, bst.stay⟩
  have hl := w3.len
  have cut : ∀ (n : Nat) (u : O) (q : Addr × List Addr), (hp2 ++ [o])[n]? = some u → (α2.own ++ [(p, [])])[n]? = some q → (hp2[n]? = some u ∧ α2.own[n]? = some q) ∨ (n = hp2.length ∧ u = o ∧ q = (p, [])) := fun n u q h1 h2 => by
    by_cases hx : n < hp2.length
    · rw [List.getElem?_append_left hx] at h1
      rw [List.getElem?_append_left (by have : α2.own.length = hp2.length := hl; omega)] at h2
      exact .inl ⟨h1, h2⟩
    · have hy : n < (hp2 ++ [o]).length := (List.getElem?_eq_some_iff.mp h1).1
      have en : n = hp2.length := by simp at hy; omega
      subst en
      rw [List.getElem?_append_right (Nat.le_refl _)] at h1
      rw [← (show α2.own.length = hp2.length from hl), List.getElem?_append_right (Nat.le_refl _)] at h2
      simp at h1 h2
      exact .inr ⟨rfl, h1.symm, h2.symm⟩
  have no : ∀ a, Mt α2 hp2 a → a ≠ p := fun a h z => (bok.ban p hb).2 (z ▸ h)
  refine ⟨α3.push (p, []), ⟨⟨?_, rfl⟩, stW, fun n q h z => ?_⟩, ⟨by show (α2.own ++ [(p, [])]).length = _; simp; exact hl, fun n u q h3 h4 => ?_, fun n u q h3 h4 hg => ?_, fun m n u u' q q' h3 h4 h5 h6 h7 h8 hne a ha hb' => ?_, fun a ha => ?_⟩, (p, []), ?_, rfl⟩
  · show α1.own.map Prod.fst <+: (α2.own ++ [(p, [])]).map Prod.fst
    rw [List.map_append]
    exact bpre.trans (List.prefix_append _ _)
  · have z : (α2.own ++ [(p, [])])[n]? = some q := z
    by_cases hx : n < α2.own.length
    · rw [List.getElem?_append_left hx] at z
      exact bnw n q h z
    · rw [List.getElem?_append_right (by omega)] at z
      cases y : n - α2.own.length with
      | zero => rw [y] at z; cases z; exact hn
      | succ k => rw [y] at z; cases z
  · rcases cut n u q h3 h4 with ⟨h3, h4⟩ | ⟨_, rfl, rfl⟩
    · exact (bok.obj n u q h3 h4).mono st2 fun _ _ _ => rfl
    · exact ho _ st2
  · rcases cut n u q h3 h4 with ⟨h3, h4⟩ | ⟨_, rfl, rfl⟩
    · exact bok.one n u q h3 h4 hg
    · exact ⟨by simp, by simp⟩
  · rcases cut m u q h3 h4 with ⟨h3, h4⟩ | ⟨e1, z1, z2⟩
    · rcases cut n u' q' h6 h7 with ⟨h6, h7⟩ | ⟨e2, z3, z4⟩
      · exact bok.inj m n u u' q q' h3 h4 h5 h6 h7 h8 hne a ha hb'
      · rw [z4] at hb'
        rcases hb' with hb' | hb'
        · exact no a ⟨m, q, u, h4, h3, h5, ha⟩ hb'
        · cases hb'
    · rcases cut n u' q' h6 h7 with ⟨h6, h7⟩ | ⟨e2, z3, z4⟩
      · rw [z2] at ha
        rcases ha with ha | ha
        · exact no a ⟨n, q', u', h7, h6, h8, hb'⟩ ha
        · cases ha
      · exact hne (e1.trans e2.symm)
  · have ha : α1.ban a := ha
    obtain ⟨⟨y, hy⟩, hm⟩ := w1.ban a ha
    refine ⟨⟨y, bst.keep a y hy hm⟩, fun z => ?_⟩
    rcases mt a z with z | z
    · exact (bok.ban a (by rw [bban]; exact .inl ha)).2 z
    · subst z
      rw [hn] at hy
      cases hy
  · show (α2.own ++ [(p, [])])[hp2.length]? = _
    rw [← (show α2.own.length = hp2.length from hl), List.getElem?_append_right (Nat.le_refl _)]
    simp
def mDisp (mr : List (ME × ME)) : ME := fun s R Xp => mPairs mr s (fun ps hp1 => on (keysD ps) fun l => l.length ≤ 15 ∧ R (.mu hp1.length) (hp1 ++ [.dct (mergeD [] l)])) Xp
theorem nw_back {α : Mp_} {hp hp1 : List O} {H H0 : Hp} {α0 β : Mp_} {H1 : Hp} (hl : α0.own = α.own) (st : ∀ a o, H0 a = some o → ∃ u, H a = some u) (e : Ext α hp H β hp1 H1) : ∀ (n : Nat) (q : Addr × List Addr), α0.own.length ≤ n → β.own[n]? = some q → H0 q.1 = none := fun n q h z =>
  none_back st (e.nw n q (by rw [← hl]; exact h) z)
theorem sim_disp {K : Frag} {W : WX} {tr : List (TE × TE)} {mr : List (ME × ME)} (h : SimPs K W tr mr) : SimE K W (tDisp tr) (mDisp mr) := by
  intro α s H σ w e R Xp m Q q qx
  intro p hn
  obtain ⟨wb, stb⟩ := w.banned (o := .dK []) hn
  have eb : EnvR K { α with ban := fun a => α.ban a ∨ a = p } s.hp (upd H p (.dK [])) s.env σ := ⟨e.1, fun i x hx => by
    obtain ⟨v, h1, h2⟩ := e.2 i x hx
    refine ⟨v, h1, ?_⟩
    cases x with
    | d d => exact Rep.mono stb d v h2
    | mu n => exact h2⟩
  refine sim_pairs h { α with ban := fun a => α.ban a ∨ a = p } s _ σ wb eb _ _ m _ (fun ps hp1 α1 H1 vs m1 e1 w1 r1 => ?_) ?_
  · obtain ⟨l, g1, hz, m1⟩ := on.ex m1
    obtain ⟨kvs, ev, rk⟩ := keysD_ok r1 g1
    have hb1 : α1.ban p := by rw [e1.pre.ban]; exact .inr rfl
    have hp1' : H1 p = some (.dK []) := e1.step.keep p _ upd_same (wb.ban p (.inr rfl)).2
    refine ⟨hp1', kvs, ev, by rw [← rk.len]; exact hz, ?_⟩
    have bst : StepW α s.hp H α1 hp1 (upd H1 p (.dK (mergeK [] kvs))) := by
      have st0 := stb.trans e1.step
      refine ⟨fun a u ea na => ?_, st0.newA, st0.newM, st0.sub, fun a u ea => ?_⟩
      · have z : a ≠ p := fun z => by subst z; rw [hn] at ea; cases ea
        rw [upd_ne z]; exact st0.keep a u ea na
      · obtain ⟨u', hu⟩ := st0.stay a u ea
        exact stay_upd a u' hu
    obtain ⟨α3, e3, w3, r3⟩ := ban_push (o := .dct (mergeD [] l)) w hn e1.pre.own e1.pre.ban (w1.setBan hb1) bst (fun n q h z => none_back stb.stay (e1.nw n q h z))
      fun A' st => ⟨rfl, _, upd_same, (RepK.merge (RepK.mono (stepBan hb1) rk) (show RepK K (Al α1 hp1) _ [] [] from rfl)).mono st⟩
    exact q _ _ α3 _ _ m1 e3 w3 r3
  · intro x hp' α' H' c dd z e1 w1 r1
    obtain ⟨w2, st2⟩ := w1.unban (b := α.ban) (fun a h => by rw [e1.pre.ban]; exact .inl h)
    refine qx x hp' { α' with ban := α.ban } H' c dd z ⟨⟨e1.pre.own, rfl⟩, (stb.trans e1.step).trans st2, fun n q h z => none_back stb.stay (e1.nw n q h z)⟩ w2 ?_
    refine ⟨r1.1, ?_⟩
    have r2 := r1.2
    cases hx : x.fs with
    | nil => trivial
    | cons f fs =>
      rw [hx] at r2
      obtain ⟨a, ws, h1, h2, h3⟩ := r2
      refine ⟨a, ws, h1, h2, ?_⟩
      have mono : ∀ {l : List (Str × D)} {ws : List (Str × V)}, RepXF K (Al α' hp') H' l ws → RepXF K (Al { α' with ban := α.ban } hp') H' l ws := fun {l} => by
        induction l with
        | nil => exact fun h => h
        | cons y l ih => exact fun {ws} ⟨v, t, e, h, q⟩ => ⟨v, t, e, Rep.mono st2 _ _ h, ih q⟩
      exact mono h3

/-! ### slices -/
def cutD (xs : List D) (lo hi : Option Int) : List D := (xs.drop (HT.sIx xs.length 0 lo)).take (HT.sIx xs.length xs.length hi - HT.sIx xs.length 0 lo)
theorem RepL.cut {K : Frag} {A : Av} {H : Hp} {ds : List D} {vs : List V} (r : RepL K A H ds vs) (lo hi : Option Int) : RepL K A H (cutD ds lo hi) (cutV vs lo hi) := by
  unfold cutD cutV
  rw [r.length]
  exact (r.drop _).take _
abbrev MO := PS → (Option Int → List O → Prop) → MX → Prop
def SimO (K : Frag) (W : WX) (t : TO) (M : MO) : Prop := ∀ (α : Mp_) (s : PS) (H : Hp) (σ : L2.St), WOk K α s.hp H → EnvR K α s.hp H s.env σ → ∀ R Xp, M s R Xp → ∀ Q : Option Int → Hp → Prop,
  (∀ o hp' α' H', R o hp' → Ext α s.hp H α' hp' H' → WOk K α' hp' H' → Q o H') → PostX K W σ α s.hp H Xp → t σ H Q
def moNone : MO := fun s R _ => R none s.hp
def moSome (Ma : ME) : MO := fun s R Xp => Ma s (fun v hp1 => on (isD v) fun d => on (asI d) fun i => R (some i) hp1) Xp
theorem simo_none {K : Frag} {W : WX} : SimO K W tNoPart moNone := fun α s H σ w e R Xp m Q q _ => q _ _ α H m Ext.refl w
theorem simo_some {K : Frag} {W : WX} {t : TE} {Ma : ME} (ha : SimE K W t Ma) : SimO K W (tPart t) (moSome Ma) := by
  intro α s H σ w e R Xp m Q q qx
  refine ha α s H σ w e _ _ m _ (fun x hp1 α1 H1 v1 m1 e1 w1 r1 => ?_) qx
  obtain ⟨d, g1, m1⟩ := on.ex m1
  obtain ⟨i, g2, m1⟩ := on.ex m1
  exact ⟨i, (r1.isD g1).t.asI g2, q _ _ α1 H1 m1 e1 w1⟩
/-- of a list: a new one; of a tuple; of a text -/
def fSl (d : D) (lo hi : Option Int) (P : D → Prop) : Prop := match d with
  | .lst ds => P (.lst (cutD ds lo hi))
  | .fl ds => P (.lst (cutD ds lo hi))
  | .tup ds => P (.tup (cutD ds lo hi))
  | _ => False
@[simp] theorem fSl_lst {ds : List D} {lo hi : Option Int} {P : D → Prop} : fSl (.lst ds) lo hi P = P (.lst (cutD ds lo hi)) := rfl
@[simp] theorem fSl_tup {ds : List D} {lo hi : Option Int} {P : D → Prop} : fSl (.tup ds) lo hi P = P (.tup (cutD ds lo hi)) := rfl
def rSlX (K : Frag) : V → Option Int → Option Int → Hp → VK → Prop := fun x lo hi H Q => rSlL K x lo hi H Q ∨ rSlA K x lo hi H Q
theorem sl_x {X : Cx} : SlR X (rSlX X.K) := SlR.or sl_list sl_tupA
theorem cutD_whole {ds : List D} {lo hi : Option Int} (h : HT.sIx ds.length 0 lo = 0 ∧ HT.sIx ds.length ds.length hi = ds.length) : cutD ds lo hi = ds := by
  unfold cutD
  rw [h.1, h.2]
  simp
theorem sim_fSl {K : Frag} (A : Av) (H : Hp) (d : D) (v : V) (hA : ∀ a, H a = none → ¬ A a) (r : RepT K A H d v) (lo hi : Option Int) (P : D → Prop) (p : fSl d lo hi P) (Q : VK)
    (q : ∀ d v H', P d → Rep K A H' d v → (H' = H ∨ ∃ p o, H p = none ∧ H' = upd H p o) → Q v H') : rSlX K v lo hi H Q := by
  cases d with
  | lst ds =>
    obtain ⟨a, vs, rfl, h, k⟩ := r
    exact .inl ⟨a, vs, rfl, .inl (.inl h), fun l hl => q _ _ _ p (new_lst hA hl (k.cut lo hi)) (.inr ⟨l, _, hl, rfl⟩)⟩
  | fl ds =>
    obtain ⟨a, vs, e, h, k⟩ := fl_sq (r : Rep K A H (.fl ds) v)
    exact .inl ⟨a, vs, e, h, fun l hl => q _ _ _ p (new_lst hA hl (k.cut lo hi)) (.inr ⟨l, _, hl, rfl⟩)⟩
  | tup ds =>
    obtain ⟨a, vs, e, h, k⟩ := tup_sq (r : Rep K A H (.tup ds) v)
    refine .inr ⟨a, vs, e, h, fun hw => ?_, fun _ l hl => q _ _ _ p (new_tup hA hl (k.cut lo hi)) (.inr ⟨l, _, hl, rfl⟩)⟩
    rw [← k.length] at hw
    refine q _ _ _ p ?_ (.inl rfl)
    rw [cutD_whole hw, ← e]
    exact r
  | _ => exact p.elim
def mSl (Ma : ME) (Ml Mh : MO) : ME := fun s R Xp => Ma s (fun x hp1 => Ml { s with hp := hp1 } (fun lo hp2 => Mh { s with hp := hp2 } (fun hi hp3 => on (val hp3 x) fun d => fSl d lo hi fun d' => R (.d d') hp3) Xp) Xp) Xp
theorem sim_sl {K : Frag} {W : WX} {t : TE} {tl th : TO} {Ma : ME} {Ml Mh : MO} (ha : SimE K W t Ma) (hl : SimO K W tl Ml) (hh : SimO K W th Mh) : SimE K W (tSl (rSlX K) t tl th) (mSl Ma Ml Mh) := by
  intro α s H σ w e R Xp m Q q qx
  refine ha α s H σ w e _ _ m _ (fun x hp1 α1 H1 v1 m1 e1 w1 r1 => ?_) qx
  refine hl α1 { s with hp := hp1 } H1 σ w1 (e.mono e1) _ _ m1 _ (fun lo hp2 α2 H2 m2 e2 w2 => ?_) (qx.at e1)
  refine hh α2 { s with hp := hp2 } H2 σ w2 ((e.mono e1).mono e2) _ _ m2 _ (fun hi hp3 α3 H3 m3 e3 w3 => ?_) ((qx.at e1).at e2)
  obtain ⟨d, g1, m3⟩ := on.ex m3
  refine sim_fSl _ H3 d v1 w3.non (((r1.mono e2).mono e3).val w3 g1) lo hi _ m3 Q fun d' v' H' p rp st => ?_
  obtain ⟨e4, w4⟩ := w3.grown st
  exact q _ _ α3 _ _ p (((e1.trans e2).trans e3).trans e4) w4 rp
end Mp

set_option Elab.async false
set_option linter.all false
set_option maxRecDepth 100000
set_option maxHeartbeats 4000000
/-! Mp8: calls, defs. -/
namespace Mp
open PySem PySem.Spec PyProof.Rows L2

abbrev MF := List O → List S → (S → List O → Prop) → MX → Prop
/-- a result that nothing else leans on -/
def Frs (K : Frag) (H : Hp) (α' : Mp_) (hp' : List O) (H' : Hp) (s : S) (v : V) : Prop := ∀ ds, s = .d (.lst ds) → ∃ a us, v = .ref a ∧ H a = none ∧ H' a = some (.lst us) ∧ WOk K { α' with ban := fun b => α'.ban b ∨ b = a } hp' H' ∧ RepL K (Al { α' with ban := fun b => α'.ban b ∨ b = a } hp') H' ds us
/-- THE PROMISE of a def by what it does to data and objects; fr: its lists are new -/
def spM (K : Frag) (n : Nat) (fr : Bool) (M : MF) : Sp := fun vs H Q E => vs.length = n ∧ ∃ α hp ss R Xp, WOk K α hp H ∧ SRepL K α hp H ss vs ∧ M hp ss R Xp ∧
  (∀ s hp' α' H' v, R s hp' → Ext α hp H α' hp' H' → WOk K α' hp' H' → SRep K α' hp' H' s v → (fr = true → Frs K H α' hp' H' s v) → Q v H') ∧
  (∀ x hp' α' H' c dd, Xp x hp' → Ext α hp H α' hp' H' → WOk K α' hp' H' → XRep K (Al α' hp') H' x c dd → E c dd H')
theorem spM_len {K : Frag} {n : Nat} {fr : Bool} {M : MF} : ∀ vs H Q E, spM K n fr M vs H Q E → vs.length = n := fun _ _ _ _ h => h.1
/-! ### calls -/
def mCall (n : Nat) (M : MF) (dd : List D) (Ma : MA) : ME := fun s R Xp => Ma s (fun ss hp1 => ss.length + dd.length = n ∧ M hp1 (ss ++ dd.map S.d) R Xp) Xp
/-- .. whose new list will be changed -/
def mCallM (n : Nat) (M : MF) (dd : List D) (Ma : MA) : ME := fun s R Xp => Ma s (fun ss hp1 => ss.length + dd.length = n ∧ M hp1 (ss ++ dd.map S.d) (fun v hp2 => match v with
  | .d (.lst ds) => R (.mu hp2.length) (hp2 ++ [.lst ds])
  | _ => False) Xp) Xp
theorem srepL_app {K : Frag} {α : Mp_} {hp : List O} {H : Hp} {dd : List D} {dvs : List V} (hd : RepL K (Al α hp) H dd dvs) : ∀ {ss : List S} {vs : List V}, SRepL K α hp H ss vs → SRepL K α hp H (ss ++ dd.map S.d) (vs ++ dvs)
  | _, _, .nil => by
    induction dd generalizing dvs with
    | nil => cases hd; exact .nil
    | cons d dd ih => obtain ⟨v, r, e, h, t⟩ := hd; subst e; exact .cons h (ih t)
  | _, _, .cons h t => .cons h (srepL_app hd t)
theorem sim_call {K : Frag} {W : WX} {n : Nat} {fr : Bool} {M : MF} {dvs : List V} {dd : List D} {t : TA} {Ma : MA} (hd : ∀ A H, RepL K A H dd dvs) (ha : SimA K W t Ma) : SimE K W (tCallSD (spM K n fr M) dvs (WE W) t) (mCall n M dd Ma) := by
  intro α s H σ w e R Xp m Q q qx
  refine ha α s H σ w e _ _ m _ (fun ss hp1 α1 H1 vs m1 e1 w1 r1 => ?_) qx
  have hl : vs.length = ss.length := r1.length.symm
  refine ⟨by rw [List.length_append, hl, ← (hd noA H).length]; exact m1.1, α1, hp1, _, R, Xp, w1, srepL_app (hd _ _) r1, m1.2, fun s' hp' α' H' v r e' w' sr _ => q s' hp' α' H' v r (e1.trans e') w' sr, fun x hp' α' H' c d' r e' w' xr => qx x hp' α' H' c d' r (e1.trans e') w' xr⟩
theorem sim_callM {K : Frag} {W : WX} {n : Nat} {M : MF} {dvs : List V} {dd : List D} {t : TA} {Ma : MA} (hd : ∀ A H, RepL K A H dd dvs) (ha : SimA K W t Ma) : SimE K W (tCallSD (spM K n true M) dvs (WE W) t) (mCallM n M dd Ma) := by
  intro α s H σ w e R Xp m Q q qx
  refine ha α s H σ w e _ _ m _ (fun ss hp1 α1 H1 vs m1 e1 w1 r1 => ?_) qx
  have hl : vs.length = ss.length := r1.length.symm
  refine ⟨by rw [List.length_append, hl, ← (hd noA H).length]; exact m1.1, α1, hp1, _, _, Xp, w1, srepL_app (hd _ _) r1, m1.2, fun s' hp' α' H' v r e' w' sr fs => ?_, fun x hp' α' H' c d' r e' w' xr => qx x hp' α' H' c d' r (e1.trans e') w' xr⟩
  cases s' with
  | mu _ => exact r.elim
  | d d =>
    cases d with
    | lst ds =>
      obtain ⟨a, us, ev, hn, ha', wb, rl⟩ := fs rfl ds rfl
      subst ev
      have bst : StepW α1 hp1 H1 { α' with ban := fun b => α'.ban b ∨ b = a } hp' H' := ⟨e'.step.keep, fun b z => by
        rcases z with z | z | z
        · exact e'.step.newA b (.inl z)
        · exact e'.step.newA b (.inr z)
        · subst z; exact .inr hn, e'.step.newM, al_sub, e'.step.stay⟩
      obtain ⟨α3, e3, w3, r3⟩ := ban_push (α2 := { α' with ban := fun b => α'.ban b ∨ b = a }) (o := .lst ds) w1 hn e'.pre.own (show (fun b => α'.ban b ∨ b = a) = _ by rw [e'.pre.ban]) wb bst e'.nw fun A' st => ⟨rfl, us, ha', RepL.mono st _ _ rl⟩
      exact q _ _ α3 H' _ r (e1.trans e3) w3 r3
    | _ => exact r.elim
/-! ### defs -/
def isLst : D → Bool
  | .lst _ => true
  | _ => false
def retP (n0 : Nat) (fr : Bool) (R : S → List O → Prop) (v : S) (hp' : List O) : Prop := match v with
  | .d d => (fr = true → isLst d = false) ∧ R (.d d) (hp'.take n0)
  | .mu n => if n < n0 then R (.mu n) (hp'.take n0) else match hp'[n]? with
    | some (.lst ds) => R (.d (.lst ds)) (hp'.take n0)
    | some (.dct l) => R (.mu n0) (hp'.take n0 ++ [.dct l])
    | some (.ins C fs) => R (.mu n0) (hp'.take n0 ++ [.ins C fs])
    | _ => False
def mDef (N : Nat) (fr : Bool) (Mb : MS) : MF := fun hp ss R Xp => Mb ⟨hp, ss.map some ++ List.replicate (N - ss.length) none, hp.length⟩
  { nx := fun s' => retP hp.length fr R (.d .non) s'.hp, bk := fun _ => False, ct := fun _ => False, rt := retP hp.length fr R, ex := fun x hp' => Xp x (hp'.take hp.length) }
def Mp_.cut (α : Mp_) (n : Nat) : Mp_ := { α with own := α.own.take n }
theorem take_get {τ : Type} {l : List τ} {n k : Nat} {x : τ} (h : (l.take n)[k]? = some x) : k < n ∧ l[k]? = some x := by
  have hk : k < (l.take n).length := (List.getElem?_eq_some_iff.mp h).1
  rw [List.length_take] at hk
  have hk' : k < n := by omega
  rw [List.getElem?_take_of_lt hk'] at h
  exact ⟨hk', h⟩
theorem WOk.cut {K : Frag} {α : Mp_} {hp : List O} {H : Hp} (w : WOk K α hp H) (n : Nat) : WOk K (α.cut n) (hp.take n) H ∧ (∀ a, Mt (α.cut n) (hp.take n) a → Mt α hp a) ∧ Step (Al α hp) (Al α hp) H (Al (α.cut n) (hp.take n)) (Al (α.cut n) (hp.take n)) H := by
  have mt : ∀ a, Mt (α.cut n) (hp.take n) a → Mt α hp a := fun a ⟨k, p, o, h1, h2, h3, h4⟩ => ⟨k, p, o, (take_get h1).2, (take_get h2).2, h3, h4⟩
  have al : ∀ a, Al (α.cut n) (hp.take n) a → Al α hp a := fun a h => h.imp (mt a) id
  have st : Step (Al α hp) (Al α hp) H (Al (α.cut n) (hp.take n)) (Al (α.cut n) (hp.take n)) H := ⟨fun _ _ h _ => h, fun a h => .inl (al a h), fun a h => .inl (al a h), fun _ h => h, fun _ o h => ⟨o, h⟩⟩
  exact ⟨⟨by show (α.own.take n).length = _; rw [List.length_take, List.length_take, w.len], fun k o p h1 h2 => (w.obj k o p (take_get h1).2 (take_get h2).2).mono st fun _ _ _ => rfl, fun k o p h1 h2 => w.one k o p (take_get h1).2 (take_get h2).2,
    fun j k o u p q h1 h2 h3 h4 h5 h6 => w.inj j k o u p q (take_get h1).2 (take_get h2).2 h3 (take_get h4).2 (take_get h5).2 h6, fun a h => ⟨(w.ban a h).1, fun z => (w.ban a h).2 (mt a z)⟩⟩, mt, st⟩
/-- where the i-th of the first n and the k-th stands -/
def mvIx (n k i : Nat) : Nat := if i < n then i else k
theorem mv_get {τ : Type} {l : List τ} {n k i : Nat} {x z : τ} (hl : n ≤ l.length) (hk : l[k]? = some x) (h : (l.take n ++ [x])[i]? = some z) : l[mvIx n k i]? = some z ∧ i ≤ n := by
  have hl2 : (l.take n).length = n := by rw [List.length_take]; omega
  unfold mvIx
  by_cases hi : i < n
  · rw [if_pos hi]
    rw [List.getElem?_append_left (by omega)] at h
    exact ⟨(take_get h).2, by omega⟩
  · rw [if_neg hi]
    have : i < (l.take n ++ [x]).length := (List.getElem?_eq_some_iff.mp h).1
    rw [List.length_append, hl2] at this
    simp at this
    have e : i = n := by omega
    subst e
    rw [List.getElem?_append_right (by omega), hl2] at h
    simp at h
    subst h
    exact ⟨hk, Nat.le_refl _⟩
def Mp_.mv (α : Mp_) (n : Nat) (p : Addr × List Addr) : Mp_ := { α with own := α.own.take n ++ [p] }
/-- the first n objects and one more -/
theorem WOk.mv {K : Frag} {α : Mp_} {hp : List O} {H : Hp} {p : Addr × List Addr} {o : O} {k : Nat} (w : WOk K α hp H) (n : Nat) (hn : n ≤ k) (hk : hp[k]? = some o) (hp' : α.own[k]? = some p) :
    WOk K (α.mv n p) (hp.take n ++ [o]) H ∧ (∀ a, Mt (α.mv n p) (hp.take n ++ [o]) a → Mt α hp a) := by
  have l1 : n ≤ hp.length := Nat.le_trans hn (Nat.le_of_lt (List.getElem?_eq_some_iff.mp hk).1)
  have l2 : n ≤ α.own.length := by rw [w.len]; exact l1
  have mt : ∀ a, Mt (α.mv n p) (hp.take n ++ [o]) a → Mt α hp a := fun a ⟨i, q, u, h1, h2, h3, h4⟩ => ⟨mvIx n k i, q, u, (mv_get l2 hp' h1).1, (mv_get l1 hk h2).1, h3, h4⟩
  have al : ∀ a, Al (α.mv n p) (hp.take n ++ [o]) a → Al α hp a := fun a h => h.imp (mt a) id
  have st : Step (Al α hp) (Al α hp) H (Al (α.mv n p) (hp.take n ++ [o])) (Al (α.mv n p) (hp.take n ++ [o])) H := ⟨fun _ _ h _ => h, fun a h => .inl (al a h), fun a h => .inl (al a h), fun _ h => h, fun _ o h => ⟨o, h⟩⟩
  refine ⟨⟨?_, fun i u q h1 h2 => (w.obj _ u q (mv_get l1 hk h1).1 (mv_get l2 hp' h2).1).mono st fun _ _ _ => rfl, fun i u q h1 h2 => w.one _ u q (mv_get l1 hk h1).1 (mv_get l2 hp' h2).1,
    fun i j u u' q q' h1 h2 h3 h4 h5 h6 h7 => w.inj _ _ u u' q q' (mv_get l1 hk h1).1 (mv_get l2 hp' h2).1 h3 (mv_get l1 hk h4).1 (mv_get l2 hp' h5).1 h6 ?_, fun a h => ⟨(w.ban a h).1, fun z => (w.ban a h).2 (mt a z)⟩⟩, mt⟩
  · show (α.own.take n ++ [p]).length = _
    simp only [List.length_append, List.length_take, List.length_cons, List.length_nil]
    rw [w.len]
  · have a1 := (mv_get l1 hk h1).2
    have a2 := (mv_get l1 hk h4).2
    unfold mvIx
    split <;> split <;> omega
theorem RepXF.mono {K : Frag} {A M A' M' : Av} {H H' : Hp} (s : Step A M H A' M' H') : ∀ {l : List (Str × D)} {ws : List (Str × V)}, RepXF K A H l ws → RepXF K A' H' l ws
  | [], _, h => h
  | (k, d) :: r, _, ⟨v, t, e, h, q⟩ => ⟨v, t, e, Rep.mono s d v h, RepXF.mono s q⟩
theorem XRep.cut {K : Frag} {A A' : Av} {H : Hp} {x : Exn} {c : Value} {dd : Option Addr} (s : Step A A H A' A' H) (r : XRep K A H x c dd) : XRep K A' H x c dd := by
  refine ⟨r.1, ?_⟩
  have r2 := r.2
  cases hx : x.fs with
  | nil => trivial
  | cons f fs =>
    rw [hx] at r2
    obtain ⟨a, ws, h1, h2, h3⟩ := r2
    exact ⟨a, ws, h1, h2, RepXF.mono s h3⟩
/-- what a def has done, its own objects left out -/
theorem cut_ext {K : Frag} {α α' : Mp_} {hp hp' : List O} {H H' : Hp} (w : WOk K α hp H) (pre : Pre0 ⟨α.own.map Prod.fst, H⟩ α' H') (w' : WOk K α' hp' H') (st : StepW α hp H α' hp' H') (hb : α'.ban = α.ban) : Ext α hp H (α'.cut hp.length) (hp'.take hp.length) H' := by
  obtain ⟨_, mt, st2⟩ := w'.cut hp.length
  refine ⟨⟨?_, hb⟩, ⟨st.keep, fun a h => st.newA a (h.imp (mt a) id), fun a h => st.newM a (mt a h), al_sub, st.stay⟩, fun n p h e => ?_⟩
  · obtain ⟨t, ht⟩ := pre.own
    refine ⟨[], ?_⟩
    show α.own.map Prod.fst ++ [] = (α'.own.take hp.length).map Prod.fst
    rw [List.map_take, ← ht, List.append_nil, List.take_left' (by rw [List.length_map, w.len])]
  · have := (take_get (show (α'.own.take hp.length)[n]? = some p from e)).1
    rw [w.len] at h
    omega
theorem sim_def {K : Frag} {N n : Nat} {fr : Bool} {t : TS} {Mb : MS} {Ns : List Str} {E : XK} (hN : Ns.length = N) (h : SimS K (fun c d _ H => E c d H) t Mb) {vs : List V} {H : Hp} {Q : VK} (p : spM K n fr (mDef N fr Mb) vs H Q E) :
    t { nx := fun _ H' => Q .non H', rt := Q } (L2.start Ns vs) H := by
  obtain ⟨hn, α, hp, ss, R, Xp, w, sr, m, q, qx⟩ := p
  have hl : ss.length = vs.length := sr.length
  have hs : EnvR K α hp H (ss.map some ++ List.replicate (N - ss.length) none) (L2.start Ns vs) := by
    refine ⟨by unfold L2.start; simp [hN, hl], fun i s hi => ?_⟩
    by_cases hi2 : i < (ss.map some).length
    · rw [List.getElem?_append_left hi2, List.getElem?_map] at hi
      cases g : ss[i]? with
      | none => rw [g] at hi; cases hi
      | some s' =>
        rw [g] at hi
        cases hi
        have : ∀ {ss : List S} {vs : List V} {i : Nat} {s : S}, SRepL K α hp H ss vs → ss[i]? = some s → ∃ v, vs[i]? = some v ∧ SRep K α hp H s v := by
          intro ss vs i s r
          induction r generalizing i with
          | nil => intro e; simp at e
          | @cons a b as bs h1 h2 ih =>
            intro e
            cases i with
            | zero => simp at e; subst e; exact ⟨b, rfl, h1⟩
            | succ i => exact ih (by simpa using e)
        obtain ⟨v, h1, h2⟩ := this sr g
        refine ⟨v, ?_, h2⟩
        unfold L2.start
        rw [List.getElem?_append_left (by rw [List.length_map]; exact (List.getElem?_eq_some_iff.mp h1).1), List.getElem?_map, h1]
        rfl
    · rw [List.getElem?_append_right (by omega)] at hi
      rw [List.getElem?_replicate] at hi
      split at hi <;> cases hi
  have hh : Here K ⟨α.own.map Prod.fst, H⟩ α ⟨hp, ss.map some ++ List.replicate (N - ss.length) none, hp.length⟩ H (L2.start Ns vs) :=
    ⟨⟨List.prefix_refl _, fun k p h z => (at_none (by rw [List.length_map] at h; exact h) z).elim, fun _ o h => ⟨o, h⟩⟩, by rw [List.length_map]; exact w.len, w, hs⟩
  have ret : ∀ v hp' α' H' u, retP hp.length fr R v hp' → Pre0 ⟨α.own.map Prod.fst, H⟩ α' H' → WOk K α' hp' H' → StepW α hp H α' hp' H' → α'.ban = α.ban → SRep K α' hp' H' v u → Q u H' := by
    intro v hp' α' H' u r pre w' st hb rv
    obtain ⟨w2, mt, st2⟩ := w'.cut hp.length
    have ex := cut_ext w pre w' st hb
    cases v with
    | d d =>
      refine q _ _ _ H' u r.2 ex w2 (Rep.mono st2 _ _ rv) fun hf ds ed => ?_
      cases ed
      exact absurd (r.1 hf) (by simp [isLst])
    | mu k =>
      obtain ⟨pk, h1, h2⟩ := rv
      simp only [retP] at r
      by_cases hk : k < hp.length
      · rw [if_pos hk] at r
        refine q _ _ _ H' u r ex w2 ⟨pk, ?_, h2⟩ fun _ ds ed => by cases ed
        show (α'.own.take hp.length)[k]? = _
        rw [List.getElem?_take_of_lt hk]
        exact h1
      · rw [if_neg hk] at r
        have mvd : ∀ o, hp'[k]? = some o → R (.mu hp.length) (hp'.take hp.length ++ [o]) → Q u H' := by
          intro o ho r
          obtain ⟨w3, mt3⟩ := w'.mv hp.length (by omega) ho h1
          have hn : H pk.1 = none := pre.nw k pk (by show (α.own.map Prod.fst).length ≤ k; rw [List.length_map, w.len]; omega) h1
          have hlt : hp.length ≤ α'.own.length := by
            have := (List.getElem?_eq_some_iff.mp h1).1
            omega
          refine q (.mu hp.length) _ (α'.mv hp.length pk) H' u r ⟨⟨?_, hb⟩, ⟨st.keep, fun a h => st.newA a (h.imp (mt3 a) id), fun a h => st.newM a (mt3 a h), al_sub, st.stay⟩, fun n p h e => ?_⟩ w3 ⟨pk, ?_, h2⟩ fun _ ds ed => by cases ed
          · obtain ⟨t, ht⟩ := pre.own
            refine ⟨[pk.1], ?_⟩
            show α.own.map Prod.fst ++ [pk.1] = (α'.own.take hp.length ++ [pk]).map Prod.fst
            rw [List.map_append, List.map_take, ← ht, List.take_left' (by rw [List.length_map, w.len])]
            rfl
          · have e' := (mv_get hlt h1 (show (α'.own.take hp.length ++ [pk])[n]? = some p from e))
            rw [w.len] at h
            have en : n = hp.length := by omega
            subst en
            have e2 := e'.1
            unfold mvIx at e2
            rw [if_neg (Nat.lt_irrefl _), h1] at e2
            cases e2
            exact hn
          · show (α'.own.take hp.length ++ [pk])[hp.length]? = _
            have hl3 : (α'.own.take hp.length).length = hp.length := by rw [List.length_take]; omega
            rw [List.getElem?_append_right (by omega), hl3]
            simp
        cases hgo : hp'[k]? with
        | none => rw [hgo] at r; exact r.elim
        | some o =>
        rw [hgo] at r
        cases o with
        | gone => exact r.elim
        | dct l => exact mvd _ hgo r
        | ins C fs => exact mvd _ hgo r
        | lst ds =>
        have g := lstAt_some hgo
        obtain ⟨us, h3, h4⟩ := w'.lstOf g h1
        have hn : H pk.1 = none := pre.nw k pk (by show (α.own.map Prod.fst).length ≤ k; rw [List.length_map, w.len]; omega) h1
        have na : ∀ b, (Mt (α'.cut hp.length) (hp'.take hp.length) b) → b ≠ pk.1 := by
          rintro b ⟨j, pj, o, g1, g2, g3, g4⟩ e
          obtain ⟨hj, g1⟩ := take_get g1
          obtain ⟨_, g2⟩ := take_get g2
          subst e
          exact w'.inj j k o _ pj pk g2 g1 g3 (lstAt_get g) h1 (fun z => by cases z) (by omega) _ g4 (.inl rfl)
        have nb : ¬ α'.ban pk.1 := fun z => (w'.ban _ z).2 ⟨k, pk, _, h1, lstAt_get g, (fun z => by cases z), .inl rfl⟩
        have nal : ¬ Al (α'.cut hp.length) (hp'.take hp.length) pk.1 := fun z => z.elim (fun z => na _ z rfl) nb
        have sub : ∀ a, Al { α'.cut hp.length with ban := fun b => α'.ban b ∨ b = pk.1 } (hp'.take hp.length) a → Al α' hp' a := fun a z => by
          rcases z with z | z | z
          · exact .inl (mt a z)
          · exact .inr z
          · subst z; exact .inl ⟨k, pk, _, h1, lstAt_get g, (fun z => by cases z), .inl rfl⟩
        have st3 : Step (Al α' hp') (Al α' hp') H' (Al { α'.cut hp.length with ban := fun b => α'.ban b ∨ b = pk.1 } (hp'.take hp.length)) (Al { α'.cut hp.length with ban := fun b => α'.ban b ∨ b = pk.1 } (hp'.take hp.length)) H' :=
          ⟨fun _ _ h _ => h, fun a h => .inl (sub a h), fun a h => .inl (sub a h), fun _ h => h, fun _ o h => ⟨o, h⟩⟩
        refine q _ _ _ H' u r ex w2 ⟨pk.1, us, h2, ⟨h3, nal⟩, RepL.mono st2 _ _ h4⟩ fun _ ds' ed => ?_
        cases ed
        refine ⟨pk.1, us, h2, hn, h3, ?_, RepL.mono st3 _ _ h4⟩
        refine ⟨w2.len, fun j o p g1 g2 => ?_, w2.one, w2.inj, fun a z => ?_⟩
        · exact (w'.obj j o p (take_get g1).2 (take_get (show (α'.own.take hp.length)[j]? = some p from g2)).2).mono st3 fun _ _ _ => rfl
        · rcases z with z | z
          · exact w2.ban a z
          · subst z; exact ⟨⟨_, h3⟩, fun z => na _ z rfl⟩
  refine h _ α _ H _ hh _ m _ ⟨fun s' α' H' σ' n i st hb => ?_, fun _ _ _ _ n _ _ _ => n.elim, fun _ _ _ _ n _ _ _ => n.elim, ret, fun x hp' α' H' c dd σ' r pre w' st hb xr => ?_⟩
  · exact ret (.d .non) s'.hp α' H' .non n i.pre i.ok st hb rfl
  · obtain ⟨w2, mt, st2⟩ := w'.cut hp.length
    exact qx x _ _ H' c dd r (cut_ext w pre w' st hb) w2 (xr.cut st2)
end Mp

set_option Elab.async false
set_option linter.all false
set_option maxRecDepth 100000
set_option maxHeartbeats 4000000
/-! Mp9: the rules by syntax. -/
namespace Mp
open PySem PySem.Spec PyProof.Rows L2

structure DE (X : Cx) (W : WX) (e : Expr) (t : TE) (M : ME) : Prop where
  p : PE X e t
  s : SimE X.K W t M
structure DT (X : Cx) (W : WX) (e : Expr) (t : TT) (M : MT) : Prop where
  p : PT X e t
  s : SimT X.K W t M
structure DW (X : Cx) (W : WX) (e : Expr) (t : TT) (M : MT) : Prop where
  p : PW X e t
  s : SimT X.K W t M
structure DA (X : Cx) (W : WX) (es : List Expr) (t : TA) (M : MA) : Prop where
  p : PA X es t
  s : SimA X.K W t M
structure DS (X : Cx) (W : WX) (st : Stmt) (t : TS) (M : MS) : Prop where
  p : L2.PS X st t
  s : SimS X.K W t M
structure DSs (X : Cx) (W : WX) (st : List Stmt) (t : TS) (M : MS) : Prop where
  p : PSs X st t
  s : SimS X.K W t M
structure DG (X : Cx) (e : Expr) (t : TG) (us : List Nat) (M : MG) : Prop where
  p : PG X e t
  s : SimG X.K t us M
structure DGs (X : Cx) (es : List Expr) (t : TGs) (us : List Nat) (M : List D → PS → (PS → Prop) → Prop) : Prop where
  p : PGs X es t
  s : SimGs X.K t us M
structure DI (X : Cx) (W : WX) (tg e : Expr) (t : TI) (M : MI) : Prop where
  p : PI X tg e t
  s : SimI X.K W t M
structure DO (X : Cx) (W : WX) (e : Option Expr) (t : TO) (M : MO) : Prop where
  p : PO X e t
  s : SimO X.K W t M
section
variable {X : Cx} {W : WX} {a b c e : Expr} {es : List Expr} {pos : Pos} {ta tb tc te : TE} {Ma Mb Mc Me : ME} {t u : TT} {Mt Mu : MT} {tA : TA} {MA' : MA}
/-! expressions -/
theorem de_var (i : Nat) {x : Str} (hN : X.N[i]? = some x := by rfl) (hv : Vis X.env.scope x := by first | exact Or.inl rfl | exact Or.inr (Or.inl rfl) | exact Or.inr (Or.inr rfl)) (hd : (x == ("__debug__" : Str)) = false := by decide) (hcd : (x == ("__classdict__" : Str)) = false := by decide) :
    DE X W (.Name x pos) (tVar i) (mVar i) := ⟨pe_var hN hv hd hcd, sim_var i⟩
theorem de_int {i : Int} {j : Nat} : DE X W (.Constant (.int i) j pos) (tC (.int i)) (mC (.int i)) := ⟨pe_int, sim_c fun _ _ => rfl⟩
theorem de_bl {i : Bool} {j : Nat} : DE X W (.Constant (.bool i) j pos) (tC (.bl i)) (mC (.bl i)) := ⟨pe_bl, sim_c fun _ _ => rfl⟩
theorem de_non {j : Nat} : DE X W (.Constant .none j pos) (tC .non) (mC .non) := ⟨pe_non, sim_c fun _ _ => rfl⟩
theorem de_str {i : Str} {j : Nat} : DE X W (.Constant (.str i) j pos) (tC (.str i)) (mC (.str i)) := ⟨pe_str, sim_c fun _ _ => rfl⟩
theorem de_glob {x : Str} {v : V} {u : Value} {d : D} (hg : Gl X x) (hm : X.mg x = some u) (r : RelV v u) (h : ∀ A H, Rep X.K A H d v) (hd : (x == ("__debug__" : Str)) = false := by decide) : DE X W (.Name x pos) (tC v) (mC d) := ⟨pe_glob hg hm r hd, sim_c h⟩
theorem de_ty {x : Str} {n : String} (hg : Gl X x) (hm : X.mg x = none) (hv : bootBuiltins x = some (.type n)) (hn : x ≠ "__name__" := by decide) (hd : (x == ("__debug__" : Str)) = false := by decide) : DE X W (.Name x pos) (tC (.ty n)) (mC (.ty n)) :=
  ⟨pe_bltn (v := .ty n) hg hm hv rfl hn hd, sim_c fun _ _ => rfl⟩
theorem de_op {op : Operator} {r : R2} {f : F2} (ho : OpR X (binaryOp op) r) (hr : Sim2 X.K r f) (ha : DE X W a ta Ma) (hb : DE X W b tb Mb) : DE X W (.BinOp a op b pos) (tOp r ta tb) (m2 f Ma Mb) := ⟨pe_op ho ha.p hb.p, sim_op hr ha.s hb.s⟩
theorem de_un {op : UnaryOp} {r : V → Hp → VK → Prop} {f : F1} (ho : UnR X (unaryOp op) r) (hr : Sim1 X.K r f) (ha : DE X W a ta Ma) : DE X W (.UnaryOp op a pos) (tUn r ta) (m1 f Ma) := ⟨pe_un ho ha.p, sim_un hr ha.s⟩
theorem de_cmp {op : CmpOp} {r : R2} {f : F2} (ho : OpR X (compareOp op) r) (hr : Sim2 X.K r f) (ha : DE X W a ta Ma) (hb : DE X W b tb Mb) (hm : behindInMarks op b = false) : DE X W (.Compare a [op] [b] pos) (tOp r ta tb) (m2 f Ma Mb) := ⟨pe_cmpR ho ha.p hb.p hm, sim_op hr ha.s hb.s⟩
theorem dt_cmp {op : CmpOp} {r : R2} {f : F2} (ho : OpR X (compareOp op) r) (hr : Sim2 X.K r f) (ha : DE X W a ta Ma) (hb : DE X W b tb Mb) (hm : behindInMarks op b = false) : DT X W (.Compare a [op] [b] pos) (tTest (tOp r ta tb)) (mTest (m2 f Ma Mb)) := ⟨pt_cmpR ho ha.p hb.p hm, sim_test (sim_op hr ha.s hb.s)⟩
theorem de_chain {op op' : CmpOp} {r r' : R2} {f g : F2} (ho : OpR X (compareOp op) r) (hr : Sim2 X.K r f) (ho' : OpR X (compareOp op') r') (hr' : Sim2 X.K r' g) (ha : DE X W a ta Ma) (hb : DE X W b tb Mb) (hc : DE X W c tc Mc) (hm : lastMarks [op, op'] [b, c] = false := by with_unfolding_all rfl) :
    DE X W (.Compare a [op, op'] [b, c] pos) (tChain r r' ta tb tc) (mChain f g Ma Mb Mc) := ⟨pe_chain ho ho' ha.p hb.p hc.p hm, sim_chain hr hr' ha.s hb.s hc.s⟩
theorem dt_chain {op op' : CmpOp} {r r' : R2} {f g : F2} (ho : OpR X (compareOp op) r) (hr : Sim2 X.K r f) (ho' : OpR X (compareOp op') r') (hr' : Sim2 X.K r' g) (ha : DE X W a ta Ma) (hb : DE X W b tb Mb) (hc : DE X W c tc Mc) (hm : lastMarks [op, op'] [b, c] = false := by with_unfolding_all rfl) :
    DT X W (.Compare a [op, op'] [b, c] pos) (tTest (tChain r r' ta tb tc)) (mTest (mChain f g Ma Mb Mc)) := ⟨pt_chain ho ho' ha.p hb.p hc.p hm, sim_test (sim_chain hr hr' ha.s hb.s hc.s)⟩
theorem dt_val (ha : DE X W a ta Ma) (he : ∀ whole, isTrue a X.env whole = (do let v ← whole; standAt a.pos; holding [v] (truthy v)) := by intro _; rfl) : DT X W a (tB ta) (mTest Ma) := ⟨pt_val ha.p he, sim_tB ha.s⟩
theorem dw_and1 (ha : DT X W a t Mt) : DW X W (.BoolOp .And [a] pos) t Mt := ⟨pw_and1 ha.p, ha.s⟩
theorem dw_or1 (ha : DT X W a t Mt) : DW X W (.BoolOp .Or [a] pos) t Mt := ⟨pw_or1 ha.p, ha.s⟩
theorem dw_and (ha : DT X W a t Mt) (hb : DW X W (.BoolOp .And (b :: es) pos) u Mu) : DW X W (.BoolOp .And (a :: b :: es) pos) (tAnd t u) (mAnd Mt Mu) := ⟨pw_and ha.p hb.p, sim_and ha.s hb.s⟩
theorem dw_or (ha : DT X W a t Mt) (hb : DW X W (.BoolOp .Or (b :: es) pos) u Mu) : DW X W (.BoolOp .Or (a :: b :: es) pos) (tOr t u) (mOr Mt Mu) := ⟨pw_or ha.p hb.p, sim_or ha.s hb.s⟩
theorem dt_w (h : DW X W a t Mt) : DT X W a t Mt := ⟨PW.pt h.p, h.s⟩
theorem dt_not (ha : DT X W a t Mt) : DT X W (.UnaryOp .Not a pos) (tNot t) (mNot Mt) := ⟨pt_not ha.p, sim_not ha.s⟩
theorem de_one {op : BoolOp} (h : DE X W a ta Ma) : DE X W (.BoolOp op [a] pos) ta Ma := ⟨pe_one h.p, h.s⟩
theorem de_and (ha : DE X W a ta Ma) (hb : DE X W (.BoolOp .And (b :: es) pos) tb Mb) : DE X W (.BoolOp .And (a :: b :: es) pos) (tAndV ta tb) (mAndV Ma Mb) := ⟨pe_and ha.p hb.p, sim_andV ha.s hb.s⟩
theorem de_or (ha : DE X W a ta Ma) (hb : DE X W (.BoolOp .Or (b :: es) pos) tb Mb) : DE X W (.BoolOp .Or (a :: b :: es) pos) (tOrV ta tb) (mOrV Ma Mb) := ⟨pe_or ha.p hb.p, sim_orV ha.s hb.s⟩
theorem de_not (ha : DE X W a ta Ma) : DE X W (.UnaryOp .Not a pos) (tNotV ta) (mNotV Ma) := ⟨pe_not ha.p, sim_notV ha.s⟩
theorem de_if (hc : DT X W c t Mt) (ha : DE X W a ta Ma) (hb : DE X W b tb Mb) : DE X W (.IfExp c a b pos) (tIf t ta tb) (mIf Mt Ma Mb) := ⟨pe_ifExp hc.p ha.p hb.p, sim_if hc.s ha.s hb.s⟩
theorem da_nil : DA X W [] tNil mNil := ⟨pa_nil, sim_nil⟩
theorem da_cons (ha : DE X W e te Me) (hr : DA X W es tA MA') (hs : starEach (e :: es) X.env = (false, eval e X.env) :: starEach es X.env := by rfl) : DA X W (e :: es) (tCons te tA) (mCons Me MA') := ⟨pa_cons ha.p hr.p hs, sim_cons ha.s hr.s⟩
theorem de_tup {x1 : Nat} (h : DA X W es tA MA') : DE X W (.Tuple es x1 pos) (tTup tA) (mTup MA') := ⟨pe_tup h.p, sim_tup h.s⟩
theorem de_lst (h : DA X W es tA MA') : DE X W (.List es pos) (tLst tA) (mLst MA') := ⟨pe_lst h.p, sim_lst h.s⟩
theorem de_lstM (h : DA X W es tA MA') : DE X W (.List es pos) (tLst tA) (mLstM MA') := ⟨pe_lst h.p, sim_lstM h.s⟩
theorem de_callB {x : Str} {id : String} {r : List V → Hp → VK → Prop} {f : FN} {p : Pos} (hc : CallR X (.builtin id) r) (hr : SimN X.K r f) (hg : Gl X x) (hm : X.mg x = none) (hv : bootBuiltins x = some (.builtin id)) (ha : DA X W (e :: es) tA MA') (hn : x ≠ "__name__" := by decide) (hdb : (x == ("__debug__" : Str)) = false := by decide)
    (he : starEach (e :: es) X.env = (false, eval e X.env) :: starEach es X.env := by rfl) (hpl : (backTo pos (starEach es X.env)).any (·.1) = false := by rfl) : DE X W (.Call (.Name x p) (e :: es) [] pos) (tCB r tA) (mN f MA') :=
  ⟨pe_callB hc hg hm hv ha.p hn hdb he hpl, sim_cb hr ha.s⟩
theorem de_callTy {x : Str} {T : String} {r : List V → Hp → VK → Prop} {f : FN} {p : Pos} (hc : CallR X (.type T) r) (hr : SimN X.K r f) (hg : Gl X x) (hm : X.mg x = none) (hv : bootBuiltins x = some (.type T)) (ha : DA X W (e :: es) tA MA') (hn : x ≠ "__name__" := by decide) (hdb : (x == ("__debug__" : Str)) = false := by decide)
    (he : starEach (e :: es) X.env = (false, eval e X.env) :: starEach es X.env := by rfl) (hpl : (backTo pos (starEach es X.env)).any (·.1) = false := by rfl) : DE X W (.Call (.Name x p) (e :: es) [] pos) (tCB r tA) (mN f MA') :=
  ⟨pe_callTy hc hg hm hv ha.p hn hdb he hpl, sim_cb hr ha.s⟩
theorem de_ix (K : Frag) (ha : DE X W a ta Ma) (hb : DE X W b tb Mb) (hs : PlainIx b := by exact fun _ _ => rfl) (hK : X.K = K := by rfl) : DE X W (.Subscript a b pos) (tOp (rIx K) ta tb) (m2 fIx Ma Mb) := by subst hK; exact ⟨pe_ix ix_seq ha.p hb.p hs, sim_op sim_ix ha.s hb.s⟩
theorem de_dget (hu : X.A.units + 1 < cLine) (ha : DE X W a ta Ma) (hb : DE X W b tb Mb) (hs : NoSl b := by exact fun _ _ => rfl) : DE X W (.Subscript a b pos) (tDGet ta tb) (mDGet Ma Mb) := ⟨pe_dget hu ha.p hb.p hs, sim_dget ha.s hb.s⟩
theorem do_none : DO X W none tNoPart moNone := ⟨po_none, simo_none⟩
theorem do_some (ha : DE X W a ta Ma) : DO X W (some a) (tPart ta) (moSome Ma) := ⟨po_some ha.p, simo_some ha.s⟩
theorem de_sl (K : Frag) {lo hi : Option Expr} {tl th : TO} {Ml Mh : MO} {p2 : Pos} (ha : DE X W a ta Ma) (hl : DO X W lo tl Ml) (hh : DO X W hi th Mh) (hK : X.K = K := by rfl) : DE X W (.Subscript a (.Slice lo hi none p2) pos) (tSl (rSlX K) ta tl th) (mSl Ma Ml Mh) := by subst hK; exact ⟨pe_slice sl_x ha.p hl.p hh.p, sim_sl ha.s hl.s hh.s⟩
/-! calls -/
theorem de_call (K : Frag) {x : Str} {k n : Nat} {f : Addr} {fd : FuncData} {ps : List Str} {fr : Bool} {M : MF} {ds : List Value} {dvs : List V} {dd : List D} {p : Pos} (F : FnOk X.prog X.w K X.mg X.base (L2.CX X.prog X.w) k f fd ps (spM K n fr M)) (tk : Takes X W) (hr : Room k X.A) (hg : Gl X x) (hm : X.mg x = some (.ref f))
    (hk : PySem.W.keepIn K (.ref f) = true) (hb : Binds K fd ps ds) (hd : Vals dvs ds) (hdd : ∀ A H, RepL K A H dd dvs) (ha : DA X W (e :: es) tA MA') (hdb : (x == ("__debug__" : Str)) = false := by decide)
    (he : starEach (e :: es) X.env = (false, eval e X.env) :: starEach es X.env := by rfl) (hpl : (backTo pos (starEach es X.env)).any (·.1) = false := by rfl) (hK : X.K = K := by rfl) :
    DE X W (.Call (.Name x p) (e :: es) [] pos) (tCallSD (spM K n fr M) dvs (WE W) tA) (mCall n M dd MA') := by subst hK; exact ⟨pe_callSD F hr hg hm hk hb hd (fun σ => passAt tk σ) ha.p hdb he hpl, sim_call hdd ha.s⟩
theorem de_callM (K : Frag) {x : Str} {k n : Nat} {f : Addr} {fd : FuncData} {ps : List Str} {M : MF} {ds : List Value} {dvs : List V} {dd : List D} {p : Pos} (F : FnOk X.prog X.w K X.mg X.base (L2.CX X.prog X.w) k f fd ps (spM K n true M)) (tk : Takes X W) (hr : Room k X.A) (hg : Gl X x) (hm : X.mg x = some (.ref f))
    (hk : PySem.W.keepIn K (.ref f) = true) (hb : Binds K fd ps ds) (hd : Vals dvs ds) (hdd : ∀ A H, RepL K A H dd dvs) (ha : DA X W (e :: es) tA MA') (hdb : (x == ("__debug__" : Str)) = false := by decide)
    (he : starEach (e :: es) X.env = (false, eval e X.env) :: starEach es X.env := by rfl) (hpl : (backTo pos (starEach es X.env)).any (·.1) = false := by rfl) (hK : X.K = K := by rfl) :
    DE X W (.Call (.Name x p) (e :: es) [] pos) (tCallSD (spM K n true M) dvs (WE W) tA) (mCallM n M dd MA') := by subst hK; exact ⟨pe_callSD F hr hg hm hk hb hd (fun σ => passAt tk σ) ha.p hdb he hpl, sim_callM hdd ha.s⟩
/-! methods of lists -/
variable {o : Expr} {to : TE} {Mo : ME} {m : Str} {id : String} {apos : Pos}
theorem de_bm (K : Frag) {x : Bool} {r : V → List V → Hp → VK → Prop} {f : FM} (pa : PlainAttrs "list") (slot : Slot "list" m id) (hty : typeOf (.builtin id) = pure (.type "method_descriptor")) (hm : MtR X id r) (hr : SimM K x r f) (ho : DE X W o to Mo) (ha : DA X W (e :: es) tA MA')
    (hbase : attributeBase o m X.env (eval o X.env) = eval o X.env := by rfl)
    (hfew : ((backTo pos (starEach (e :: es) X.env)).all (fun x => !x.1) && (backToKw pos (keywordEach [] X.env)).all (fun x => x.1.isSome) && decide ((e :: es).length + ([] : List Keyword).length + (if ([] : List Keyword).isEmpty then 0 else 1) < 30)) = true := by rfl)
    (hline : (apos.endLine == pos.line) = true := by rfl) (hs : starEach (e :: es) X.env = (false, eval e X.env) :: starEach es X.env := by rfl) (hp : (backTo pos (starEach es X.env)).any (·.1) = false := by rfl) (hK : X.K = K := by rfl) :
    DE X W (.Call (.Attribute o m apos) (e :: es) [] pos) (tBM K "list" r to tA) (mMeth x f Mo MA') := by subst hK; exact ⟨pe_bm pa slot hty hm ho.p ha.p hbase hfew hline hs hp, sim_meth hr ho.s ha.s⟩
theorem de_bm0 (K : Frag) {r : V → List V → Hp → VK → Prop} {f : FM} (pa : PlainAttrs "list") (slot : Slot "list" m id) (hty : typeOf (.builtin id) = pure (.type "method_descriptor")) (hm : MtR X id r) (hr : SimM K false r f) (ho : DE X W o to Mo)
    (hbase : attributeBase o m X.env (eval o X.env) = eval o X.env := by rfl) (hline : (apos.endLine == pos.line) = true := by rfl) (hK : X.K = K := by rfl) :
    DE X W (.Call (.Attribute o m apos) [] [] pos) (tBM0 K "list" r to) (mMeth false f Mo mNil) := by subst hK; exact ⟨pe_bm0 pa slot hty hm ho.p hbase hline, sim_meth0 hr ho.s⟩
/-! dicts displayed -/
inductive DPs (X : Cx) (W : WX) (pos : Pos) : List (Option Expr) → List Expr → List (TE × TE) → List (ME × ME) → Prop where
  | nil : DPs X W pos [] [] [] []
  | cons {k v : Expr} {ks : List (Option Expr)} {vs : List Expr} {tk tv : TE} {Mk Mv : ME} {tr : List (TE × TE)} {mr : List (ME × ME)} (h1 : DE X W k tk Mk) (h2 : DE X W v tv Mv) (h3 : DPs X W pos ks vs tr mr) : DPs X W pos (some k :: ks) (v :: vs) ((tk, tv) :: tr) ((Mk, Mv) :: mr)
theorem DPs.p {ks : List (Option Expr)} {vs : List Expr} {tr : List (TE × TE)} {mr : List (ME × ME)} (h : DPs X W pos ks vs tr mr) : PPs X pos ks vs tr := by
  induction h with
  | nil => exact pps_nil
  | cons h1 h2 h3 ih => exact pps_cons h1.p h2.p ih
theorem DPs.s {ks : List (Option Expr)} {vs : List Expr} {tr : List (TE × TE)} {mr : List (ME × ME)} (h : DPs X W pos ks vs tr mr) : SimPs X.K W tr mr := by
  induction h with
  | nil => exact .nil
  | cons h1 h2 h3 ih => exact .cons h1.s h2.s ih
theorem de_disp {ks : List (Option Expr)} {vs : List Expr} {tr : List (TE × TE)} {mr : List (ME × ME)} (h : DPs X W pos ks vs tr mr) (hall : ks.all (·.isSome) = true := by rfl) (hl : ks.length = vs.length := by rfl) (h0 : ks ≠ [] := by intro z; cases z) (h15 : ks.length ≤ 15 := by decide) :
    DE X W (.Dict ks vs pos) (tDisp tr) (mDisp mr) := ⟨pe_disp h.p hall hl h0 h15, sim_disp h.s⟩
/-! targets, walks -/
theorem dg_name (i : Nat) {x : Str} (hN : X.N.Nodup) (hi : X.N[i]? = some x := by rfl) (hx : Loc X.env.scope x := by first | exact Or.inl rfl | exact Or.inr rfl) (hf : X.fn x = true ∨ X.env.scope.names.lookup x = some .local := by first | exact .inl rfl | exact .inr rfl) : DG X (.Name x pos) (gName i) [i] (mgName i) := ⟨pg_name hN hi hx hf, simg_name i⟩
theorem dgs_nil : DGs X [] gNil [] mgsNil := ⟨pgs_nil, simgs_nil⟩
theorem di_sq (K : Frag) {tg : Expr} (h : DE X W e te Me) (hK : X.K = K := by rfl) : DI X W tg e (iSq K te) (miSq Me) := by subst hK; exact ⟨pi_sq h.p, simi_sq h.s⟩
theorem di_r1 {tg : Expr} {p : Pos} (hg : Gl X "range") (hm : X.mg "range" = none) (ha : DA X W [a] tA MA') (hs : starEach [a] X.env = [(false, eval a X.env)] := by rfl) : DI X W tg (.Call (.Name "range" p) [a] [] pos) (iRng1 tA) (miRng f1R MA') := ⟨pi_range1 hg hm ha.p hs, simi_r1 ha.s⟩
theorem di_r2 {tg : Expr} {p : Pos} (hg : Gl X "range") (hm : X.mg "range" = none) (ha : DA X W [a, b] tA MA') (hs : starEach [a, b] X.env = [(false, eval a X.env), (false, eval b X.env)] := by rfl) (hs2 : starEach [b] X.env = [(false, eval b X.env)] := by rfl) : DI X W tg (.Call (.Name "range" p) [a, b] [] pos) (iRng2 tA) (miRng f2R MA') := ⟨pi_range2 hg hm ha.p hs hs2, simi_r2 ha.s⟩
/-! comprehensions -/
abbrev W00 : WX := fun _ _ _ _ => False
theorem de_lc {elt tg iter : Expr} {ifs : List Expr} {scope : Scope} {wi : TI} {g : TG} {us : List Nat} {I : MI} {G : MG} {vs : List Nat} (own : List (Str × Nat)) (ev : own.map (·.2) = vs) (hc : X.calm = true) (hN : X.N.Nodup) (hi : DI X W tg iter wi I) (ok : BlkOk X.N X.env.scope scope own)
    (hg : ∀ (s : Shared) (H : Hp) (C : Addr) (cl : List (Str × Addr)) (fp : List Addr), DG (X.blk s H scope (compEnvC scope cl C X.env) fp) tg g us G) (ht : ∀ (s : Shared) (H : Hp) (C : Addr) (cl : List (Str × Addr)) (fp : List Addr), PTs (X.blk s H scope (compEnvC scope cl C X.env) fp) ifs t)
    (hts : SimT X.K W00 t Mt) (he : ∀ (s : Shared) (H : Hp) (C : Addr) (cl : List (Str × Addr)) (fp : List Addr), DE (X.blk s H scope (compEnvC scope cl C X.env) fp) W00 elt te Me) (hu : ∀ u ∈ us, u ∈ own.map (·.2)) (hs : ∀ x, foldedSetIterable iter X.env x = pure x := by intro _; rfl) :
    DE X W (.ListComp elt [⟨tg, iter, ifs, 0⟩] scope pos) (tLc wi g t te vs) (mLc I G Mt Me vs) :=
  by subst ev; exact ⟨pe_lc hc hN hi.p ok (fun s H C cl fp => (hg s H C cl fp).p) ht (fun s H C cl fp => (he s H C cl fp).p) hs, sim_lc hi.s (hg X.s_0 X.H_0 0 [] []).s hu hts (he X.s_0 X.H_0 0 [] []).s⟩
theorem de_lcM {elt tg iter : Expr} {ifs : List Expr} {scope : Scope} {wi : TI} {g : TG} {us : List Nat} {I : MI} {G : MG} {vs : List Nat} (own : List (Str × Nat)) (ev : own.map (·.2) = vs) (hc : X.calm = true) (hN : X.N.Nodup) (hi : DI X W tg iter wi I) (ok : BlkOk X.N X.env.scope scope own)
    (hg : ∀ (s : Shared) (H : Hp) (C : Addr) (cl : List (Str × Addr)) (fp : List Addr), DG (X.blk s H scope (compEnvC scope cl C X.env) fp) tg g us G) (ht : ∀ (s : Shared) (H : Hp) (C : Addr) (cl : List (Str × Addr)) (fp : List Addr), PTs (X.blk s H scope (compEnvC scope cl C X.env) fp) ifs t)
    (hts : SimT X.K W00 t Mt) (he : ∀ (s : Shared) (H : Hp) (C : Addr) (cl : List (Str × Addr)) (fp : List Addr), DE (X.blk s H scope (compEnvC scope cl C X.env) fp) W00 elt te Me) (hu : ∀ u ∈ us, u ∈ own.map (·.2)) (hs : ∀ x, foldedSetIterable iter X.env x = pure x := by intro _; rfl) :
    DE X W (.ListComp elt [⟨tg, iter, ifs, 0⟩] scope pos) (tLc wi g t te vs) (mLcM I G Mt Me vs) :=
  by subst ev; exact ⟨pe_lc hc hN hi.p ok (fun s H C cl fp => (hg s H C cl fp).p) ht (fun s H C cl fp => (he s H C cl fp).p) hs, sim_lcM hi.s (hg X.s_0 X.H_0 0 [] []).s hu hts (he X.s_0 X.H_0 0 [] []).s⟩
def mYes : MT := fun s R _ => R true s.hp
theorem sim_yes {K : Frag} : SimT K W tYes mYes := fun α s H σ w e R Xp m Q q _ => q _ _ α H m Ext.refl w
/-! statements -/
variable {st : Stmt} {rest : List Stmt} {ts us : TS} {Ms Ms' : MS}
theorem dss_nil : DSs X W [] tNext mNext := ⟨pss_nil, sim_next⟩
theorem dss_one (h : DS X W st ts Ms) : DSs X W [st] ts Ms := ⟨pss_one h.p, h.s⟩
theorem dss_cons (h : DS X W st ts Ms) (hr : DSs X W rest us Ms') : DSs X W (st :: rest) (tSeq ts us) (mSeq Ms Ms') := ⟨pss_cons h.p hr.p, sim_seq h.s hr.s⟩
theorem ds_pass : DS X W (.Pass pos) tNext mNext := ⟨ps_pass, sim_next⟩
theorem ds_break : DS X W (.Break pos) tBreak mBreak := ⟨ps_break, sim_break⟩
theorem ds_continue : DS X W (.Continue pos) tCont mCont := ⟨ps_continue, sim_cont⟩
theorem ds_ret (h : DE X W e te Me) : DS X W (.Return (some e) pos) (tRet te) (mRet Me) := ⟨ps_ret h.p, sim_ret h.s⟩
theorem ds_retN : DS X W (.Return none pos) tRetN mRetN := ⟨ps_retN, sim_retN⟩
theorem ds_expr (h : DE X W e te Me) (hs : swapsWith e none pos.line X.env = pure false := by rfl) : DS X W (.Expr e pos) (tDrop te) (mDrop Me) := ⟨ps_expr h.p hs, sim_drop h.s⟩
theorem ds_asg {tg : Expr} {g : TG} {uu : List Nat} {G : MG} (h : DE X W e te Me) (hg : DG X tg g uu G) (hs : swapsWithSole [tg] e pos.line X.env = pure false := by rfl) (hw : swappedStores [tg] e X.env = pure none := by rfl) (h1 : (assignEach [tg] X.env).map (·.2) = [assign tg X.env] := by rfl) :
    DS X W (.Assign [tg] e pos) (tAsg te g) (mAsg Me G) := ⟨ps_asg h.p hg.p hs hw h1, sim_asg h.s hg.s⟩
theorem ds_set (i : Nat) {x : Str} {p' : Pos} (hN : X.N.Nodup) (h : DE X W e te Me) (hi : X.N[i]? = some x := by rfl) (hx : Loc X.env.scope x := by first | exact Or.inl rfl | exact Or.inr rfl) (hs : swapsWith e (some (.Name x p')) pos.line X.env = pure false := by rfl)
    (hf : X.fn x = true ∨ X.env.scope.names.lookup x = some .local := by first | exact .inl rfl | exact .inr rfl) : DS X W (.Assign [.Name x p'] e pos) (tAsg te (gName i)) (mAsg Me (mgName i)) := ⟨ps_set hN hi hx h.p hs hf, sim_asg h.s (simg_name i)⟩
theorem ds_aug (i : Nat) {x : Str} {p' : Pos} {op : Operator} {f : Int → Int → Int} (hN : X.N.Nodup) (h : DE X W e te Me) (ho : PIp X op (ipI f)) (hi : X.N[i]? = some x := by rfl) (hx : Loc X.env.scope x := by first | exact Or.inl rfl | exact Or.inr rfl)
    (hf : X.fn x = true ∨ X.env.scope.names.lookup x = some .local := by first | exact .inl rfl | exact .inr rfl) : DS X W (.AugAssign (.Name x p') op e pos) (tAug i te (ipI f)) (mAug i f Me) := ⟨ps_aug hN hi hx h.p ho hf, sim_aug i f h.s⟩
theorem ds_if {xs ys : List Stmt} {t1 t2 : TS} {M1 M2 : MS} (hc : DT X W c t Mt) (ha : DSs X W xs t1 M1) (hb : DSs X W ys t2 M2) : DS X W (.If c xs ys pos) (tIfS t t1 t2) (mIfS Mt M1 M2) := ⟨ps_if hc.p ha.p hb.p, sim_ifS hc.s ha.s hb.s⟩
theorem ds_while {xs : List Stmt} {t1 : TS} {M1 : MS} (hp : PassesOwn (model X.prog X.w) X.A X.env X.xe) (hc : DT X W c t Mt) (hb : DSs X W xs t1 M1) : DS X W (.While c xs [] pos) (tWhile t t1) (mWhile Mt M1) := ⟨ps_while hp hc.p hb.p, sim_while hc.s hb.s⟩
theorem ds_for {tg iter : Expr} {xs : List Stmt} {t1 : TS} {M1 : MS} {wi : TI} {g : TG} {uu : List Nat} {I : MI} {G : MG} (hp : PassesOwn (model X.prog X.w) X.A X.env X.xe) (hc : X.calm = true) (hi : DI X W tg iter wi I) (hg : DG X tg g uu G) (hb : DSs X W xs t1 M1)
    (hs : ∀ x, foldedSetIterable iter X.env x = pure x := by intro _; rfl) : DS X W (.For tg iter xs [] pos) (tFor wi g t1) (mFor I G M1) := ⟨ps_for hp hc hi.p hg.p hb.p hs, sim_for hi.s hg.s hb.s⟩
theorem ds_dput {p' : Pos} (hu : X.A.units + 1 < cLine) (ho : DE X W o to Mo) (hi : DE X W a ta Ma) (hv : DE X W e te Me) (hs : swapsWith e (some (.Subscript o a p')) pos.line X.env = pure false := by rfl) : DS X W (.Assign [.Subscript o a p'] e pos) (sDPut to ta te) (mDPut Mo Ma Me) := ⟨ps_dput hu ho.p hi.p hv.p hs, sim_dput ho.s hi.s hv.s⟩
theorem dg_sub (ho : DE X W o to Mo) (hi : DE X W a ta Ma) (hs : assign (.Subscript o a pos) X.env = assign (.Subscript o a pos) X.env := by rfl) (h : PG X (.Subscript o a pos) (gSub to ta rSetL)) : DG X (.Subscript o a pos) (gSub to ta rSetL) [] (mgSub Mo Ma) := ⟨h, simg_sub ho.s hi.s⟩
/-- y = [elt for ..] -/
theorem ds_setLc (i : Nat) {y : Str} {py spos : Pos} {elt tg iter : Expr} {ifs : List Expr} {scope : Scope} {wi : TI} {g : TG} {uu : List Nat} {I : MI} {G : MG} {vs : List Nat} (own : List (Str × Nat)) (ev : own.map (·.2) = vs) (hc : X.calm = true) (hN : X.N.Nodup) (hi : DI X W tg iter wi I) (ok : BlkOk X.N X.env.scope scope own)
    (hg : ∀ (s : Shared) (H : Hp) (C : Addr) (cl : List (Str × Addr)) (fp : List Addr), DG (X.blk s H scope (compEnvC scope cl C X.env) fp) tg g uu G) (ht : ∀ (s : Shared) (H : Hp) (C : Addr) (cl : List (Str × Addr)) (fp : List Addr), PTs (X.blk s H scope (compEnvC scope cl C X.env) fp) ifs t)
    (hts : SimT X.K W00 t Mt) (he : ∀ (s : Shared) (H : Hp) (C : Addr) (cl : List (Str × Addr)) (fp : List Addr), DE (X.blk s H scope (compEnvC scope cl C X.env) fp) W00 elt te Me) (hu : ∀ u ∈ uu, u ∈ own.map (·.2))
    (hyl : X.env.scope.names.lookup y = some .local) (hsw : swapsWith (.ListComp elt [⟨tg, iter, ifs, 0⟩] scope pos) (some (.Name y py)) spos.line X.env = pure true) (hs : ∀ x, foldedSetIterable iter X.env x = pure x := by intro _; rfl) (hy : X.N[i]? = some y := by rfl) :
    DS X W (.Assign [.Name y py] (.ListComp elt [⟨tg, iter, ifs, 0⟩] scope pos) spos) (tAsg (tLc wi g t te vs) (gName i)) (mAsg (mLc I G Mt Me vs) (mgName i)) :=
  by subst ev; exact ⟨ps_setLc hc hN hy hyl hsw hi.p ok (fun s H C cl fp => (hg s H C cl fp).p) ht (fun s H C cl fp => (he s H C cl fp).p) hs, sim_asg (sim_lc hi.s (hg X.s_0 X.H_0 0 [] []).s hu hts (he X.s_0 X.H_0 0 [] []).s) (simg_name i)⟩
theorem ds_setLcM (i : Nat) {y : Str} {py spos : Pos} {elt tg iter : Expr} {ifs : List Expr} {scope : Scope} {wi : TI} {g : TG} {uu : List Nat} {I : MI} {G : MG} {vs : List Nat} (own : List (Str × Nat)) (ev : own.map (·.2) = vs) (hc : X.calm = true) (hN : X.N.Nodup) (hi : DI X W tg iter wi I) (ok : BlkOk X.N X.env.scope scope own)
    (hg : ∀ (s : Shared) (H : Hp) (C : Addr) (cl : List (Str × Addr)) (fp : List Addr), DG (X.blk s H scope (compEnvC scope cl C X.env) fp) tg g uu G) (ht : ∀ (s : Shared) (H : Hp) (C : Addr) (cl : List (Str × Addr)) (fp : List Addr), PTs (X.blk s H scope (compEnvC scope cl C X.env) fp) ifs t)
    (hts : SimT X.K W00 t Mt) (he : ∀ (s : Shared) (H : Hp) (C : Addr) (cl : List (Str × Addr)) (fp : List Addr), DE (X.blk s H scope (compEnvC scope cl C X.env) fp) W00 elt te Me) (hu : ∀ u ∈ uu, u ∈ own.map (·.2))
    (hyl : X.env.scope.names.lookup y = some .local) (hsw : swapsWith (.ListComp elt [⟨tg, iter, ifs, 0⟩] scope pos) (some (.Name y py)) spos.line X.env = pure true) (hs : ∀ x, foldedSetIterable iter X.env x = pure x := by intro _; rfl) (hy : X.N[i]? = some y := by rfl) :
    DS X W (.Assign [.Name y py] (.ListComp elt [⟨tg, iter, ifs, 0⟩] scope pos) spos) (tAsg (tLc wi g t te vs) (gName i)) (mAsg (mLcM I G Mt Me vs) (mgName i)) :=
  by subst ev; exact ⟨ps_setLc hc hN hy hyl hsw hi.p ok (fun s H C cl fp => (hg s H C cl fp).p) ht (fun s H C cl fp => (he s H C cl fp).p) hs, sim_asg (sim_lcM hi.s (hg X.s_0 X.H_0 0 [] []).s hu hts (he X.s_0 X.H_0 0 [] []).s) (simg_name i)⟩
end
/-- a def: its body by these rules -/
theorem fn_ok {P : Program} {w : World} {K : Frag} {mg : Str → Option Value} {base : Heap} {x qual : Str} {params : Arguments} {body : List Stmt} {scope : Scope} {dvs : List V} {kws : List (Str × V)} {f : Addr} {fd : FuncData} {Ns ps : List Str} {k n : Nat} {fr : Bool} {Mb : MS}
    (F : FunD K x qual params body scope dvs kws f fd) (S : FnScope Ns ps scope) (hn : ps.length = n) (N : Nat) (hN : Ns.length = N)
    (h : ∀ (cdv : Value) (A : Around) (outer : List Env) (s : Shared) (H : Hp) (E : XK), Room k (A.deeper (envOfC qual scope s.heap.objs.size f cdv)) → ∃ t, DSs (cxOf (L2.CX P w) P w K mg base Ns qual scope f cdv A outer s H E) (fun c d _ H => E c d H) body t Mb) :
    FnOk P w K mg base (L2.CX P w) (k + 1) f fd ps (spM K n fr (mDef N fr Mb)) := by
  refine F.ok S (fun vs H Q E z => by rw [spM_len vs H Q E z, hn]) fun cdv A outer s H vs Q E hr hs => ?_
  obtain ⟨t, d⟩ := h cdv A outer s H E hr
  exact ⟨t, d.p, sim_def hN d.s hs⟩
end Mp

set_option Elab.async false
set_option linter.all false
set_option maxRecDepth 100000
set_option maxHeartbeats 4000000
/-! Mp10: more rules. -/
namespace Mp
open PySem PySem.Spec PyProof.Rows L2

/-! ### lists that will be changed -/
theorem new_mu {K : Frag} {α1 : Mp_} {hp1 : List O} {H1 : Hp} {p : Addr} {ds : List D} {vs : List V} (w1 : WOk K α1 hp1 H1) (hn : H1 p = none) (r : RepL K (Al α1 hp1) H1 ds vs) :
    ∃ α2, WOk K α2 (hp1 ++ [.lst ds]) (upd H1 p (.lst vs)) ∧ Ext α1 hp1 H1 α2 (hp1 ++ [.lst ds]) (upd H1 p (.lst vs)) ∧ SRep K α2 (hp1 ++ [.lst ds]) (upd H1 p (.lst vs)) (.mu hp1.length) (.ref p) := by
  obtain ⟨w2, e2⟩ := w1.pushLst hn r
  exact ⟨_, w2, e2, (p, []), by show (α1.own ++ [(p, [])])[hp1.length]? = _; rw [← w1.len, List.getElem?_append_right (Nat.le_refl _)]; simp, rfl⟩
def mListM (Ma : MA) : ME := fun s R Xp => Ma s (fun xs hp1 => on (vals hp1 xs) fun ds => one ds fun d => on (items d) fun ys => R (.mu hp1.length) (hp1 ++ [.lst ys])) Xp
theorem sim_listM {K : Frag} {W : WX} {ta : TA} {Ma : MA} (ha : SimA K W ta Ma) : SimE K W (tCB (rListA K) ta) (mListM Ma) := by
  intro α s H σ w e R Xp m Q q qx
  refine ha α s H σ w e _ _ m _ (fun x hp1 α1 H1 v1 m1 e1 w1 r1 => ?_) qx
  obtain ⟨ds, g1, m1⟩ := on.ex m1
  obtain ⟨d, v, rfl, r, m1⟩ := m1.ex (r1.vals w1 g1)
  obtain ⟨ys, g2, m1⟩ := on.ex m1
  obtain ⟨a, vs, rfl, h, r2⟩ := r.items g2
  refine ⟨a, vs, rfl, h, fun l hl => ?_⟩
  obtain ⟨α2, w2, e2, r3⟩ := new_mu w1 hl r2
  exact q _ _ α2 _ _ m1 (e1.trans e2) w2 r3
def slOf : D → Option (List D)
  | .lst ds => some ds
  | .fl ds => some ds
  | _ => none
def mSlM (Ma : ME) (Ml Mh : MO) : ME := fun s R Xp => Ma s (fun x hp1 => Ml { s with hp := hp1 } (fun lo hp2 => Mh { s with hp := hp2 } (fun hi hp3 => on (val hp3 x) fun d => on (slOf d) fun ds => R (.mu hp3.length) (hp3 ++ [.lst (cutD ds lo hi)])) Xp) Xp) Xp
theorem sim_slM {K : Frag} {W : WX} {t : TE} {tl th : TO} {Ma : ME} {Ml Mh : MO} (ha : SimE K W t Ma) (hl : SimO K W tl Ml) (hh : SimO K W th Mh) : SimE K W (tSl (rSlX K) t tl th) (mSlM Ma Ml Mh) := by
  intro α s H σ w e R Xp m Q q qx
  refine ha α s H σ w e _ _ m _ (fun x hp1 α1 H1 v1 m1 e1 w1 r1 => ?_) qx
  refine hl α1 { s with hp := hp1 } H1 σ w1 (e.mono e1) _ _ m1 _ (fun lo hp2 α2 H2 m2 e2 w2 => ?_) (qx.at e1)
  refine hh α2 { s with hp := hp2 } H2 σ w2 ((e.mono e1).mono e2) _ _ m2 _ (fun hi hp3 α3 H3 m3 e3 w3 => ?_) ((qx.at e1).at e2)
  obtain ⟨d, g1, m3⟩ := on.ex m3
  obtain ⟨ds, g2, m3⟩ := on.ex m3
  have rt := ((r1.mono e2).mono e3).val w3 g1
  cases d with
  | lst ds' =>
    cases g2
    obtain ⟨a, vs, rfl, h, k⟩ := rt
    refine .inl ⟨a, vs, rfl, .inl (.inl h), fun l hl => ?_⟩
    obtain ⟨α2, w4, e4, r4⟩ := new_mu w3 hl (k.cut lo hi)
    exact q _ _ _ _ _ m3 (((e1.trans e2).trans e3).trans e4) w4 r4
  | fl ds' =>
    cases g2
    obtain ⟨a, vs, e0, h, k⟩ := fl_sq (rt : Rep K (Al α3 hp3) H3 (.fl _) v1)
    refine .inl ⟨a, vs, e0, h, fun l hl => ?_⟩
    obtain ⟨α2, w4, e4, r4⟩ := new_mu w3 hl (k.cut lo hi)
    exact q _ _ _ _ _ m3 (((e1.trans e2).trans e3).trans e4) w4 r4
  | _ => cases g2
/-! ### -i -/
def fU (g : Int → D) : F1 := fun a P => match a with
  | .int i => P (g i)
  | _ => False
@[simp] theorem fU_int {g : Int → D} {i : Int} {P : D → Prop} : fU g (.int i) P = P (g i) := rfl
theorem sim_U {K : Frag} {g : Int → D} {g' : Int → V} (hg : ∀ A H i, Rep K A H (g i) (g' i)) : Sim1 K (rU g') (fU g) := by
  intro A H d1 v1 _ r1 P p Q q
  cases d1 with
  | int i => cases r1; exact ⟨_, rfl, q _ _ _ p (hg _ _ _) (.inl rfl)⟩
  | _ => exact p.elim
section
variable {X : Cx} {W : WX} {a b c e : Expr} {es : List Expr} {pos : Pos} {ta tb tc te : TE} {Ma Mb Mc Me : ME} {t u : TT} {Mt Mu : MT} {tA : TA} {MA' : MA}
theorem de_gint {x : Str} {i : Int} (hg : Gl X x) (hm : ∃ t, X.mg x = some (.int i t)) (hd : (x == ("__debug__" : Str)) = false := by decide) : DE X W (.Name x pos) (tC (.int i)) (mC (.int i)) := by
  obtain ⟨t, h⟩ := hm
  exact ⟨pe_glob hg h ⟨t, rfl⟩ hd, sim_c fun _ _ => rfl⟩
theorem de_gstr {x : Str} {i : Str} (hg : Gl X x) (hm : ∃ t, X.mg x = some (.str i t)) (hd : (x == ("__debug__" : Str)) = false := by decide) : DE X W (.Name x pos) (tC (.str i)) (mC (.str i)) := by
  obtain ⟨t, h⟩ := hm
  exact ⟨pe_glob hg h ⟨t, rfl⟩ hd, sim_c fun _ _ => rfl⟩
theorem de_neg (ha : DE X W a ta Ma) : DE X W (.UnaryOp .USub a pos) (tUn (rU fun i => .int (-i)) ta) (m1 (fU fun i => .int (-i)) Ma) := de_un un_neg (sim_U fun _ _ _ => rfl) ha
theorem de_listM (K : Frag) {p : Pos} (hg : Gl X "list") (hm : X.mg "list" = none) (hv : bootBuiltins "list" = some (.type "list")) (ha : DA X W (e :: es) tA MA')
    (he : starEach (e :: es) X.env = (false, eval e X.env) :: starEach es X.env := by rfl) (hpl : (backTo pos (starEach es X.env)).any (·.1) = false := by rfl) (hK : X.K = K := by rfl) : DE X W (.Call (.Name "list" p) (e :: es) [] pos) (tCB (rListA K) tA) (mListM MA') := by subst hK; exact ⟨pe_callTy call_list_of hg hm hv ha.p (by decide) (by decide) he hpl, sim_listM ha.s⟩
theorem de_slM (K : Frag) {lo hi : Option Expr} {tl th : TO} {Ml Mh : MO} {p2 : Pos} (ha : DE X W a ta Ma) (hl : DO X W lo tl Ml) (hh : DO X W hi th Mh) (hK : X.K = K := by rfl) : DE X W (.Subscript a (.Slice lo hi none p2) pos) (tSl (rSlX K) ta tl th) (mSlM Ma Ml Mh) := by subst hK; exact ⟨pe_slice sl_x ha.p hl.p hh.p, sim_slM ha.s hl.s hh.s⟩
theorem di_r3 {tg : Expr} {p : Pos} (hg : Gl X "range") (hm : X.mg "range" = none) (ha : DA X W [a, b, c] tA MA') (hs : starEach [a, b, c] X.env = (false, eval a X.env) :: starEach [b, c] X.env := by rfl) (hpl : (backTo pos (starEach [b, c] X.env)).any (·.1) = false := by rfl) :
    DI X W tg (.Call (.Name "range" p) [a, b, c] [] pos) (iRng3 tA) (miRng f3R MA') := ⟨pi_range3 hg hm ha.p hs hpl, simi_r3 ha.s⟩
/-! targets -/
theorem dgs_cons {ts : List Expr} {g : TG} {gs : TGs} {us ws : List Nat} {G : MG} {Gs : List D → PS → (PS → Prop) → Prop} (h1 : DG X e g us G) (h2 : DGs X es gs ws Gs) (hs : (assignEach (e :: es) X.env).map (·.2) = assign e X.env :: (assignEach es X.env).map (·.2) := by rfl) : DGs X (e :: es) (gCons g gs) (us ++ ws) (mgsCons G Gs) := ⟨pgs_cons h1.p h2.p hs, simgs_cons h1.s h2.s⟩
theorem dg_tup (K : Frag) {k n : Nat} {gs : TGs} {us : List Nat} {Gs : List D → PS → (PS → Prop) → Prop} (hc : X.calm = true) (h : DGs X es gs us Gs) (hn : (assignEach es X.env).length = n := by rfl) (hst : (assignEach es X.env).findIdx? (·.1) = none := by rfl) (hK : X.K = K := by rfl) : DG X (.Tuple es k pos) (gTup K n gs) us (mgTup n Gs) := by subst hK; exact ⟨pg_tup hc h.p hn hst, simg_tup h.s⟩
theorem dg_sb {o : Expr} {to : TE} {Mo : ME} (ho : DE X W o to Mo) (hi : DE X W a ta Ma) (hs : ∀ v, assign (.Subscript o a pos) X.env v = (do
      let ov ← holding [v] (eval o X.env)
      let iv ← holding [v, ov] (eval a X.env)
      standAt pos
      holding [v, ov, iv] (setItem ov iv v)
      release [v, ov, iv] []) := by intro _; rfl) : DG X (.Subscript o a pos) (gSub to ta rSetL) [] (mgSub Mo Ma) := ⟨pg_sub ho.p hi.p set_list hs, simg_sub ho.s hi.s⟩
/-! comprehensions of two clauses, or with one `if` -/
section
variable {elt tg iter tg1 iter1 cnd : Expr} {scope : Scope} {wi wi1 : TI} {g g1 : TG} {uu uu1 : List Nat} {I I1 : MI} {G G1 : MG}
theorem de_lc2 {vs : List Nat} (own : List (Str × Nat)) (ev : own.map (·.2) = vs) (vs1 : List Nat) (hc : X.calm = true) (hN : X.N.Nodup) (hi : DI X W tg iter wi I) (ok : BlkOk X.N X.env.scope scope own) (hv : ∀ i ∈ vs1, i ∈ own.map (·.2))
    (hg : ∀ (s : Shared) (H : Hp) (C : Addr) (cl : List (Str × Addr)) (fp : List Addr), DG (X.blk s H scope (compEnvC scope cl C X.env) fp) tg g uu G) (hi1 : ∀ (s : Shared) (H : Hp) (C : Addr) (cl : List (Str × Addr)) (fp : List Addr), DI (X.blk s H scope (compEnvC scope cl C X.env) fp) W00 tg1 iter1 wi1 I1) (hg1 : ∀ (s : Shared) (H : Hp) (C : Addr) (cl : List (Str × Addr)) (fp : List Addr), DG (X.blk s H scope (compEnvC scope cl C X.env) fp) tg1 g1 uu1 G1) (he : ∀ (s : Shared) (H : Hp) (C : Addr) (cl : List (Str × Addr)) (fp : List Addr), DE (X.blk s H scope (compEnvC scope cl C X.env) fp) W00 elt te Me) (hu : ∀ u ∈ uu, u ∈ own.map (·.2)) (hu1 : ∀ u ∈ uu1, u ∈ vs1)
    (hs : ∀ x, foldedSetIterable iter X.env x = pure x := by intro _; rfl) (hs1 : ∀ env x, foldedSetIterable iter1 env x = pure x := by intro _ _; rfl) :
    DE X W (.ListComp elt [⟨tg, iter, [], 0⟩, ⟨tg1, iter1, [], 0⟩] scope pos) (tLc2 wi g tYes wi1 g1 tYes te vs vs1) (mLc2 I G I1 G1 Me vs vs1) :=
  by subst ev; exact ⟨pe_lc2 hc hN hi.p ok hv (fun s H C cl fp => (hg s H C cl fp).p) (fun _ _ _ _ _ => pts_nil) (fun s H C cl fp => (hi1 s H C cl fp).p) (fun s H C cl fp => (hg1 s H C cl fp).p) (fun _ _ _ _ _ => pts_nil) (fun s H C cl fp => (he s H C cl fp).p) hs hs1,
    sim_lc2 hi.s (hg X.s_0 X.H_0 0 [] []).s hu (hi1 X.s_0 X.H_0 0 [] []).s (hg1 X.s_0 X.H_0 0 [] []).s hu1 (he X.s_0 X.H_0 0 [] []).s⟩
theorem de_lc2M {vs : List Nat} (own : List (Str × Nat)) (ev : own.map (·.2) = vs) (vs1 : List Nat) (hc : X.calm = true) (hN : X.N.Nodup) (hi : DI X W tg iter wi I) (ok : BlkOk X.N X.env.scope scope own) (hv : ∀ i ∈ vs1, i ∈ own.map (·.2))
    (hg : ∀ (s : Shared) (H : Hp) (C : Addr) (cl : List (Str × Addr)) (fp : List Addr), DG (X.blk s H scope (compEnvC scope cl C X.env) fp) tg g uu G) (hi1 : ∀ (s : Shared) (H : Hp) (C : Addr) (cl : List (Str × Addr)) (fp : List Addr), DI (X.blk s H scope (compEnvC scope cl C X.env) fp) W00 tg1 iter1 wi1 I1) (hg1 : ∀ (s : Shared) (H : Hp) (C : Addr) (cl : List (Str × Addr)) (fp : List Addr), DG (X.blk s H scope (compEnvC scope cl C X.env) fp) tg1 g1 uu1 G1) (he : ∀ (s : Shared) (H : Hp) (C : Addr) (cl : List (Str × Addr)) (fp : List Addr), DE (X.blk s H scope (compEnvC scope cl C X.env) fp) W00 elt te Me) (hu : ∀ u ∈ uu, u ∈ own.map (·.2)) (hu1 : ∀ u ∈ uu1, u ∈ vs1)
    (hs : ∀ x, foldedSetIterable iter X.env x = pure x := by intro _; rfl) (hs1 : ∀ env x, foldedSetIterable iter1 env x = pure x := by intro _ _; rfl) :
    DE X W (.ListComp elt [⟨tg, iter, [], 0⟩, ⟨tg1, iter1, [], 0⟩] scope pos) (tLc2 wi g tYes wi1 g1 tYes te vs vs1) (mLc2M I G I1 G1 Me vs vs1) :=
  by subst ev; exact ⟨pe_lc2 hc hN hi.p ok hv (fun s H C cl fp => (hg s H C cl fp).p) (fun _ _ _ _ _ => pts_nil) (fun s H C cl fp => (hi1 s H C cl fp).p) (fun s H C cl fp => (hg1 s H C cl fp).p) (fun _ _ _ _ _ => pts_nil) (fun s H C cl fp => (he s H C cl fp).p) hs hs1,
    sim_lc2M hi.s (hg X.s_0 X.H_0 0 [] []).s hu (hi1 X.s_0 X.H_0 0 [] []).s (hg1 X.s_0 X.H_0 0 [] []).s hu1 (he X.s_0 X.H_0 0 [] []).s⟩
theorem ds_setLc2 (i : Nat) {y : Str} {py spos : Pos} {vs : List Nat} (own : List (Str × Nat)) (ev : own.map (·.2) = vs) (vs1 : List Nat) (hc : X.calm = true) (hN : X.N.Nodup) (hi : DI X W tg iter wi I) (ok : BlkOk X.N X.env.scope scope own) (hv : ∀ i ∈ vs1, i ∈ own.map (·.2))
    (hg : ∀ (s : Shared) (H : Hp) (C : Addr) (cl : List (Str × Addr)) (fp : List Addr), DG (X.blk s H scope (compEnvC scope cl C X.env) fp) tg g uu G) (hi1 : ∀ (s : Shared) (H : Hp) (C : Addr) (cl : List (Str × Addr)) (fp : List Addr), DI (X.blk s H scope (compEnvC scope cl C X.env) fp) W00 tg1 iter1 wi1 I1) (hg1 : ∀ (s : Shared) (H : Hp) (C : Addr) (cl : List (Str × Addr)) (fp : List Addr), DG (X.blk s H scope (compEnvC scope cl C X.env) fp) tg1 g1 uu1 G1) (he : ∀ (s : Shared) (H : Hp) (C : Addr) (cl : List (Str × Addr)) (fp : List Addr), DE (X.blk s H scope (compEnvC scope cl C X.env) fp) W00 elt te Me) (hu : ∀ u ∈ uu, u ∈ own.map (·.2)) (hu1 : ∀ u ∈ uu1, u ∈ vs1)
    (hyl : X.env.scope.names.lookup y = some .local) (hsw : swapsWith (.ListComp elt [⟨tg, iter, [], 0⟩, ⟨tg1, iter1, [], 0⟩] scope pos) (some (.Name y py)) spos.line X.env = pure true)
    (hs : ∀ x, foldedSetIterable iter X.env x = pure x := by intro _; rfl) (hs1 : ∀ env x, foldedSetIterable iter1 env x = pure x := by intro _ _; rfl) (hy : X.N[i]? = some y := by rfl) :
    DS X W (.Assign [.Name y py] (.ListComp elt [⟨tg, iter, [], 0⟩, ⟨tg1, iter1, [], 0⟩] scope pos) spos) (tAsg (tLc2 wi g tYes wi1 g1 tYes te vs vs1) (gName i)) (mAsg (mLc2 I G I1 G1 Me vs vs1) (mgName i)) :=
  by subst ev; exact ⟨ps_setLc2 hc hN hy hyl hsw hi.p ok hv (fun s H C cl fp => (hg s H C cl fp).p) (fun _ _ _ _ _ => pts_nil) (fun s H C cl fp => (hi1 s H C cl fp).p) (fun s H C cl fp => (hg1 s H C cl fp).p) (fun _ _ _ _ _ => pts_nil) (fun s H C cl fp => (he s H C cl fp).p) hs hs1,
    sim_asg (sim_lc2 hi.s (hg X.s_0 X.H_0 0 [] []).s hu (hi1 X.s_0 X.H_0 0 [] []).s (hg1 X.s_0 X.H_0 0 [] []).s hu1 (he X.s_0 X.H_0 0 [] []).s) (simg_name i)⟩
theorem ds_setLc2M (i : Nat) {y : Str} {py spos : Pos} {vs : List Nat} (own : List (Str × Nat)) (ev : own.map (·.2) = vs) (vs1 : List Nat) (hc : X.calm = true) (hN : X.N.Nodup) (hi : DI X W tg iter wi I) (ok : BlkOk X.N X.env.scope scope own) (hv : ∀ i ∈ vs1, i ∈ own.map (·.2))
    (hg : ∀ (s : Shared) (H : Hp) (C : Addr) (cl : List (Str × Addr)) (fp : List Addr), DG (X.blk s H scope (compEnvC scope cl C X.env) fp) tg g uu G) (hi1 : ∀ (s : Shared) (H : Hp) (C : Addr) (cl : List (Str × Addr)) (fp : List Addr), DI (X.blk s H scope (compEnvC scope cl C X.env) fp) W00 tg1 iter1 wi1 I1) (hg1 : ∀ (s : Shared) (H : Hp) (C : Addr) (cl : List (Str × Addr)) (fp : List Addr), DG (X.blk s H scope (compEnvC scope cl C X.env) fp) tg1 g1 uu1 G1) (he : ∀ (s : Shared) (H : Hp) (C : Addr) (cl : List (Str × Addr)) (fp : List Addr), DE (X.blk s H scope (compEnvC scope cl C X.env) fp) W00 elt te Me) (hu : ∀ u ∈ uu, u ∈ own.map (·.2)) (hu1 : ∀ u ∈ uu1, u ∈ vs1)
    (hyl : X.env.scope.names.lookup y = some .local) (hsw : swapsWith (.ListComp elt [⟨tg, iter, [], 0⟩, ⟨tg1, iter1, [], 0⟩] scope pos) (some (.Name y py)) spos.line X.env = pure true)
    (hs : ∀ x, foldedSetIterable iter X.env x = pure x := by intro _; rfl) (hs1 : ∀ env x, foldedSetIterable iter1 env x = pure x := by intro _ _; rfl) (hy : X.N[i]? = some y := by rfl) :
    DS X W (.Assign [.Name y py] (.ListComp elt [⟨tg, iter, [], 0⟩, ⟨tg1, iter1, [], 0⟩] scope pos) spos) (tAsg (tLc2 wi g tYes wi1 g1 tYes te vs vs1) (gName i)) (mAsg (mLc2M I G I1 G1 Me vs vs1) (mgName i)) :=
  by subst ev; exact ⟨ps_setLc2 hc hN hy hyl hsw hi.p ok hv (fun s H C cl fp => (hg s H C cl fp).p) (fun _ _ _ _ _ => pts_nil) (fun s H C cl fp => (hi1 s H C cl fp).p) (fun s H C cl fp => (hg1 s H C cl fp).p) (fun _ _ _ _ _ => pts_nil) (fun s H C cl fp => (he s H C cl fp).p) hs hs1,
    sim_asg (sim_lc2M hi.s (hg X.s_0 X.H_0 0 [] []).s hu (hi1 X.s_0 X.H_0 0 [] []).s (hg1 X.s_0 X.H_0 0 [] []).s hu1 (he X.s_0 X.H_0 0 [] []).s) (simg_name i)⟩
theorem de_lci {vs : List Nat} (own : List (Str × Nat)) (ev : own.map (·.2) = vs) (hc : X.calm = true) (hN : X.N.Nodup) (hi : DI X W tg iter wi I) (ok : BlkOk X.N X.env.scope scope own)
    (hg : ∀ (s : Shared) (H : Hp) (C : Addr) (cl : List (Str × Addr)) (fp : List Addr), DG (X.blk s H scope (compEnvC scope cl C X.env) fp) tg g uu G) (ht : ∀ (s : Shared) (H : Hp) (C : Addr) (cl : List (Str × Addr)) (fp : List Addr), DT (X.blk s H scope (compEnvC scope cl C X.env) fp) W00 cnd t Mt) (he : ∀ (s : Shared) (H : Hp) (C : Addr) (cl : List (Str × Addr)) (fp : List Addr), DE (X.blk s H scope (compEnvC scope cl C X.env) fp) W00 elt te Me) (hu : ∀ u ∈ uu, u ∈ own.map (·.2)) (hs : ∀ x, foldedSetIterable iter X.env x = pure x := by intro _; rfl) :
    DE X W (.ListComp elt [⟨tg, iter, [cnd], 0⟩] scope pos) (tLc wi g t te vs) (mLc I G Mt Me vs) :=
  by subst ev; exact de_lc own rfl hc hN hi ok hg (fun s H C cl fp => pts_one (ht s H C cl fp).p) (ht X.s_0 X.H_0 0 [] []).s he hu hs
theorem de_lciM {vs : List Nat} (own : List (Str × Nat)) (ev : own.map (·.2) = vs) (hc : X.calm = true) (hN : X.N.Nodup) (hi : DI X W tg iter wi I) (ok : BlkOk X.N X.env.scope scope own)
    (hg : ∀ (s : Shared) (H : Hp) (C : Addr) (cl : List (Str × Addr)) (fp : List Addr), DG (X.blk s H scope (compEnvC scope cl C X.env) fp) tg g uu G) (ht : ∀ (s : Shared) (H : Hp) (C : Addr) (cl : List (Str × Addr)) (fp : List Addr), DT (X.blk s H scope (compEnvC scope cl C X.env) fp) W00 cnd t Mt) (he : ∀ (s : Shared) (H : Hp) (C : Addr) (cl : List (Str × Addr)) (fp : List Addr), DE (X.blk s H scope (compEnvC scope cl C X.env) fp) W00 elt te Me) (hu : ∀ u ∈ uu, u ∈ own.map (·.2)) (hs : ∀ x, foldedSetIterable iter X.env x = pure x := by intro _; rfl) :
    DE X W (.ListComp elt [⟨tg, iter, [cnd], 0⟩] scope pos) (tLc wi g t te vs) (mLcM I G Mt Me vs) :=
  by subst ev; exact de_lcM own rfl hc hN hi ok hg (fun s H C cl fp => pts_one (ht s H C cl fp).p) (ht X.s_0 X.H_0 0 [] []).s he hu hs
theorem ds_setLci (i : Nat) {y : Str} {py spos : Pos} {vs : List Nat} (own : List (Str × Nat)) (ev : own.map (·.2) = vs) (hc : X.calm = true) (hN : X.N.Nodup) (hi : DI X W tg iter wi I) (ok : BlkOk X.N X.env.scope scope own)
    (hg : ∀ (s : Shared) (H : Hp) (C : Addr) (cl : List (Str × Addr)) (fp : List Addr), DG (X.blk s H scope (compEnvC scope cl C X.env) fp) tg g uu G) (ht : ∀ (s : Shared) (H : Hp) (C : Addr) (cl : List (Str × Addr)) (fp : List Addr), DT (X.blk s H scope (compEnvC scope cl C X.env) fp) W00 cnd t Mt) (he : ∀ (s : Shared) (H : Hp) (C : Addr) (cl : List (Str × Addr)) (fp : List Addr), DE (X.blk s H scope (compEnvC scope cl C X.env) fp) W00 elt te Me) (hu : ∀ u ∈ uu, u ∈ own.map (·.2))
    (hyl : X.env.scope.names.lookup y = some .local) (hsw : swapsWith (.ListComp elt [⟨tg, iter, [cnd], 0⟩] scope pos) (some (.Name y py)) spos.line X.env = pure true) (hs : ∀ x, foldedSetIterable iter X.env x = pure x := by intro _; rfl) (hy : X.N[i]? = some y := by rfl) :
    DS X W (.Assign [.Name y py] (.ListComp elt [⟨tg, iter, [cnd], 0⟩] scope pos) spos) (tAsg (tLc wi g t te vs) (gName i)) (mAsg (mLc I G Mt Me vs) (mgName i)) :=
  by subst ev; exact ds_setLc i own rfl hc hN hi ok hg (fun s H C cl fp => pts_one (ht s H C cl fp).p) (ht X.s_0 X.H_0 0 [] []).s he hu hyl hsw hs hy
theorem ds_setLciM (i : Nat) {y : Str} {py spos : Pos} {vs : List Nat} (own : List (Str × Nat)) (ev : own.map (·.2) = vs) (hc : X.calm = true) (hN : X.N.Nodup) (hi : DI X W tg iter wi I) (ok : BlkOk X.N X.env.scope scope own)
    (hg : ∀ (s : Shared) (H : Hp) (C : Addr) (cl : List (Str × Addr)) (fp : List Addr), DG (X.blk s H scope (compEnvC scope cl C X.env) fp) tg g uu G) (ht : ∀ (s : Shared) (H : Hp) (C : Addr) (cl : List (Str × Addr)) (fp : List Addr), DT (X.blk s H scope (compEnvC scope cl C X.env) fp) W00 cnd t Mt) (he : ∀ (s : Shared) (H : Hp) (C : Addr) (cl : List (Str × Addr)) (fp : List Addr), DE (X.blk s H scope (compEnvC scope cl C X.env) fp) W00 elt te Me) (hu : ∀ u ∈ uu, u ∈ own.map (·.2))
    (hyl : X.env.scope.names.lookup y = some .local) (hsw : swapsWith (.ListComp elt [⟨tg, iter, [cnd], 0⟩] scope pos) (some (.Name y py)) spos.line X.env = pure true) (hs : ∀ x, foldedSetIterable iter X.env x = pure x := by intro _; rfl) (hy : X.N[i]? = some y := by rfl) :
    DS X W (.Assign [.Name y py] (.ListComp elt [⟨tg, iter, [cnd], 0⟩] scope pos) spos) (tAsg (tLc wi g t te vs) (gName i)) (mAsg (mLcM I G Mt Me vs) (mgName i)) :=
  by subst ev; exact ds_setLcM i own rfl hc hN hi ok hg (fun s H C cl fp => pts_one (ht s H C cl fp).p) (ht X.s_0 X.H_0 0 [] []).s he hu hyl hsw hs hy
end
end
end Mp
namespace Mp
open PySem PySem.Spec PyProof.Rows L2
theorem u1 {k : Nat} {A : Around} (r : Room k A) : A.units + 1 < cLine := by have := r.units; omega
end Mp
namespace Mp
open PySem PySem.Spec PyProof.Rows L2
section
variable (K : Frag) {X : Cx}
theorem op_addK (hK : X.K = K := by rfl) : OpR X (binaryOp .Add) (rAddA K) := by subst hK; exact op_addA
theorem op_eqK {k : Nat} (hr : Room k X.A) (hK : X.K = K := by rfl) : OpR X (compareOp .Eq) (rEqD K) := by subst hK; exact op_eqD hr.units
theorem op_neK {k : Nat} (hr : Room k X.A) (hK : X.K = K := by rfl) : OpR X (compareOp .NotEq) (rNeD K) := by subst hK; exact op_neD hr.units
theorem op_inK (hK : X.K = K := by rfl) : OpR X (compareOp .In) (rInA K false) := by subst hK; exact op_inA
theorem op_notInK (hK : X.K = K := by rfl) : OpR X (compareOp .NotIn) (rInA K true) := by subst hK; exact op_notInA
theorem call_lenK (hK : X.K = K := by rfl) : CallR X (.builtin "len") (fun xs H Q => ∃ x n, xs = [x] ∧ LenV K x H n ∧ Q (.int n) H) := by subst hK; exact call_len
theorem call_isiK' (hK : X.K = K := by rfl) : CallR X (.builtin "isinstance") (rIsiA K) := by subst hK; exact call_isiA
theorem call_listK (hK : X.K = K := by rfl) : CallR X (.type "list") (rListA K) := by subst hK; exact call_list_of
theorem call_tupleK (hK : X.K = K := by rfl) : CallR X (.type "tuple") (rTupleA K) := by subst hK; exact call_tuple_of
end
end Mp

set_option Elab.async false
set_option linter.all false
set_option maxRecDepth 100000
set_option maxHeartbeats 4000000
/-! Mp11: the end. -/
namespace Mp
open PySem PySem.Spec PyProof.Rows L2
abbrev EndAtS := LamX.LawAtS
theorem RepL_ints {K : Frag} {A : Av} {H : Hp} : ∀ ns : List Int, RepL K A H (ns.map D.int) (ns.map V.int)
  | [] => rfl
  | n :: ns => ⟨V.int n, ns.map V.int, rfl, rfl, RepL_ints ns⟩
theorem cx_end {P : Program} {w : World} {H : Hp} {s : Shared} {e : Value} {s' : Shared} (z : L2.CX P w [] H s (fun _ _ _ => False) e s') : False := by
  obtain ⟨a, B, H', cls, d, _, _, _, _, _, _, _, z⟩ := z
  exact z
theorem script_start {K : Frag} {H : Hp} {a : Addr} {ns : List Int} {M : MF} (hS : SqL K H a (ns.map V.int)) (m : M [] [.d (.fl (ns.map D.int))] (fun s _ => s = .d (.bl true)) (fun _ _ => False)) :
    spM K 1 false M [.ref a] H (fun v _ => v = .bl true) (fun _ _ _ => False) := by
  refine ⟨rfl, ⟨[], fun _ => False⟩, [], _, _, _, ?_, ?_, m, fun s hp' α' H' v r e w sr _ => ?_, fun x hp' α' H' c dd z _ _ _ => z⟩
  · exact ⟨rfl, fun _ _ _ h => by simp at h, fun _ _ _ h => by simp at h, fun _ _ _ _ _ _ h => by simp at h, fun _ h => h.elim⟩
  · refine .cons ⟨a, ns.map V.int, rfl, ?_, RepL_ints ns⟩ .nil
    rcases hS with h | h
    · exact .inl ⟨h, fun z => z.elim (fun ⟨_, _, _, h, _⟩ => by simp at h) id⟩
    · exact .inr (.inr h)
  · subst r
    exact sr
end Mp

set_option Elab.async false
set_option linter.all false
set_option maxRecDepth 100000
set_option maxHeartbeats 4000000
/-! Mp12: to run a mirror. -/
namespace Mp
open PySem PySem.Spec PyProof.Rows L2
/-- not by unfolding -/
theorem nr {α : Sort _} {a b : α} (h : a = b) : a = b := h
/-- keeps simp out of what depends on it -/
structure Tg {α : Type} (a : α) : Type where
/-- .. -/
def onH {τ : Type} (o : Option τ) (k : τ → Prop) (_ : Tg k) : Prop := on o k
def brH (b : Bool) (A B : Prop) (_ : Tg (A, B)) : Prop := if b = true then A else B
def mfH (M : MF) (hp : List O) (ss : List S) (R : S → List O → Prop) (Xp : MX) (_ : Tg (M, R, Xp)) : Prop := M hp ss R Xp
def forH (v : Option Nat) (ds : List D) (G : MG) (Mb : MS) (hp : List O) (env : List (Option S)) (n : Nat) (k : MK) (_ : Tg (G, Mb, k)) : Prop := forL v ds G Mb ds ⟨hp, env, n⟩ k
def whileH (Mc : MT) (Mb : MS) (hp : List O) (env : List (Option S)) (n : Nat) (k : MK) (_ : Tg (Mc, Mb, k)) : Prop := mWhile Mc Mb ⟨hp, env, n⟩ k
def compH (v : Option Nat) (ds : List D) (G : MG) (Mt : MT) (Me : ME) (env : List (Option S)) (hp : List O) (R : List D → List O → Prop) (_ : Tg (G, Mt, Me, R)) : Prop := compL v ds G Mt Me env ds [] hp R
def compH2 (v : Option Nat) (ds : List D) (G : MG) (I1 : MI) (G1 : MG) (Me : ME) (vs1 : List Nat) (env : List (Option S)) (hp : List O) (R : List D → List O → Prop) (_ : Tg (G, I1, G1, Me, R)) : Prop := compL2 v ds G I1 G1 Me vs1 env ds [] hp R
def holdH (P : Prop) (_ : Tg P) : Prop := P
@[simp ↓] theorem onH_some {τ : Type} {x : τ} {k : τ → Prop} {t : Tg k} : onH (some x) k t = k x := nr rfl
@[simp ↓] theorem onH_none {τ : Type} {k : τ → Prop} {t : Tg k} : onH none k t = False := nr rfl
@[simp ↓] theorem brH_true {A B : Prop} {t : Tg (A, B)} : brH true A B t = A := nr rfl
@[simp ↓] theorem brH_false {A B : Prop} {t : Tg (A, B)} : brH false A B t = B := nr rfl
theorem on_H {τ : Type} {o : Option τ} {k : τ → Prop} : on o k = onH o k .mk := rfl
theorem br_H {b : Bool} {A B : Prop} : (if b = true then A else B) = brH b A B .mk := rfl
theorem mfH_of {M : MF} {hp : List O} {ss : List S} {R : S → List O → Prop} {Xp : MX} {t : Tg (M, R, Xp)} (h : M hp ss R Xp) : mfH M hp ss R Xp t := h
theorem brH_of {b : Bool} {A B : Prop} {t : Tg (A, B)} (h1 : b = true → A) (h2 : b = false → B) : brH b A B t := by
  cases b
  · exact h2 rfl
  · exact h1 rfl
theorem onH_of {τ : Type} {o : Option τ} {k : τ → Prop} {t : Tg k} {x : τ} (e : o = some x) (h : k x) : onH o k t := by subst e; exact h
section
variable {hp : List O} {env : List (Option S)} {n : Nat} {R : S → List O → Prop} {Rb : Bool → List O → Prop} {Rl : List S → List O → Prop} {Xp : MX} {Ma Mb Mc : ME} {Ta Tb : MT} {La : MA} {Sa Sb : MS}
  {nx bk ct : PS → Prop} {rt : S → List O → Prop} {ex : MX}
@[simp ↓] theorem x_var {i : Nat} : mVar i ⟨hp, env, n⟩ R Xp = onH (env[i]?.join) (fun v => R v hp) .mk := by
  show (match env[i]? with | some (some v) => R v hp | _ => False) = on (env[i]?.join) fun v => R v hp
  cases env[i]? with
  | none => rfl
  | some o => cases o <;> rfl
@[simp ↓] theorem x_c {d : D} : mC d ⟨hp, env, n⟩ R Xp = R (.d d) hp := nr rfl
@[simp ↓] theorem x_2 {f : F2} : m2 f Ma Mb ⟨hp, env, n⟩ R Xp = Ma ⟨hp, env, n⟩ (fun x hp1 => Mb ⟨hp1, env, n⟩ (fun y hp2 => onH (val hp2 x) (fun d1 => onH (val hp2 y) (fun d2 => f d1 d2 fun d => R (.d d) hp2) .mk) .mk) Xp) Xp := nr rfl
@[simp ↓] theorem x_1 {f : F1} : m1 f Ma ⟨hp, env, n⟩ R Xp = Ma ⟨hp, env, n⟩ (fun x hp1 => onH (val hp1 x) (fun d1 => f d1 fun d => R (.d d) hp1) .mk) Xp := nr rfl
@[simp ↓] theorem x_nil : mNil ⟨hp, env, n⟩ Rl Xp = Rl [] hp := nr rfl
@[simp ↓] theorem x_cons : mCons Ma La ⟨hp, env, n⟩ Rl Xp = Ma ⟨hp, env, n⟩ (fun x hp1 => La ⟨hp1, env, n⟩ (fun xs hp2 => Rl (x :: xs) hp2) Xp) Xp := nr rfl
@[simp ↓] theorem x_N {f : FN} : mN f La ⟨hp, env, n⟩ R Xp = La ⟨hp, env, n⟩ (fun xs hp1 => onH (vals hp1 xs) (fun ds => f ds fun d => R (.d d) hp1) .mk) Xp := nr rfl
@[simp ↓] theorem x_tup : mTup La ⟨hp, env, n⟩ R Xp = La ⟨hp, env, n⟩ (fun xs hp1 => onH (allD xs) (fun ds => ds.length ≤ sizeLine ∧ R (.d (.tup ds)) hp1) .mk) Xp := nr rfl
@[simp ↓] theorem x_lst : mLst La ⟨hp, env, n⟩ R Xp = La ⟨hp, env, n⟩ (fun xs hp1 => onH (allD xs) (fun ds => ds.length ≤ sizeLine ∧ R (.d (.lst ds)) hp1) .mk) Xp := nr rfl
@[simp ↓] theorem x_lstM : mLstM La ⟨hp, env, n⟩ R Xp = La ⟨hp, env, n⟩ (fun xs hp1 => onH (allD xs) (fun ds => ds.length ≤ sizeLine ∧ R (.mu hp1.length) (hp1 ++ [.lst ds])) .mk) Xp := nr rfl
@[simp ↓] theorem x_listM : mListM La ⟨hp, env, n⟩ R Xp = La ⟨hp, env, n⟩ (fun xs hp1 => onH (vals hp1 xs) (fun ds => one ds fun d => onH (items d) (fun ys => R (.mu hp1.length) (hp1 ++ [.lst ys])) .mk) .mk) Xp := nr rfl
@[simp ↓] theorem x_test : mTest Ma ⟨hp, env, n⟩ Rb Xp = Ma ⟨hp, env, n⟩ (fun x hp1 => onH (asB x) (fun b => Rb b hp1) .mk) Xp := nr rfl
@[simp ↓] theorem x_and : mAnd Ta Tb ⟨hp, env, n⟩ Rb Xp = Ta ⟨hp, env, n⟩ (fun b hp1 => brH b (Tb ⟨hp1, env, n⟩ Rb Xp) (Rb false hp1) .mk) Xp := nr rfl
@[simp ↓] theorem x_or : mOr Ta Tb ⟨hp, env, n⟩ Rb Xp = Ta ⟨hp, env, n⟩ (fun b hp1 => brH b (Rb true hp1) (Tb ⟨hp1, env, n⟩ Rb Xp) .mk) Xp := nr rfl
@[simp ↓] theorem x_not : mNot Ta ⟨hp, env, n⟩ Rb Xp = Ta ⟨hp, env, n⟩ (fun b hp1 => Rb (!b) hp1) Xp := nr rfl
@[simp ↓] theorem x_andV : mAndV Ma Mb ⟨hp, env, n⟩ R Xp = Ma ⟨hp, env, n⟩ (fun x hp1 => onH (asB x) (fun b => brH b (Mb ⟨hp1, env, n⟩ R Xp) (R (.d (.bl false)) hp1) .mk) .mk) Xp := nr rfl
@[simp ↓] theorem x_orV : mOrV Ma Mb ⟨hp, env, n⟩ R Xp = Ma ⟨hp, env, n⟩ (fun x hp1 => onH (asB x) (fun b => brH b (R (.d (.bl true)) hp1) (Mb ⟨hp1, env, n⟩ R Xp) .mk) .mk) Xp := nr rfl
@[simp ↓] theorem x_notV : mNotV Ma ⟨hp, env, n⟩ R Xp = Ma ⟨hp, env, n⟩ (fun x hp1 => onH (asB x) (fun b => R (.d (.bl (!b))) hp1) .mk) Xp := nr rfl
@[simp ↓] theorem x_if : mIf Ta Ma Mb ⟨hp, env, n⟩ R Xp = Ta ⟨hp, env, n⟩ (fun b hp1 => brH b (Ma ⟨hp1, env, n⟩ R Xp) (Mb ⟨hp1, env, n⟩ R Xp) .mk) Xp := nr rfl
@[simp ↓] theorem x_chain {f g : F2} : mChain f g Ma Mb Mc ⟨hp, env, n⟩ R Xp = Ma ⟨hp, env, n⟩ (fun x hp1 => Mb ⟨hp1, env, n⟩ (fun y hp2 => onH (val hp2 x) (fun d1 => onH (val hp2 y) (fun d2 => f d1 d2 fun d =>
  onH (asB (.d d)) (fun b => brH b (Mc ⟨hp2, env, n⟩ (fun z hp3 => onH (val hp3 y) (fun d2 => onH (val hp3 z) (fun d3 => g d2 d3 fun d => R (.d d) hp3) .mk) .mk) Xp) (R (.d (.bl false)) hp2) .mk) .mk) .mk) .mk) Xp) Xp := nr rfl
@[simp ↓] theorem x_asg {G : MG} : mAsg Ma G ⟨hp, env, n⟩ ⟨nx, bk, ct, rt, ex⟩ = Ma ⟨hp, env, n⟩ (fun v hp' => G v ⟨hp', env, n⟩ nx) ex := nr rfl
@[simp ↓] theorem x_gName {i : Nat} {v : S} : mgName i v ⟨hp, env, n⟩ nx = nx ⟨hp, env.set i (some v), n⟩ := nr rfl
@[simp ↓] theorem x_drop : mDrop Ma ⟨hp, env, n⟩ ⟨nx, bk, ct, rt, ex⟩ = Ma ⟨hp, env, n⟩ (fun _ hp' => nx ⟨hp', env, n⟩) ex := nr rfl
@[simp ↓] theorem x_ret : mRet Ma ⟨hp, env, n⟩ ⟨nx, bk, ct, rt, ex⟩ = Ma ⟨hp, env, n⟩ rt ex := nr rfl
@[simp ↓] theorem x_retN : mRetN ⟨hp, env, n⟩ ⟨nx, bk, ct, rt, ex⟩ = rt (.d .non) hp := nr rfl
@[simp ↓] theorem x_next : mNext ⟨hp, env, n⟩ ⟨nx, bk, ct, rt, ex⟩ = nx ⟨hp, env, n⟩ := nr rfl
@[simp ↓] theorem x_break : mBreak ⟨hp, env, n⟩ ⟨nx, bk, ct, rt, ex⟩ = bk ⟨hp, env, n⟩ := nr rfl
@[simp ↓] theorem x_cont : mCont ⟨hp, env, n⟩ ⟨nx, bk, ct, rt, ex⟩ = ct ⟨hp, env, n⟩ := nr rfl
@[simp ↓] theorem x_seq : mSeq Sa Sb ⟨hp, env, n⟩ ⟨nx, bk, ct, rt, ex⟩ = Sa ⟨hp, env, n⟩ ⟨fun s' => Sb s' ⟨nx, bk, ct, rt, ex⟩, bk, ct, rt, ex⟩ := nr rfl
@[simp ↓] theorem x_ifS : mIfS Ta Sa Sb ⟨hp, env, n⟩ ⟨nx, bk, ct, rt, ex⟩ = Ta ⟨hp, env, n⟩ (fun b hp' => brH b (Sa ⟨hp', env, n⟩ ⟨nx, bk, ct, rt, ex⟩) (Sb ⟨hp', env, n⟩ ⟨nx, bk, ct, rt, ex⟩) .mk) ex := nr rfl
def intO : Option (Option S) → Option Int
  | some (some (.d (.int a))) => some a
  | _ => none
@[simp] theorem intO_some {a : Int} : intO (some (some (.d (.int a)))) = some a := rfl
@[simp ↓] theorem x_aug {i : Nat} {f : Int → Int → Int} : mAug i f Ma ⟨hp, env, n⟩ ⟨nx, bk, ct, rt, ex⟩ = onH (intO env[i]?) (fun a => Ma ⟨hp, env, n⟩ (fun v hp' => onH (val hp' v) (fun d => onH (asI d) (fun b => nx ⟨hp', env.set i (some (.d (.int (f a b)))), n⟩) .mk) .mk) ex) .mk := nr rfl
@[simp ↓] theorem x_while {Mt : MT} {Mb : MS} {k : MK} : mWhile Mt Mb ⟨hp, env, n⟩ k = whileH Mt Mb hp env n k .mk := nr rfl
@[simp ↓] theorem x_for {I : MI} {G : MG} {Mb : MS} {k : MK} : mFor I G Mb ⟨hp, env, n⟩ k = I ⟨hp, env, n⟩ (fun v ds hp' => (∀ m, v = some m → m < n) ∧ forH v ds G Mb hp' env n k .mk) k.ex := nr rfl
/-- what is walked -/
def walkO (hp : List O) : S → Option (Option Nat × List D)
  | .d d => (items d).map fun ds => (none, ds)
  | .mu m => match hp[m]? with
    | some (.lst ds) => some (some m, ds)
    | _ => none
theorem walked_O {v : S} {Rw : Option Nat → List D → List O → Prop} : walked hp v Rw = on (walkO hp v) fun p => Rw p.1 p.2 hp := by
  cases v with
  | d d =>
    show on (items d) _ = on ((items d).map _) _
    cases items d <;> rfl
  | mu m =>
    show (match hp[m]? with | some (.lst ds) => Rw (some m) ds hp | _ => False) = on (match hp[m]? with | some (.lst ds) => some (some m, ds) | _ => none) _
    cases hp[m]? with
    | none => rfl
    | some o => cases o <;> rfl
variable {Rw : Option Nat → List D → List O → Prop}
@[simp ↓] theorem x_iSq : miSq Ma ⟨hp, env, n⟩ Rw Xp = Ma ⟨hp, env, n⟩ (fun v hp' => onH (walkO hp' v) (fun p => Rw p.1 p.2 hp') .mk) Xp := by
  show Ma ⟨hp, env, n⟩ (fun v hp' => walked hp' v Rw) Xp = _
  congr 1
  funext v hp'
  exact walked_O
@[simp ↓] theorem x_iRng {f : List Int → (Int → Int → Nat → Prop) → Prop} : miRng f La ⟨hp, env, n⟩ Rw Xp = La ⟨hp, env, n⟩ (fun vs hp' => onH (vals hp' vs) (fun ds => onH (intsD ds) (fun l => f l fun lo c n => Rw none (rng lo c n) hp') .mk) .mk) Xp := nr rfl
@[simp] theorem walkO_d {d : D} : walkO hp (.d d) = (items d).map fun ds => (none, ds) := rfl
def lstO : Option O → Option (List D)
  | some (.lst ds) => some ds
  | _ => none
def dctO : Option O → Option (List (Key × D))
  | some (.dct ds) => some ds
  | _ => none
@[simp] theorem lstO_some {ds : List D} : lstO (some (.lst ds)) = some ds := rfl
@[simp] theorem dctO_some {ds : List (Key × D)} : dctO (some (.dct ds)) = some ds := rfl
@[simp] theorem lstAt_O {m : Nat} : lstAt hp m = lstO hp[m]? := rfl
@[simp] theorem dctAt_O {m : Nat} : dctAt hp m = dctO hp[m]? := rfl
@[simp] theorem walkO_mu {m : Nat} : walkO hp (.mu m) = (lstO hp[m]?).map fun ds => (some m, ds) := by
  show (match hp[m]? with | some (.lst ds) => some (some m, ds) | _ => none) = _
  cases hp[m]? with
  | none => rfl
  | some o => cases o <;> rfl
@[simp] theorem val_O {m : Nat} : val hp (.mu m) = (lstO hp[m]?).map D.lst := by
  show (match hp[m]? with | some (.lst ds) => some (D.lst ds) | _ => none) = _
  cases hp[m]? with
  | none => rfl
  | some o => cases o <;> rfl
@[simp] theorem vals_nil : vals hp [] = some [] := rfl
def c2 {τ : Type} : Option τ → Option (List τ) → Option (List τ)
  | some a, some b => some (a :: b)
  | _, _ => none
@[simp] theorem c2_some {τ : Type} {a : τ} {b : List τ} : c2 (some a) (some b) = some (a :: b) := rfl
@[simp] theorem vals_cons {x : S} {xs : List S} : vals hp (x :: xs) = c2 (val hp x) (vals hp xs) := by
  show (match val hp x, vals hp xs with | some d, some ds => some (d :: ds) | _, _ => none) = _
  cases val hp x <;> cases vals hp xs <;> rfl
@[simp] theorem allD_nil : allD [] = some [] := rfl
@[simp] theorem allD_d {x : D} {xs : List S} : allD (.d x :: xs) = c2 (some x) (allD xs) := by
  show (match allD xs with | some ds => some (x :: ds) | _ => none) = _
  cases allD xs <;> rfl
@[simp] theorem asB_bl {b : Bool} : asB (.d (.bl b)) = some b := rfl
@[simp] theorem intsD_nil : intsD [] = some [] := rfl
@[simp] theorem intsD_int {i : Int} {r : List D} : intsD (.int i :: r) = c2 (some i) (intsD r) := by
  show ((intsD r).bind fun l => some (i :: l)) = _
  cases intsD r <;> rfl
@[simp] theorem args_t {vs : List S} : args true hp vs = vals hp vs := rfl
@[simp] theorem args_f {vs : List S} : args false hp vs = allD vs := rfl
@[simp ↓] theorem x_meth {x : Bool} {f : FM} : mMeth x f Ma La ⟨hp, env, n⟩ R Xp = Ma ⟨hp, env, n⟩ (fun o hp1 => onH (asMu o) (fun m => onH (lstO hp1[m]?) (fun _ => La ⟨hp1, env, n⟩ (fun vs hp2 => onH (lstO hp2[m]?) (fun ds => onH (args x hp2 vs) (fun es => f ds es fun d ds' => R (.d d) (hp2.set m (.lst ds'))) .mk) .mk) Xp) .mk) .mk) Xp := nr rfl
@[simp ↓] theorem x_gSub {v : S} : mgSub Ma Mb v ⟨hp, env, n⟩ nx = Ma ⟨hp, env, n⟩ (fun o hp1 => Mb ⟨hp1, env, n⟩ (fun i hp2 => onH (asMu o) (fun m => onH (lstO hp2[m]?) (fun ds => onH (isD i) (fun di => onH (asI di) (fun k => onH (ixN ds.length k) (fun j => onH (isD v) (fun d => nx ⟨hp2.set m (.lst (ds.set j d)), env, n⟩) .mk) .mk) .mk) .mk) .mk) .mk) noX) noX := nr rfl
@[simp ↓] theorem x_dget : mDGet Ma Mb ⟨hp, env, n⟩ R Xp = Ma ⟨hp, env, n⟩ (fun o hp1 => Mb ⟨hp1, env, n⟩ (fun y hp2 => onH (asMu o) (fun m => onH (dctO hp2[m]?) (fun l => onH (isD y) (fun dy => onH (keyD dy) (fun k => onH (getK l k) (fun d => R (.d d) hp2) .mk) .mk) .mk) .mk) .mk) Xp) Xp := nr rfl
@[simp ↓] theorem x_dput : mDPut Ma Mb Mc ⟨hp, env, n⟩ ⟨nx, bk, ct, rt, ex⟩ = Mc ⟨hp, env, n⟩ (fun v hp1 => Ma ⟨hp1, env, n⟩ (fun o hp2 => Mb ⟨hp2, env, n⟩ (fun y hp3 => onH (asMu o) (fun m => onH (dctO hp3[m]?) (fun l => onH (isD y) (fun dy => onH (keyD dy) (fun key => onH (isD v) (fun d => l.length < sizeLine ∧
  nx ⟨hp3.set m (.dct (setK l key d)), env, n⟩) .mk) .mk) .mk) .mk) .mk) ex) ex) ex := nr rfl
variable {Ml Mh : MO} {Ro : Option Int → List O → Prop}
@[simp ↓] theorem x_oNone : moNone ⟨hp, env, n⟩ Ro Xp = Ro none hp := nr rfl
@[simp ↓] theorem x_oSome : moSome Ma ⟨hp, env, n⟩ Ro Xp = Ma ⟨hp, env, n⟩ (fun v hp1 => onH (isD v) (fun d => onH (asI d) (fun i => Ro (some i) hp1) .mk) .mk) Xp := nr rfl
@[simp ↓] theorem x_sl : mSl Ma Ml Mh ⟨hp, env, n⟩ R Xp = Ma ⟨hp, env, n⟩ (fun x hp1 => Ml ⟨hp1, env, n⟩ (fun lo hp2 => Mh ⟨hp2, env, n⟩ (fun hi hp3 => onH (val hp3 x) (fun d => fSl d lo hi fun d' => R (.d d') hp3) .mk) Xp) Xp) Xp := nr rfl
@[simp ↓] theorem x_slM : mSlM Ma Ml Mh ⟨hp, env, n⟩ R Xp = Ma ⟨hp, env, n⟩ (fun x hp1 => Ml ⟨hp1, env, n⟩ (fun lo hp2 => Mh ⟨hp2, env, n⟩ (fun hi hp3 => onH (val hp3 x) (fun d => onH (slOf d) (fun ds => R (.mu hp3.length) (hp3 ++ [.lst (cutD ds lo hi)])) .mk) .mk) Xp) Xp) Xp := nr rfl
@[simp] theorem slOf_lst {ds : List D} : slOf (.lst ds) = some ds := rfl
@[simp ↓] theorem x_call {N : Nat} {M : MF} {dd : List D} : mCall N M dd La ⟨hp, env, n⟩ R Xp = La ⟨hp, env, n⟩ (fun ss hp1 => ss.length + dd.length = N ∧ mfH M hp1 (ss ++ dd.map S.d) R Xp .mk) Xp := nr rfl
def lstR (R : S → List O → Prop) (v : S) (hp2 : List O) : Prop := match v with
  | .d (.lst ds) => R (.mu hp2.length) (hp2 ++ [.lst ds])
  | _ => False
@[simp ↓] theorem lstR_lst {ds : List D} : lstR R (.d (.lst ds)) hp = R (.mu hp.length) (hp ++ [.lst ds]) := nr rfl
@[simp ↓] theorem x_callM {N : Nat} {M : MF} {dd : List D} : mCallM N M dd La ⟨hp, env, n⟩ R Xp = La ⟨hp, env, n⟩ (fun ss hp1 => ss.length + dd.length = N ∧ mfH M hp1 (ss ++ dd.map S.d) (lstR R) Xp .mk) Xp := nr rfl
@[simp ↓] theorem x_lc {I : MI} {G : MG} {Mt : MT} {vs : List Nat} : mLc I G Mt Ma vs ⟨hp, env, n⟩ R Xp = I ⟨hp, env, n⟩ (fun v ds hp' => compH v ds G Mt Ma (wipeE env vs) hp' (fun acc hp2 => R (.d (.lst acc)) hp2) .mk) Xp := nr rfl
@[simp ↓] theorem x_lcM {I : MI} {G : MG} {Mt : MT} {vs : List Nat} : mLcM I G Mt Ma vs ⟨hp, env, n⟩ R Xp = I ⟨hp, env, n⟩ (fun v ds hp' => compH v ds G Mt Ma (wipeE env vs) hp' (fun acc hp2 => R (.mu hp2.length) (hp2 ++ [.lst acc])) .mk) Xp := nr rfl
@[simp ↓] theorem x_lc2 {I I1 : MI} {G G1 : MG} {vs vs1 : List Nat} : mLc2 I G I1 G1 Ma vs vs1 ⟨hp, env, n⟩ R Xp = I ⟨hp, env, n⟩ (fun v ds hp' => compH2 v ds G I1 G1 Ma vs1 (wipeE env vs) hp' (fun acc hp2 => R (.d (.lst acc)) hp2) .mk) Xp := nr rfl
@[simp ↓] theorem x_lc2M {I I1 : MI} {G G1 : MG} {vs vs1 : List Nat} : mLc2M I G I1 G1 Ma vs vs1 ⟨hp, env, n⟩ R Xp = I ⟨hp, env, n⟩ (fun v ds hp' => compH2 v ds G I1 G1 Ma vs1 (wipeE env vs) hp' (fun acc hp2 => R (.mu hp2.length) (hp2 ++ [.lst acc])) .mk) Xp := nr rfl
@[simp ↓] theorem x_yes : mYes ⟨hp, env, n⟩ Rb Xp = Rb true hp := nr rfl
variable {Rp : List (S × S) → List O → Prop}
@[simp ↓] theorem x_pnil : mPairs [] ⟨hp, env, n⟩ Rp Xp = Rp [] hp := nr rfl
@[simp ↓] theorem x_pcons {mr : List (ME × ME)} : mPairs ((Ma, Mb) :: mr) ⟨hp, env, n⟩ Rp Xp = Ma ⟨hp, env, n⟩ (fun k hp1 => Mb ⟨hp1, env, n⟩ (fun v hp2 => mPairs mr ⟨hp2, env, n⟩ (fun ps hp3 => Rp ((k, v) :: ps) hp3) Xp) Xp) Xp := nr rfl
@[simp ↓] theorem x_disp {mr : List (ME × ME)} : mDisp mr ⟨hp, env, n⟩ R Xp = mPairs mr ⟨hp, env, n⟩ (fun ps hp1 => onH (keysD ps) (fun l => l.length ≤ 15 ∧ R (.mu hp1.length) (hp1 ++ [.dct (mergeD [] l)])) .mk) Xp := nr rfl
/-- a def's run -/
@[simp ↓] theorem x_def {N : Nat} {fr : Bool} {Mb : MS} {ss : List S} : mDef N fr Mb hp ss R Xp = Mb ⟨hp, ss.map some ++ List.replicate (N - ss.length) none, hp.length⟩ ⟨fun s' => retP hp.length fr R (.d .non) s'.hp, fun _ => False, fun _ => False, retP hp.length fr R, fun x hp' => Xp x (hp'.take hp.length)⟩ := nr rfl
@[simp ↓] theorem x_retD {m : Nat} {d : D} : retP m false R (.d d) hp = R (.d d) (hp.take m) := by
  show ((false = true → isLst d = false) ∧ R (.d d) (hp.take m)) = _
  simp
@[simp ↓] theorem x_retDT {m : Nat} {d : D} : retP m true R (.d d) hp = (isLst d = false ∧ R (.d d) (hp.take m)) := by
  show ((true = true → isLst d = false) ∧ R (.d d) (hp.take m)) = _
  simp
/-- an object given back -/
def retO (n0 : Nat) (R : S → List O → Prop) (hp : List O) (o : Option O) (_ : Tg R) : Prop := match o with
  | some (.lst ds) => R (.d (.lst ds)) (hp.take n0)
  | some (.dct l) => R (.mu n0) (hp.take n0 ++ [.dct l])
  | some (.ins C fs) => R (.mu n0) (hp.take n0 ++ [.ins C fs])
  | _ => False
@[simp ↓] theorem x_retM {m k : Nat} {fr : Bool} : retP m fr R (.mu k) hp = brH (decide (k < m)) (R (.mu k) (hp.take m)) (retO m R hp hp[k]? .mk) .mk := by
  show (if k < m then _ else _) = (if decide (k < m) = true then _ else _)
  by_cases h : k < m
  · rw [if_pos h, if_pos (by simpa using h)]
  · rw [if_neg h, if_neg (by simpa using h)]
    rfl
@[simp ↓] theorem retO_lst {m : Nat} {ds : List D} {t : Tg R} : retO m R hp (some (.lst ds)) t = R (.d (.lst ds)) (hp.take m) := nr rfl
@[simp ↓] theorem retO_dct {m : Nat} {ds : List (Key × D)} {t : Tg R} : retO m R hp (some (.dct ds)) t = R (.mu m) (hp.take m ++ [.dct ds]) := nr rfl
@[simp ↓] theorem retO_ins {m : Nat} {C : Str} {fs : List (Str × Fd)} {t : Tg R} : retO m R hp (some (.ins C fs)) t = R (.mu m) (hp.take m ++ [.ins C fs]) := nr rfl
@[simp ↓] theorem x_hold {P : Prop} {t : Tg P} : holdH P t = P := nr rfl
variable {τ : Type}
@[simp ↓] theorem x_one {d : D} {P : D → Prop} : one [d] P = P d := nr rfl
@[simp ↓] theorem x_two {d e : D} {P : D → D → Prop} : two [d, e] P = P d e := nr rfl
/-! the operators -/
section
variable {P : D → Prop} {i j : Int} {x y : List D}
@[simp ↓] theorem xfI {C : Int → Int → Prop} {g : Int → Int → D} : fI C g (.int i) (.int j) P = (C i j ∧ P (g i j)) := nr rfl
@[simp ↓] theorem xfI0 {g : Int → Int → D} : fI0 g (.int i) (.int j) P = P (g i j) := nr rfl
@[simp ↓] theorem xfU {g : Int → D} : fU g (.int i) P = P (g i) := nr rfl
@[simp ↓] theorem xfMul : fMul (.int i) (.int j) P = ((CMul i j ∨ CMulW i j) ∧ P (.int (i * j))) := nr rfl
@[simp ↓] theorem xfMulL : fMul (.lst x) (.int j) P = (-(2 ^ 63) ≤ j ∧ j < 2 ^ 63 ∧ x.length * j.toNat ≤ sizeLine ∧ P (.lst (List.flatten (List.replicate j.toNat x)))) := nr rfl
@[simp ↓] theorem xfAdd : fAdd (.int i) (.int j) P = P (.int (i + j)) := nr rfl
@[simp ↓] theorem xfAddL : fAdd (.lst x) (.lst y) P = (x.length + y.length ≤ sizeLine ∧ P (.lst (x ++ y))) := nr rfl
@[simp ↓] theorem xfAddT : fAdd (.tup x) (.tup y) P = (x.length + y.length ≤ sizeLine ∧ P (.tup (x ++ y))) := nr rfl
@[simp ↓] theorem xfAddS {i j : Str} : fAdd (.str i) (.str j) P = (i.length + j.length ≤ sizeLine ∧ P (.str (i ++ j))) := nr rfl
@[simp ↓] theorem xfEq {a b : D} : fEq a b P = (shD a = true ∧ shD b = true ∧ P (.bl (eqD a b))) := nr rfl
@[simp ↓] theorem xfNe {a b : D} : fNe a b P = (shD a = true ∧ shD b = true ∧ P (.bl (!eqD a b))) := nr rfl
@[simp ↓] theorem xfIsN {a : D} : fIsN a .non P = P (.bl (isNon a)) := nr rfl
@[simp ↓] theorem xfNotN {a : D} : fNotN a .non P = P (.bl (!isNon a)) := nr rfl
@[simp ↓] theorem xfIxL : fIx (.lst x) (.int i) P = onH (atI x i) P .mk := nr rfl
@[simp ↓] theorem xfIxT : fIx (.tup x) (.int i) P = onH (atI x i) P .mk := nr rfl
@[simp ↓] theorem xfIxF : fIx (.fl x) (.int i) P = onH (atI x i) P .mk := nr rfl
@[simp ↓] theorem xfLenL : fLen [.lst x] P = P (.int x.length) := by simp [fLen, asS, one, on]
@[simp ↓] theorem xfLenT : fLen [.tup x] P = P (.int x.length) := by simp [fLen, asS, one, on]
@[simp ↓] theorem xfLenF : fLen [.fl x] P = P (.int x.length) := by simp [fLen, asS, one, on]
@[simp ↓] theorem xfLenS {x : Str} : fLen [.str x] P = (x.length ≤ sizeLine ∧ P (.int x.length)) := by simp [fLen, asS, one, on, items]
@[simp ↓] theorem xfInt : fInt [.int i] P = P (.int i) := by simp [fInt, one, on, asB']
@[simp ↓] theorem xfIntB {b : Bool} : fInt [.bl b] P = P (.int (if b then 1 else 0)) := by simp [fInt, one, on, asI]
@[simp ↓] theorem xfAbs : fAbs [.int i] P = P (.int (if i < 0 then -i else i)) := nr rfl
@[simp ↓] theorem xfMM {g : Int → Int → Int} : fMM g [.int i, .int j] P = P (.int (g i j)) := nr rfl
@[simp ↓] theorem xfListL : fList [.lst x] P = P (.lst x) := nr rfl
@[simp ↓] theorem xfListT : fList [.tup x] P = P (.lst x) := nr rfl
@[simp ↓] theorem xfListF : fList [.fl x] P = P (.lst x) := nr rfl
@[simp ↓] theorem xfTupleL : fTuple [.lst x] P = P (.tup x) := nr rfl
@[simp ↓] theorem xfTupleT : fTuple [.tup x] P = P (.tup x) := nr rfl
@[simp ↓] theorem xfTupleF : fTuple [.fl x] P = P (.tup x) := nr rfl
@[simp ↓] theorem xfSlL {lo hi : Option Int} : fSl (.lst x) lo hi P = P (.lst (cutD x lo hi)) := nr rfl
@[simp ↓] theorem xfSlF {lo hi : Option Int} : fSl (.fl x) lo hi P = P (.lst (cutD x lo hi)) := nr rfl
@[simp ↓] theorem xfSlT {lo hi : Option Int} : fSl (.tup x) lo hi P = P (.tup (cutD x lo hi)) := nr rfl
variable {Q : D → List D → Prop} {e : D}
@[simp ↓] theorem xfAppend : fAppend x [e] Q = (x.length < sizeLine ∧ Q .non (x ++ [e])) := nr rfl
@[simp ↓] theorem xfExtend : fExtend x [.lst y] Q = (x.length + y.length ≤ sizeLine ∧ Q .non (x ++ y)) := nr rfl
@[simp ↓] theorem xfReverse : fReverse x [] Q = Q .non x.reverse := nr rfl
@[simp ↓] theorem xfClear : fClear x [] Q = Q .non [] := nr rfl
@[simp ↓] theorem xfPop : fPop x [] Q = onH (x[x.length - 1]?) (fun y => Q y x.dropLast) .mk := nr rfl
variable {k : Int → Int → Nat → Prop}
@[simp ↓] theorem xf1R : f1R [j] k = (-(2 ^ 62) ≤ j ∧ j < 2 ^ 62 ∧ k 0 1 j.toNat) := nr rfl
@[simp ↓] theorem xf2R : f2R [i, j] k = ((-(2 ^ 62) ≤ i ∧ i < 2 ^ 62 ∧ -(2 ^ 62) ≤ j ∧ j < 2 ^ 62) ∧ k i 1 (j - i).toNat) := nr rfl
@[simp ↓] theorem xf3R {c : Int} : f3R [i, j, c] k = ∃ n, RgC i j c n ∧ k i c n := nr rfl
end
end
/-! ### data -/
theorem cmul_r {i j : Int} (h1 : -(2 ^ 64) < j) (h2 : j < 2 ^ 64) : CMul i j ∨ CMulW i j := .inl (.inr ⟨h1, h2⟩)
theorem cmul_l {i j : Int} (h1 : -(2 ^ 64) < i) (h2 : i < 2 ^ 64) : CMul i j ∨ CMulW i j := .inl (.inl ⟨h1, h2⟩)
end Mp

set_option Elab.async false
set_option linter.all false
set_option maxRecDepth 100000
set_option maxHeartbeats 4000000
/-! Mp13: laws of data, of loops. -/
namespace Mp
open PySem PySem.Spec PyProof.Rows L2
@[simp] theorem cm_r {i j : Int} (h1 : -18446744073709551616 < j) (h2 : j < 18446744073709551616) : (CMul i j ∨ CMulW i j) = True := eq_true (.inl (.inr ⟨h1, h2⟩))
@[simp] theorem cm_l {i j : Int} (h1 : -18446744073709551616 < i) (h2 : i < 18446744073709551616) : (CMul i j ∨ CMulW i j) = True := eq_true (.inl (.inl ⟨h1, h2⟩))
theorem log2_lt {n k : Nat} (h : n < 2 ^ k) (hk : 0 < k) : n.log2 < k := by
  by_cases h0 : n = 0
  · subst h0; simpa using hk
  · exact (Nat.log2_lt h0).mpr h
@[simp] theorem cdiv_ok {i j : Int} (h1 : 0 < j) (h2 : j < 18446744073709551616) : CDivW i j = True := eq_true ⟨h1, Nat.lt_trans (log2_lt (k := 64) (by omega) (by decide)) (by decide)⟩
@[simp] theorem emod_lt_lit {a m : Int} (h : 0 < m) : (a % m < m) = True := eq_true (Int.emod_lt_of_pos a h)
/-! ### == -/
/-- whole numbers as data -/
def iL (xs : List Int) : List D := xs.map D.int
theorem py_ints : ∀ ns : List Int, D.pyL (ns.map D.int) = ns.map PyData.int
  | [] => by simp [D.pyL]
  | n :: ns => by simp [D.pyL, D.py, py_ints ns]
theorem eqv_ints : ∀ xs ys : List Int, PyData.eqvAll (xs.map PyData.int) (ys.map PyData.int) = decide (xs = ys)
  | [], [] => by simp [PyData.eqvAll]
  | [], _ :: _ => by simp [PyData.eqvAll]
  | _ :: _, [] => by simp [PyData.eqvAll]
  | x :: xs, y :: ys => by
    simp only [List.map_cons, PyData.eqvAll, PyData.eqv, eqv_ints xs ys, List.cons.injEq]
    by_cases h1 : x = y <;> by_cases h2 : xs = ys <;> simp [h1, h2]
theorem lay_ints : ∀ ns : List Int, PyData.canLayAll0 (ns.map PyData.int) = true
  | [] => by simp [PyData.canLayAll0]
  | n :: ns => by simp [PyData.canLayAll0, PyData.canLay0, lay_ints ns]
theorem depth_ints : ∀ ns : List Int, PyData.depthAll (ns.map PyData.int) ≤ 1
  | [] => by simp [PyData.depthAll]
  | n :: ns => by
    have := depth_ints ns
    simp [PyData.depthAll, PyData.depth] <;> omega
@[simp] theorem eqD_int {i j : Int} : eqD (.int i) (.int j) = decide (i = j) := by
  simp only [eqD, D.py, PyData.eqv]
  by_cases h : i = j <;> simp [h]
@[simp] theorem eqD_bl {i j : Bool} : eqD (.bl i) (.bl j) = (i == j) := by simp only [eqD, D.py, PyData.eqv]
@[simp] theorem eqD_str {i j : Str} : eqD (.str i) (.str j) = (i == j) := by simp only [eqD, D.py, PyData.eqv]
@[simp] theorem eqD_ints {xs ys : List Int} : eqD (.lst (iL xs)) (.lst (iL ys)) = decide (xs = ys) := by simp only [eqD, D.py, PyData.eqv, iL, py_ints, eqv_ints]
@[simp] theorem eqD_intsT {xs ys : List Int} : eqD (.tup (iL xs)) (.tup (iL ys)) = decide (xs = ys) := by simp only [eqD, D.py, PyData.eqv, iL, py_ints, eqv_ints]
@[simp] theorem shD_int {i : Int} : shD (.int i) = true := by simp [shD, SeqAt.shaped, D.py, PyData.canLay0, PyData.depth]
@[simp] theorem shD_bl {i : Bool} : shD (.bl i) = true := by simp [shD, SeqAt.shaped, D.py, PyData.canLay0, PyData.depth]
@[simp] theorem shD_non : shD .non = true := by simp [shD, SeqAt.shaped, D.py, PyData.canLay0, PyData.depth]
@[simp] theorem shD_ints {xs : List Int} : shD (.lst (iL xs)) = true := by
  have := depth_ints xs
  simp only [shD, SeqAt.shaped, D.py, PyData.canLay0, iL, py_ints, lay_ints, PyData.depth, Bool.true_and, decide_eq_true_eq]
  omega
@[simp] theorem shD_intsT {xs : List Int} : shD (.tup (iL xs)) = true := by
  have := depth_ints xs
  simp only [shD, SeqAt.shaped, D.py, PyData.canLay0, iL, py_ints, lay_ints, PyData.depth, Bool.true_and, decide_eq_true_eq]
  omega
/-! ### lists of whole numbers -/
theorem cutD_map {xs : List Int} {lo hi : Option Int} : cutD (iL xs) lo hi = iL (((xs.drop (HT.sIx xs.length 0 lo)).take (HT.sIx xs.length xs.length hi - HT.sIx xs.length 0 lo))) := by
  simp [cutD, iL, List.map_drop, List.map_take]
theorem atI_map {τ ρ : Type} {f : τ → ρ} {xs : List τ} {i : Int} : atI (xs.map f) i = (atI xs i).map f := by
  unfold atI
  simp only [List.length_map, List.getElem?_map]
  cases ixN xs.length i <;> rfl
@[simp] theorem atI_ints {xs : List Int} {i : Int} : atI (iL xs) i = (atI xs i).map D.int := atI_map
@[simp] theorem iL_len {xs : List Int} : (iL xs).length = xs.length := List.length_map ..
@[simp] theorem iL_app {xs ys : List Int} : iL xs ++ iL ys = iL (xs ++ ys) := (List.map_append ..).symm
@[simp] theorem iL_app1 {xs : List Int} {i : Int} : iL xs ++ [D.int i] = iL (xs ++ [i]) := iL_app (ys := [i])
@[simp] theorem iL_set {xs : List Int} {i : Int} {j : Nat} : (iL xs).set j (D.int i) = iL (xs.set j i) := (List.map_set ..).symm
@[simp] theorem iL_get {xs : List Int} {j : Nat} : (iL xs)[j]? = xs[j]?.map D.int := List.getElem?_map ..
@[simp] theorem iL_rev {xs : List Int} : (iL xs).reverse = iL xs.reverse := (List.map_reverse ..).symm
theorem iL_nil : ([] : List D) = iL [] := rfl
theorem iL_cons {x : Int} {xs : List Int} : D.int x :: iL xs = iL (x :: xs) := rfl
@[simp] theorem iL_rep {k : Nat} {x : Int} : (List.replicate k [D.int x]).flatten = iL (List.replicate k x) := by
  induction k with
  | zero => rfl
  | succ k ih => rw [List.replicate_succ, List.flatten_cons, ih]; rfl
theorem atI_nat {τ : Type} {xs : List τ} {i : Int} (h0 : 0 ≤ i) (h1 : i < xs.length) : atI xs i = some (xs[i.toNat]'(by omega)) := by
  unfold atI ixN
  rw [if_pos h0, if_pos h1]
  show xs[i.toNat]? = _
  exact List.getElem?_eq_getElem _
/-! ### loops -/
theorem seq_cut {Sa Sb : MS} {hp : List O} {env : List (Option S)} {n : Nat} {nx bk ct : PS → Prop} {rt : S → List O → Prop} {ex : MX} (Mid : List O → List (Option S) → Prop)
    (h1 : ∀ N : PS → Prop, (∀ hp' env', Mid hp' env' → N ⟨hp', env', n⟩) → Sa ⟨hp, env, n⟩ ⟨N, bk, ct, rt, ex⟩) (h2 : ∀ hp' env', Mid hp' env' → Sb ⟨hp', env', n⟩ ⟨nx, bk, ct, rt, ex⟩) : mSeq Sa Sb ⟨hp, env, n⟩ ⟨nx, bk, ct, rt, ex⟩ := h1 _ h2
theorem set_same {τ : Type} {hp : List τ} {n : Nat} {o : τ} (h : hp[n]? = some o) : hp.set n o = hp := by
  apply List.ext_getElem?
  intro i
  by_cases e : n = i
  · subst e
    rw [List.getElem?_set_self (List.getElem?_eq_some_iff.mp h).1, h]
  · rw [List.getElem?_set_ne e]
@[simp] theorem cpow_lit {i j : Int} (h0 : 0 ≤ j) (h1 : j ≤ 1000000) (h2 : -1000 ≤ i) (h3 : i ≤ 1000) : CPow i j = True := eq_true ⟨h0, h1, by omega⟩
@[simp] theorem take_set {τ : Type} {hp : List τ} {n : Nat} {o : τ} : (hp.set n o).take hp.length = hp.set n o := List.take_of_length_le (by simp)
theorem set_at {τ : Type} {hp : List τ} {n : Nat} {o : τ} (h : hp[n]? = some o) (o' : τ) : (hp.set n o')[n]? = some o' := List.getElem?_set_self (List.getElem?_eq_some_iff.mp h).1
theorem cut_nx {Sa : MS} {hp : List O} {env : List (Option S)} {n : Nat} {nx bk ct : PS → Prop} {rt : S → List O → Prop} {ex : MX} (Mid : List O → List (Option S) → Prop)
    (h1 : ∀ N : PS → Prop, (∀ hp' env', Mid hp' env' → N ⟨hp', env', n⟩) → Sa ⟨hp, env, n⟩ ⟨N, bk, ct, rt, ex⟩) (h2 : ∀ hp' env', Mid hp' env' → nx ⟨hp', env', n⟩) : Sa ⟨hp, env, n⟩ ⟨nx, bk, ct, rt, ex⟩ := h1 _ h2
/-- for: Iv tells of what is left, the heap and the names -/
theorem forH_of {v : Option Nat} {ds : List D} {G : MG} {Mb : MS} {hp : List O} {env : List (Option S)} {n : Nat} {nx bk ct : PS → Prop} {rt : S → List O → Prop} {ex : MX} {t : Tg (G, Mb, (⟨nx, bk, ct, rt, ex⟩ : MK))} (Iv : List D → List O → List (Option S) → Prop)
    (h0 : Iv ds hp env) (hs : ∀ d r hp env N, Iv (d :: r) hp env → (∀ hp' env', still v ds hp' → Iv r hp' env' → N ⟨hp', env', n⟩) → G (.d d) ⟨hp, env, n⟩ fun s1 => Mb s1 ⟨N, nx, N, rt, ex⟩) (hn : ∀ hp env, Iv [] hp env → nx ⟨hp, env, n⟩) : forH v ds G Mb hp env n ⟨nx, bk, ct, rt, ex⟩ t := by
  show forL v ds G Mb ds ⟨hp, env, n⟩ ⟨nx, bk, ct, rt, ex⟩
  have gen : ∀ (r : List D) hp env, Iv r hp env → forL v ds G Mb r ⟨hp, env, n⟩ ⟨nx, bk, ct, rt, ex⟩ := by
    intro r
    induction r with
    | nil => exact fun hp env h => hn hp env h
    | cons d r ih =>
      intro hp env h
      exact hs d r hp env (fun s2 => still v ds s2.hp ∧ forL v ds G Mb r s2 ⟨nx, bk, ct, rt, ex⟩) h fun hp' env' st h' => ⟨st, ih hp' env' h'⟩
  exact gen ds hp env h0
/-- while: Ms falls -/
theorem whileH_of {Mt : MT} {Mb : MS} {hp : List O} {env : List (Option S)} {n : Nat} {nx bk ct : PS → Prop} {rt : S → List O → Prop} {ex : MX} {t : Tg (Mt, Mb, (⟨nx, bk, ct, rt, ex⟩ : MK))} (Iv : Nat → List O → List (Option S) → Prop) (m : Nat)
    (h0 : Iv m hp env) (hs : ∀ m hp env (N : PS → Prop), Iv m hp env → (∀ m' hp' env', m' < m → Iv m' hp' env' → N ⟨hp', env', n⟩) → Mt ⟨hp, env, n⟩ (fun b hp1 => brH b (Mb ⟨hp1, env, n⟩ ⟨N, nx, N, rt, ex⟩) (nx ⟨hp1, env, n⟩) .mk) ex) : whileH Mt Mb hp env n ⟨nx, bk, ct, rt, ex⟩ t := by
  show ∃ n', whileN Mt Mb n' ⟨hp, env, n⟩ ⟨nx, bk, ct, rt, ex⟩
  have gen : ∀ (f m : Nat) hp env, m < f → Iv m hp env → whileN Mt Mb f ⟨hp, env, n⟩ ⟨nx, bk, ct, rt, ex⟩ := by
    intro f
    induction f with
    | zero => exact fun m hp env h => absurd h (Nat.not_lt_zero _)
    | succ f ih => exact fun m hp env hm h => hs m hp env (fun s' => whileN Mt Mb f s' ⟨nx, bk, ct, rt, ex⟩) h fun m' hp' env' h1 h2 => ih m' hp' env' (by omega) h2
  exact ⟨m + 1, gen (m + 1) m hp env (Nat.lt_succ_self m) h0⟩
/-- [e for ..], no `if` -/
theorem compH_of {v : Option Nat} {ds : List D} {G : MG} {Me : ME} {env : List (Option S)} {hp : List O} {R : List D → List O → Prop} {t : Tg (G, mYes, Me, R)} (Iv : List D → List D → List O → Prop) (hb : ds.length ≤ sizeLine) (h0 : Iv [] ds hp)
    (hs : ∀ acc d r hp (N : D → List O → Prop), Iv acc (d :: r) hp → (∀ y hp', still v ds hp' → Iv (acc ++ [y]) r hp' → N y hp') → G (.d d) ⟨hp, env, hp.length⟩ fun s1 => Me s1 (fun y hp3 => onH (isD y) (fun dy => N dy hp3) .mk) noX)
    (hn : ∀ acc hp, Iv acc [] hp → R acc hp) : compH v ds G mYes Me env hp R t := by
  show compL v ds G mYes Me env ds [] hp R
  have gen : ∀ (r acc : List D) hp, acc.length + r.length ≤ sizeLine → Iv acc r hp → compL v ds G mYes Me env r acc hp R := by
    intro r
    induction r with
    | nil => exact fun acc hp _ h => hn acc hp h
    | cons d r ih =>
      intro acc hp hl h
      show G (.d d) ⟨hp, env, hp.length⟩ fun s1 => mYes s1 (fun b hp2 => if b = true then Me { s1 with hp := hp2 } (fun y hp3 => on (isD y) fun dy => acc.length < sizeLine ∧ still v ds hp3 ∧ compL v ds G mYes Me env r (acc ++ [dy]) hp3 R) noX else still v ds hp2 ∧ compL v ds G mYes Me env r acc hp2 R) noX
      have q := hs acc d r hp (fun dy hp3 => acc.length < sizeLine ∧ still v ds hp3 ∧ compL v ds G mYes Me env r (acc ++ [dy]) hp3 R) h fun y hp' st h' => by
        simp only [List.length_cons] at hl
        exact ⟨by omega, st, ih (acc ++ [y]) hp' (by simp; omega) h'⟩
      exact q
  exact gen ds [] hp (by simpa using hb) h0
@[simp] theorem lt_size {n : Nat} : (n < sizeLine) = (n < 16777216) := rfl
@[simp] theorem le_size {n : Nat} : (n ≤ sizeLine) = (n ≤ 16777216) := rfl
/-! isinstance -/
theorem isi1 {d : D} {m n : String} {b : Bool} {P : D → Prop} (h1 : tyN d = some n) (h2 : kitB n m = some b) : fIsi [d, .ty m] P = P (.bl b) := by simp [fIsi, two, h1, h2, asTy, asTup, on]
theorem isi2 {d : D} {l : List D} {ms : List String} {n : String} {b : Bool} {P : D → Prop} (h1 : tyN d = some n) (h0 : tyNames l = some ms) (h2 : isAny n ms = some b) : fIsi [d, .tup l] P = P (.bl b) := by simp [fIsi, two, h1, h0, h2, asTy, asTup, on]
section
variable {P : D → Prop} {b : Bool} {i : Int} {z : Str} {x : List D}
@[simp ↓] theorem isi_non_bool : fIsi [.non, .ty "bool"] P = P (.bl false) := isi1 rfl rfl
@[simp ↓] theorem isi_non_int : fIsi [.non, .ty "int"] P = P (.bl false) := isi1 rfl rfl
@[simp ↓] theorem isi_non_str : fIsi [.non, .ty "str"] P = P (.bl false) := isi1 rfl rfl
@[simp ↓] theorem isi_non_tuple : fIsi [.non, .ty "tuple"] P = P (.bl false) := isi1 rfl rfl
@[simp ↓] theorem isi_non_list : fIsi [.non, .ty "list"] P = P (.bl false) := isi1 rfl rfl
@[simp ↓] theorem isi_non_dict : fIsi [.non, .ty "dict"] P = P (.bl false) := isi1 rfl rfl
@[simp ↓] theorem isi_non_list_tuple : fIsi [.non, .tup [.ty "list", .ty "tuple"]] P = P (.bl false) := isi2 rfl rfl rfl
@[simp ↓] theorem isi_non_int_str : fIsi [.non, .tup [.ty "int", .ty "str"]] P = P (.bl false) := isi2 rfl rfl rfl
@[simp ↓] theorem isi_non_str_int : fIsi [.non, .tup [.ty "str", .ty "int"]] P = P (.bl false) := isi2 rfl rfl rfl
@[simp ↓] theorem isi_bl_bool : fIsi [(.bl b), .ty "bool"] P = P (.bl true) := isi1 rfl rfl
@[simp ↓] theorem isi_bl_int : fIsi [(.bl b), .ty "int"] P = P (.bl true) := isi1 rfl rfl
@[simp ↓] theorem isi_bl_str : fIsi [(.bl b), .ty "str"] P = P (.bl false) := isi1 rfl rfl
@[simp ↓] theorem isi_bl_tuple : fIsi [(.bl b), .ty "tuple"] P = P (.bl false) := isi1 rfl rfl
@[simp ↓] theorem isi_bl_list : fIsi [(.bl b), .ty "list"] P = P (.bl false) := isi1 rfl rfl
@[simp ↓] theorem isi_bl_dict : fIsi [(.bl b), .ty "dict"] P = P (.bl false) := isi1 rfl rfl
@[simp ↓] theorem isi_bl_list_tuple : fIsi [(.bl b), .tup [.ty "list", .ty "tuple"]] P = P (.bl false) := isi2 rfl rfl rfl
@[simp ↓] theorem isi_bl_int_str : fIsi [(.bl b), .tup [.ty "int", .ty "str"]] P = P (.bl true) := isi2 rfl rfl rfl
@[simp ↓] theorem isi_bl_str_int : fIsi [(.bl b), .tup [.ty "str", .ty "int"]] P = P (.bl true) := isi2 rfl rfl rfl
@[simp ↓] theorem isi_int_bool : fIsi [(.int i), .ty "bool"] P = P (.bl false) := isi1 rfl rfl
@[simp ↓] theorem isi_int_int : fIsi [(.int i), .ty "int"] P = P (.bl true) := isi1 rfl rfl
@[simp ↓] theorem isi_int_str : fIsi [(.int i), .ty "str"] P = P (.bl false) := isi1 rfl rfl
@[simp ↓] theorem isi_int_tuple : fIsi [(.int i), .ty "tuple"] P = P (.bl false) := isi1 rfl rfl
@[simp ↓] theorem isi_int_list : fIsi [(.int i), .ty "list"] P = P (.bl false) := isi1 rfl rfl
@[simp ↓] theorem isi_int_dict : fIsi [(.int i), .ty "dict"] P = P (.bl false) := isi1 rfl rfl
@[simp ↓] theorem isi_int_list_tuple : fIsi [(.int i), .tup [.ty "list", .ty "tuple"]] P = P (.bl false) := isi2 rfl rfl rfl
@[simp ↓] theorem isi_int_int_str : fIsi [(.int i), .tup [.ty "int", .ty "str"]] P = P (.bl true) := isi2 rfl rfl rfl
@[simp ↓] theorem isi_int_str_int : fIsi [(.int i), .tup [.ty "str", .ty "int"]] P = P (.bl true) := isi2 rfl rfl rfl
@[simp ↓] theorem isi_str_bool : fIsi [(.str z), .ty "bool"] P = P (.bl false) := isi1 rfl rfl
@[simp ↓] theorem isi_str_int : fIsi [(.str z), .ty "int"] P = P (.bl false) := isi1 rfl rfl
@[simp ↓] theorem isi_str_str : fIsi [(.str z), .ty "str"] P = P (.bl true) := isi1 rfl rfl
@[simp ↓] theorem isi_str_tuple : fIsi [(.str z), .ty "tuple"] P = P (.bl false) := isi1 rfl rfl
@[simp ↓] theorem isi_str_list : fIsi [(.str z), .ty "list"] P = P (.bl false) := isi1 rfl rfl
@[simp ↓] theorem isi_str_dict : fIsi [(.str z), .ty "dict"] P = P (.bl false) := isi1 rfl rfl
@[simp ↓] theorem isi_str_list_tuple : fIsi [(.str z), .tup [.ty "list", .ty "tuple"]] P = P (.bl false) := isi2 rfl rfl rfl
@[simp ↓] theorem isi_str_int_str : fIsi [(.str z), .tup [.ty "int", .ty "str"]] P = P (.bl true) := isi2 rfl rfl rfl
@[simp ↓] theorem isi_str_str_int : fIsi [(.str z), .tup [.ty "str", .ty "int"]] P = P (.bl true) := isi2 rfl rfl rfl
@[simp ↓] theorem isi_tup_bool : fIsi [(.tup x), .ty "bool"] P = P (.bl false) := isi1 rfl rfl
@[simp ↓] theorem isi_tup_int : fIsi [(.tup x), .ty "int"] P = P (.bl false) := isi1 rfl rfl
@[simp ↓] theorem isi_tup_str : fIsi [(.tup x), .ty "str"] P = P (.bl false) := isi1 rfl rfl
@[simp ↓] theorem isi_tup_tuple : fIsi [(.tup x), .ty "tuple"] P = P (.bl true) := isi1 rfl rfl
@[simp ↓] theorem isi_tup_list : fIsi [(.tup x), .ty "list"] P = P (.bl false) := isi1 rfl rfl
@[simp ↓] theorem isi_tup_dict : fIsi [(.tup x), .ty "dict"] P = P (.bl false) := isi1 rfl rfl
@[simp ↓] theorem isi_tup_list_tuple : fIsi [(.tup x), .tup [.ty "list", .ty "tuple"]] P = P (.bl true) := isi2 rfl rfl rfl
@[simp ↓] theorem isi_tup_int_str : fIsi [(.tup x), .tup [.ty "int", .ty "str"]] P = P (.bl false) := isi2 rfl rfl rfl
@[simp ↓] theorem isi_tup_str_int : fIsi [(.tup x), .tup [.ty "str", .ty "int"]] P = P (.bl false) := isi2 rfl rfl rfl
@[simp ↓] theorem isi_lst_bool : fIsi [(.lst x), .ty "bool"] P = P (.bl false) := isi1 rfl rfl
@[simp ↓] theorem isi_lst_int : fIsi [(.lst x), .ty "int"] P = P (.bl false) := isi1 rfl rfl
@[simp ↓] theorem isi_lst_str : fIsi [(.lst x), .ty "str"] P = P (.bl false) := isi1 rfl rfl
@[simp ↓] theorem isi_lst_tuple : fIsi [(.lst x), .ty "tuple"] P = P (.bl false) := isi1 rfl rfl
@[simp ↓] theorem isi_lst_list : fIsi [(.lst x), .ty "list"] P = P (.bl true) := isi1 rfl rfl
@[simp ↓] theorem isi_lst_dict : fIsi [(.lst x), .ty "dict"] P = P (.bl false) := isi1 rfl rfl
@[simp ↓] theorem isi_lst_list_tuple : fIsi [(.lst x), .tup [.ty "list", .ty "tuple"]] P = P (.bl true) := isi2 rfl rfl rfl
@[simp ↓] theorem isi_lst_int_str : fIsi [(.lst x), .tup [.ty "int", .ty "str"]] P = P (.bl false) := isi2 rfl rfl rfl
@[simp ↓] theorem isi_lst_str_int : fIsi [(.lst x), .tup [.ty "str", .ty "int"]] P = P (.bl false) := isi2 rfl rfl rfl
@[simp ↓] theorem isi_fl_bool : fIsi [(.fl x), .ty "bool"] P = P (.bl false) := isi1 rfl rfl
@[simp ↓] theorem isi_fl_int : fIsi [(.fl x), .ty "int"] P = P (.bl false) := isi1 rfl rfl
@[simp ↓] theorem isi_fl_str : fIsi [(.fl x), .ty "str"] P = P (.bl false) := isi1 rfl rfl
@[simp ↓] theorem isi_fl_tuple : fIsi [(.fl x), .ty "tuple"] P = P (.bl false) := isi1 rfl rfl
@[simp ↓] theorem isi_fl_list : fIsi [(.fl x), .ty "list"] P = P (.bl true) := isi1 rfl rfl
@[simp ↓] theorem isi_fl_dict : fIsi [(.fl x), .ty "dict"] P = P (.bl false) := isi1 rfl rfl
@[simp ↓] theorem isi_fl_list_tuple : fIsi [(.fl x), .tup [.ty "list", .ty "tuple"]] P = P (.bl true) := isi2 rfl rfl rfl
@[simp ↓] theorem isi_fl_int_str : fIsi [(.fl x), .tup [.ty "int", .ty "str"]] P = P (.bl false) := isi2 rfl rfl rfl
@[simp ↓] theorem isi_fl_str_int : fIsi [(.fl x), .tup [.ty "str", .ty "int"]] P = P (.bl false) := isi2 rfl rfl rfl
end
theorem walkO_of {hp : List O} {s : S} {ds : List D} (h : val hp s = some (.lst ds)) : ∃ v, walkO hp s = some (v, ds) ∧ still v ds hp ∧ ∀ m, v = some m → m < hp.length := by
  cases s with
  | d d => cases h; exact ⟨none, rfl, trivial, fun _ z => by cases z⟩
  | mu m =>
    rw [val_O] at h
    cases g : hp[m]? with
    | none => rw [g] at h; cases h
    | some o =>
      rw [g] at h
      cases o with
      | lst es =>
        cases h
        refine ⟨some m, ?_, g, fun _ z => by cases z; exact (List.getElem?_eq_some_iff.mp g).1⟩
        simp [g]
      | _ => cases h
end Mp

set_option Elab.async false
set_option linter.all false
set_option maxRecDepth 100000
set_option maxHeartbeats 400000
/-! Mp14: more laws of data, of loops. -/
namespace Mp
open PySem PySem.Spec PyProof.Rows L2
theorem rs_pos {len c : Int} (hc : 1 ≤ c) (hl : 0 ≤ len) : Builtin.Range.rangeSize 0 len c = (len + c - 1) / c := by
  unfold Builtin.Range.rangeSize
  rw [if_pos (by omega)]
  split
  · have e : len + c - 1 = (len - 0 - 1) + 1 * c := by omega
    rw [e, Int.add_mul_ediv_right _ _ (by omega)]
  · rw [show len = 0 by omega, Int.ediv_eq_zero_of_lt (by omega) (by omega)]
theorem rgc_up {len c : Int} (h0 : 0 ≤ len) (h1 : len < 4611686018427387904) (hc : 0 < c) (hc1 : c < 1000000) : RgC 0 len c ((len + c - 1) / c).toNat := by
  have hs : Builtin.Range.rangeSize 0 len c = (len + c - 1) / c := rs_pos (by omega) h0
  have hq : 0 ≤ (len + c - 1) / c := Int.ediv_nonneg (by omega) (by omega)
  have hm : (len + c - 1) / c * c ≤ len + c - 1 := Int.ediv_mul_le _ (by omega)
  have hq2 : (len + c - 1) / c ≤ len + c - 1 := Int.ediv_le_self _ (by omega)
  refine ⟨by omega, by omega, ?_, by rw [hs]; omega⟩
  unfold Builtin.Range.small
  rw [hs]
  simp only [Builtin.Range.rangeFitsLong, Bool.and_eq_true, Bool.or_eq_true, decide_eq_true_eq, beq_iff_eq, show (c > 0) from hc, if_true]
  omega
section
variable {v : Option Nat} {all ds acc : List D} {d : D} {G : MG} {Mt : MT} {Me : ME} {env : List (Option S)} {hp : List O} {n : Nat} {R : List D → List O → Prop}
/-- one turn -/
@[simp ↓] theorem x_compC : compL v all G Mt Me env (d :: ds) acc hp R = G (.d d) ⟨hp, env, hp.length⟩ fun s1 => Mt s1 (fun b hp2 => brH b (Me ⟨hp2, s1.env, s1.n0⟩ (fun y hp3 => onH (isD y) (fun dy => acc.length < sizeLine ∧ still v all hp3 ∧ compL v all G Mt Me env ds (acc ++ [dy]) hp3 R) .mk) noX)
      (still v all hp2 ∧ compL v all G Mt Me env ds acc hp2 R) .mk) noX := nr rfl
@[simp ↓] theorem x_compN : compL v all G Mt Me env [] acc hp R = R acc hp := nr rfl
/-- two clauses, nothing changed -/
theorem compH2_of {I1 : MI} {G1 : MG} {vs1 : List Nat} {t : Tg (G, I1, G1, Me, R)} (F : D → List D) (hst : still v ds hp) (hl : (ds.flatMap F).length ≤ sizeLine)
    (hs : ∀ d ∈ ds, ∀ acc (N : List D → List O → Prop), acc.length + (F d).length ≤ sizeLine → N (acc ++ F d) hp → G (.d d) ⟨hp, env, hp.length⟩ fun s1 => I1 s1 (fun v1 ds1 hp2 => compL v1 ds1 G1 mYes Me (wipeE s1.env vs1) ds1 acc hp2 N) noX)
    (hn : R (ds.flatMap F) hp) : compH2 v ds G I1 G1 Me vs1 env hp R t := by
  show compL2 v ds G I1 G1 Me vs1 env ds [] hp R
  have gen : ∀ (r acc : List D), (∀ d ∈ r, d ∈ ds) → acc.length + (r.flatMap F).length ≤ sizeLine → R (acc ++ r.flatMap F) hp → compL2 v ds G I1 G1 Me vs1 env r acc hp R := by
    intro r
    induction r with
    | nil => intro acc _ _ h; show R acc hp; simpa using h
    | cons d r ih =>
      intro acc hm hl h
      rw [List.flatMap_cons, List.length_append] at hl
      exact hs d (hm d List.mem_cons_self) acc _ (by omega) ⟨hst, ih (acc ++ F d) (fun x hx => hm x (List.mem_cons_of_mem _ hx)) (by rw [List.length_append]; omega) (by rw [List.append_assoc]; simpa [List.flatMap_cons] using h)⟩
  exact gen ds [] (fun _ h => h) (by simpa using hl) (by simpa using hn)
end
section
variable {v : Option Nat} {all ds : List D} {d : D} {G : MG} {Mb : MS} {hp : List O} {env : List (Option S)} {n : Nat} {k : MK}
/-- a loop over a written walk, turn by turn -/
theorem forH_L {t : Tg (G, Mb, k)} (h : forL v ds G Mb ds ⟨hp, env, n⟩ k) : forH v ds G Mb hp env n k t := h
variable {nx bk ct : PS → Prop} {rt : S → List O → Prop} {ex : MX}
@[simp ↓] theorem x_forC : forL v all G Mb (d :: ds) ⟨hp, env, n⟩ ⟨nx, bk, ct, rt, ex⟩ = G (.d d) ⟨hp, env, n⟩ fun s1 => Mb s1 ⟨fun s2 => still v all s2.hp ∧ forL v all G Mb ds s2 ⟨nx, bk, ct, rt, ex⟩, nx, fun s2 => still v all s2.hp ∧ forL v all G Mb ds s2 ⟨nx, bk, ct, rt, ex⟩, rt, ex⟩ := nr rfl
@[simp ↓] theorem x_forN : forL v all G Mb [] ⟨hp, env, n⟩ ⟨nx, bk, ct, rt, ex⟩ = nx ⟨hp, env, n⟩ := nr rfl
end
/-- for over range: by place -/
theorem forH_rng {lo c : Int} {m : Nat} {G : MG} {Mb : MS} {hp : List O} {env : List (Option S)} {n : Nat} {nx bk ct : PS → Prop} {rt : S → List O → Prop} {ex : MX} {t : Tg (G, Mb, (⟨nx, bk, ct, rt, ex⟩ : MK))} (Iv : Nat → List O → List (Option S) → Prop)
    (h0 : Iv 0 hp env) (hs : ∀ (i : Nat) hp env (N : PS → Prop), i < m → Iv i hp env → (∀ hp' env', Iv (i + 1) hp' env' → N ⟨hp', env', n⟩) → G (.d (.int (lo + (i : Int) * c))) ⟨hp, env, n⟩ fun s1 => Mb s1 ⟨N, nx, N, rt, ex⟩) (hn : ∀ hp env, Iv m hp env → nx ⟨hp, env, n⟩) :
    forH none (rng lo c m) G Mb hp env n ⟨nx, bk, ct, rt, ex⟩ t := by
  refine forH_of (fun ds hp env => ∃ i, i ≤ m ∧ ds = (rng lo c m).drop i ∧ Iv i hp env) ⟨0, Nat.zero_le _, by simp, h0⟩ ?_ ?_
  · rintro d r hp env N ⟨i, hi, e, h⟩ hN
    have hlt : i < m := by
      by_cases z : i < m
      · exact z
      · rw [List.drop_eq_nil_of_le (by rw [rng_len]; omega)] at e
        cases e
    have e2 : (rng lo c m)[i]'(by rw [rng_len]; exact hlt) = D.int (lo + (i : Int) * c) := by simp [rng]
    rw [List.drop_eq_getElem_cons (by rw [rng_len]; exact hlt), e2] at e
    cases e
    exact hs i hp env N hlt h fun hp' env' h' => hN hp' env' trivial ⟨i + 1, by omega, rfl, h'⟩
  · rintro hp env ⟨i, hi, e, h⟩
    have hl := congrArg List.length e
    rw [List.length_drop, rng_len] at hl
    have hie : i = m := by simp at hl; omega
    subst hie
    exact hn hp env h
/-- for over a list of whole numbers -/
theorem forH_ints {v : Option Nat} {xs : List Int} {G : MG} {Mb : MS} {hp : List O} {env : List (Option S)} {n : Nat} {nx bk ct : PS → Prop} {rt : S → List O → Prop} {ex : MX} {t : Tg (G, Mb, (⟨nx, bk, ct, rt, ex⟩ : MK))} (Iv : List Int → List Int → List O → List (Option S) → Prop)
    (h0 : Iv [] xs hp env) (hs : ∀ (l : List Int) (x : Int) (r : List Int) hp env (N : PS → Prop), xs = l ++ x :: r → Iv l (x :: r) hp env → (∀ hp' env', still v (iL xs) hp' → Iv (l ++ [x]) r hp' env' → N ⟨hp', env', n⟩) → G (.d (.int x)) ⟨hp, env, n⟩ fun s1 => Mb s1 ⟨N, nx, N, rt, ex⟩)
    (hn : ∀ hp env, Iv xs [] hp env → nx ⟨hp, env, n⟩) : forH v (iL xs) G Mb hp env n ⟨nx, bk, ct, rt, ex⟩ t := by
  refine forH_of (fun ds hp env => ∃ l r, xs = l ++ r ∧ ds = iL r ∧ Iv l r hp env) ⟨[], xs, rfl, rfl, h0⟩ ?_ ?_
  · rintro d ds hp env N ⟨l, r, e1, e2, h⟩ hN
    cases r with
    | nil => cases e2
    | cons x r =>
      cases e2
      exact hs l x r hp env N e1 h fun hp' env' st h' => hN hp' env' st ⟨l ++ [x], r, by rw [e1]; simp, rfl, h'⟩
  · rintro hp env ⟨l, r, e1, e2, h⟩
    cases r with
    | nil => rw [List.append_nil] at e1; subst e1; exact hn hp env h
    | cons x r => cases e2
@[simp] theorem wipeE_nil {env : List (Option S)} : wipeE env [] = env := rfl
@[simp] theorem wipeE_cons {env : List (Option S)} {v : Nat} {vs : List Nat} : wipeE env (v :: vs) = (wipeE env vs).set v none := rfl
theorem val_app {hp l : List O} {s : S} {d : D} (h : val hp s = some d) : val (hp ++ l) s = some d := by
  cases s with
  | d x => exact h
  | mu m =>
    rw [val_O] at h ⊢
    cases g : hp[m]? with
    | none => rw [g] at h; cases h
    | some o =>
      rw [List.getElem?_append_left (List.getElem?_eq_some_iff.mp g).1, g]
      rw [g] at h
      exact h
theorem b2_of {b : Int} (h : 0 ≤ b ∧ b ≤ 1) : b = 0 ∨ b = 1 := by omega
/-- whole numbers of bits, the first is the highest -/
def num (g : List Int) : Int := g.foldl (fun a b => a * 2 + b) 0
theorem num_app {g : List Int} {b : Int} : num (g ++ [b]) = num g * 2 + b := by simp [num]
@[simp] theorem sIx_none {n d : Nat} : HT.sIx n d none = d := rfl
theorem sIx_at {n d : Nat} {i : Int} (h : 0 ≤ i) : HT.sIx n d (some i) = min i.toNat n := by
  show (if i < 0 then _ else _) = _
  rw [if_neg (by omega)]
@[simp ↓] theorem app_at1 {τ : Type} {hp : List τ} {x : τ} : (hp ++ [x])[hp.length]? = some x := by simp
@[simp ↓] theorem app_at2 {τ : Type} {hp : List τ} {n : Nat} {o x : τ} : (hp.set n o ++ [x])[hp.length]? = some x := by rw [List.getElem?_append_right (by simp)]; simp
@[simp ↓] theorem app_set1 {τ : Type} {hp : List τ} {x y : τ} : (hp ++ [x]).set hp.length y = hp ++ [y] := by rw [List.set_append_right _ _ (by simp)]; simp
@[simp ↓] theorem app_set2 {τ : Type} {hp : List τ} {n : Nat} {o x y : τ} : (hp.set n o ++ [x]).set hp.length y = hp.set n o ++ [y] := by rw [List.set_append_right _ _ (by simp)]; simp
theorem app_set3 {τ : Type} {hp l : List τ} {n : Nat} {o : τ} (h : n < hp.length) : (hp ++ l).set n o = hp.set n o ++ l := by rw [List.set_append_left _ _ h]
theorem app_set4 {τ : Type} {hp l : List τ} {n : Nat} {o u : τ} (h : n < hp.length) : (hp.set n u ++ l).set n o = hp.set n o ++ l := by rw [List.set_append_left _ _ (by simpa using h), List.set_set]
theorem app_at3 {τ : Type} {hp l : List τ} {n : Nat} {o : τ} (h : n < hp.length) : (hp.set n o ++ l)[n]? = some o := by rw [List.getElem?_append_left (by simpa using h), List.getElem?_set_self h]
/-- a list of whole numbers within bounds -/
def Bd (lo hi : Int) (xs : List Int) : Prop := ∀ x ∈ xs, lo ≤ x ∧ x ≤ hi
theorem Bd.nil {lo hi : Int} : Bd lo hi [] := fun _ h => by simp at h
theorem Bd.app {lo hi x : Int} {xs : List Int} (h : Bd lo hi xs) (h1 : lo ≤ x) (h2 : x ≤ hi) : Bd lo hi (xs ++ [x]) := fun y hy => by
  rcases List.mem_append.mp hy with hy | hy
  · exact h y hy
  · simp at hy; subst hy; exact ⟨h1, h2⟩
theorem Bd.set {lo hi x : Int} {xs : List Int} {j : Nat} (h : Bd lo hi xs) (h1 : lo ≤ x) (h2 : x ≤ hi) : Bd lo hi (xs.set j x) := fun y hy => by
  rcases List.mem_or_eq_of_mem_set hy with hy | hy
  · exact h y hy
  · subst hy; exact ⟨h1, h2⟩
theorem Bd.ix {lo hi i : Int} {xs : List Int} (h : Bd lo hi xs) (h0 : 0 ≤ i) (h1 : i < xs.length) : ∃ y, atI xs i = some y ∧ lo ≤ y ∧ y ≤ hi := ⟨_, atI_nat h0 h1, h _ (List.getElem_mem _)⟩
theorem ixN_nat {n : Nat} {i : Int} (h0 : 0 ≤ i) (h1 : i < n) : ixN n i = some i.toNat := by
  unfold ixN
  rw [if_pos h0, if_pos h1]
theorem ixN_last {n : Nat} (h : 0 < n) : ixN n (-1) = some (n - 1) := by
  unfold ixN
  rw [if_neg (by omega), if_pos (by omega)]
  congr 1
  omega
@[simp ↓] theorem app_at0 {τ : Type} {hp l : List τ} : (hp ++ l)[hp.length]? = l[0]? := by rw [List.getElem?_append_right (by simp)]; simp
@[simp ↓] theorem app_atk {τ : Type} {hp l : List τ} {k : Nat} : (hp ++ l)[hp.length + k]? = l[k]? := by rw [List.getElem?_append_right (by simp)]; simp
@[simp ↓] theorem app_set0 {τ : Type} {hp l : List τ} {y : τ} : (hp ++ l).set hp.length y = hp ++ l.set 0 y := by rw [List.set_append_right _ _ (by simp)]; simp
@[simp ↓] theorem app_setk {τ : Type} {hp l : List τ} {k : Nat} {y : τ} : (hp ++ l).set (hp.length + k) y = hp ++ l.set k y := by rw [List.set_append_right _ _ (by simp)]; simp
@[simp] theorem take_app {τ : Type} {hp l : List τ} : (hp ++ l).take hp.length = hp := List.take_left' rfl
@[simp] theorem take_app2 {τ : Type} {hp l : List τ} {n : Nat} {o : τ} : (hp.set n o ++ l).take hp.length = hp.set n o := List.take_left' (by simp)
theorem at_app {τ : Type} {hp : List τ} {a : Nat} {o : τ} (h : hp[a]? = some o) (l : List τ) : (hp ++ l)[a]? = some o := by rw [List.getElem?_append_left (List.getElem?_eq_some_iff.mp h).1, h]
theorem set_app {τ : Type} {hp : List τ} {a : Nat} {o : τ} (h : hp[a]? = some o) (l : List τ) (y : τ) : (hp ++ l).set a y = hp.set a y ++ l := app_set3 (List.getElem?_eq_some_iff.mp h).1
theorem at_set_app {τ : Type} {hp : List τ} {a : Nat} {o : τ} (h : hp[a]? = some o) (l : List τ) (y : τ) : (hp.set a y ++ l)[a]? = some y := app_at3 (List.getElem?_eq_some_iff.mp h).1
@[simp] theorem iL_rep2 {k : Nat} {x : Int} : List.replicate k (D.int x) = iL (List.replicate k x) := (List.map_replicate ..).symm
/-- [F d for d in ds], nothing changed -/
theorem compH_map {v : Option Nat} {ds : List D} {G : MG} {Me : ME} {env : List (Option S)} {hp : List O} {R : List D → List O → Prop} {t : Tg (G, mYes, Me, R)} (F : D → D) (hst : still v ds hp) (hb : ds.length ≤ sizeLine)
    (hs : ∀ d ∈ ds, ∀ N : D → List O → Prop, N (F d) hp → G (.d d) ⟨hp, env, hp.length⟩ fun s1 => Me s1 (fun y hp3 => onH (isD y) (fun dy => N dy hp3) .mk) noX) (hn : R (ds.map F) hp) : compH v ds G mYes Me env hp R t := by
  refine compH_of (fun acc rest hp' => hp' = hp ∧ (∀ d ∈ rest, d ∈ ds) ∧ acc ++ rest.map F = ds.map F) hb ⟨rfl, fun _ h => h, rfl⟩ ?_ ?_
  · rintro acc d r _ N ⟨rfl, hm, e⟩ hN
    exact hs d (hm d List.mem_cons_self) N (hN _ _ hst ⟨rfl, fun x hx => hm x (List.mem_cons_of_mem _ hx), by rw [List.append_assoc]; exact e⟩)
  · rintro acc _ ⟨rfl, _, e⟩
    rw [List.map_nil, List.append_nil] at e
    rw [e]
    exact hn
theorem rng_mem {lo c : Int} {n : Nat} {d : D} (h : d ∈ rng lo c n) : ∃ i : Nat, i < n ∧ d = .int (lo + (i : Int) * c) := by
  obtain ⟨i, hi, e⟩ := List.mem_map.mp h
  exact ⟨i, List.mem_range.mp hi, e.symm⟩
end Mp

set_option Elab.async false
set_option linter.all false
set_option maxRecDepth 100000
set_option maxHeartbeats 4000000
/-! Mp15: more operators, calls. -/
namespace Mp
open PySem PySem.Spec PyProof.Rows L2
/-! ### name op= e, any op of data -/
def atS (env : List (Option S)) (i : Nat) : Option S := env[i]?.join
theorem atS_some {env : List (Option S)} {i : Nat} {x : S} (h : atS env i = some x) : env[i]? = some (some x) := by
  unfold atS at h
  cases g : env[i]? with
  | none => rw [g] at h; cases h
  | some o => rw [g] at h; cases o with
    | none => cases h
    | some y => cases h; rfl
def mAug2 (i : Nat) (f : F2) (Ma : ME) : MS := fun s k => on (atS s.env i) fun x => on (isD x) fun d1 => Ma s (fun y hp' => on (val hp' y) fun d2 => f d1 d2 fun d => k.nx { s with hp := hp', env := s.env.set i (some (.d d)) }) k.ex
theorem sim_aug2 {K : Frag} {W : WX} {r : R2} {t : TE} {f : F2} {Ma : ME} (i : Nat) (hr : Sim2 K r f) (ha : SimE K W t Ma) : SimS K W (tAug i t r) (mAug2 i f Ma) := by
  intro ρ α s H σ h k m D p
  obtain ⟨x, g, m⟩ := on.ex m
  obtain ⟨d1, g1, m⟩ := on.ex m
  obtain ⟨v1, h1, r1⟩ := h.env.2 i _ (atS_some g)
  refine ⟨v1, h1, ha α s H σ h.ok h.env _ _ m _ (fun v hp1 α1 H1 u m1 e1 w1 ru => ?_) (p.postX h.pre)⟩
  obtain ⟨d2, g2, m1⟩ := on.ex m1
  have hi := h.ext e1 w1
  have rr := (r1.mono e1).isD g1
  refine hr (Al α1 hp1) H1 d1 d2 v1 u w1.non rr.t (ru.val w1 g2) _ m1 _ fun d v' H' pd rp st => ?_
  obtain ⟨e4, w4⟩ := w1.grown st
  have hi4 := hi.ext e4 w4
  exact p.nx _ α1 H' _ pd ⟨hi4.pre, hi4.n0, hi4.ok, hi4.env.set (v := .d d) rp⟩ (e1.trans e4).step (e1.trans e4).pre.ban
theorem ip_mul {X : Cx} : PIp X .Mult (rI (fun i j => CMul i j ∨ CMulW i j) fun i j => .int (i * j)) := by
  intro pins s σ H x y v u Q I r1 r2 h
  obtain ⟨i, j, e1, e2, c, q⟩ := h
  subst e1; subst e2
  obtain ⟨t, rfl⟩ := r1
  obtain ⟨t', rfl⟩ := r2
  exact imul_int ⟨.int _, H, I.tok _, ⟨_, rfl⟩, q⟩ (c.elim CMul.ok CMulW.ok)
/-! ### all(..), any(..) of truth values -/
def blsD : List D → Option (List Bool)
  | [] => some []
  | .bl b :: r => (blsD r).bind fun l => some (b :: l)
  | _ => none
theorem bls_ok {K : Frag} {A : Av} {H : Hp} : ∀ {ds : List D} {vs : List V} {l : List Bool}, RepL K A H ds vs → blsD ds = some l → vs = l.map V.bl
  | [], _, l, h, e => by cases h; cases e; rfl
  | d :: ds, _, l, ⟨v, t, e0, h, ht⟩, e => by
    subst e0
    cases d with
    | bl b =>
      have e1 : ((blsD ds).bind fun l => some (b :: l)) = some l := e
      cases g : blsD ds with
      | none => rw [g] at e1; cases e1
      | some l' =>
        rw [g] at e1
        cases e1
        cases (show v = .bl b from h)
        rw [bls_ok ht g]
        rfl
    | _ => cases e
def lstD : D → Option (List D)
  | .lst ds => some ds
  | _ => none
theorem lstD_rep {K : Frag} {A : Av} {H : Hp} {d : D} {v : V} {ds : List D} (h : RepT K A H d v) (e : lstD d = some ds) : ∃ a vs, v = .ref a ∧ SqL K H a vs ∧ RepL K A H ds vs := by
  cases d with
  | lst ds => cases e; obtain ⟨a, vs, e1, h1, r⟩ := h; exact ⟨a, vs, e1, .inl (.inl h1), r⟩
  | _ => cases e
def fQ (q : List Bool → Bool) : FN := fun ds P => one ds fun d => on (lstD d) fun xs => on (blsD xs) fun l => P (.bl (q l))
def rQ (K : Frag) (q : List Bool → Bool) : List V → Hp → VK → Prop := fun vs H Q => ∃ (a : Addr) (bs : List Bool), vs = [V.ref a] ∧ SqL K H a (bs.map V.bl) ∧ Q (.bl (q bs)) H
theorem sim_q {K : Frag} {q : List Bool → Bool} : SimN K (rQ K q) (fQ q) := by
  intro A H ds vs hA r P p Q hq
  obtain ⟨d, v, rfl, r, p⟩ := p.ex r
  obtain ⟨xs, e, p⟩ := on.ex p
  obtain ⟨l, e2, p⟩ := on.ex p
  obtain ⟨a, vs, rfl, h, r2⟩ := lstD_rep r e
  cases bls_ok r2 e2
  exact ⟨a, l, rfl, h, hq _ _ _ p rfl (.inl rfl)⟩
section
variable {X : Cx} {W : WX} {a b c e : Expr} {es : List Expr} {pos : Pos} {ta tb tc te : TE} {Ma Mb Mc Me : ME} {tA : TA} {MA' : MA}
theorem call_all (K : Frag) (hc : X.calm = true) (hK : X.K = K := by rfl) : CallR X (.builtin "all") (rQ K fun l => l.all id) := by subst hK; exact cr_all hc
theorem call_any (K : Frag) (hc : X.calm = true) (hK : X.K = K := by rfl) : CallR X (.builtin "any") (rQ K fun l => l.any id) := by subst hK; exact cr_any hc
theorem ds_aug2 (i : Nat) {x : Str} {p' : Pos} {op : Operator} {r : R2} {f : F2} (hN : X.N.Nodup) (h : DE X W e te Me) (ho : PIp X op r) (hr : Sim2 X.K r f) (hi : X.N[i]? = some x := by rfl) (hx : Loc X.env.scope x := by first | exact Or.inl rfl | exact Or.inr rfl)
    (hf : X.fn x = true ∨ X.env.scope.names.lookup x = some .local := by first | exact .inl rfl | exact .inr rfl) : DS X W (.AugAssign (.Name x p') op e pos) (tAug i te r) (mAug2 i f Me) := ⟨ps_aug hN hi hx h.p ho hf, sim_aug2 i hr h.s⟩
/-! f() -/
theorem pe_callSD0 {CX : CXT} {k : Nat} {f : Addr} {fd : FuncData} {ps : List Str} {sp : Sp} {dvs : List V} {ds : List Value} {E : L2.St → XK} {x : Str} {p : Pos} (F : FnOk X.prog X.w X.K X.mg X.base CX k f fd ps sp) (hr : Room k X.A) (hg : Gl X x) (hm : X.mg x = some (.ref f)) (hk : PySem.W.keepIn X.K (.ref f) = true) (hb : Binds X.K fd ps ds) (hd : Vals dvs ds) (hx : ∀ σ, PassesAt CX X σ (E σ))
    (hdb : (x == ("__debug__" : Str)) = false := by decide) : PE X (.Call (.Name x p) [] [] pos) (tCallSD sp dvs E tNil) := by
  refine ⟨fun pins s σ H Q I h => ?_⟩
  refine wpAny_Call_Name_kw (ld_glob I hg hm ?_ hdb)
  exact PySem.W.callWith_K0 I.kIn hk (run_fnSD (us := []) F hr hb hd (hx σ) I .nil h)
theorem de_call0 (K : Frag) {x : Str} {k n : Nat} {f : Addr} {fd : FuncData} {ps : List Str} {fr : Bool} {M : MF} {ds : List Value} {dvs : List V} {dd : List D} {p : Pos} (F : FnOk X.prog X.w K X.mg X.base (L2.CX X.prog X.w) k f fd ps (spM K n fr M)) (tk : Takes X W) (hr : Room k X.A) (hg : Gl X x) (hm : X.mg x = some (.ref f))
    (hk : PySem.W.keepIn K (.ref f) = true) (hb : Binds K fd ps ds) (hd : Vals dvs ds) (hdd : ∀ A H, RepL K A H dd dvs) (hdb : (x == ("__debug__" : Str)) = false := by decide) (hK : X.K = K := by rfl) :
    DE X W (.Call (.Name x p) [] [] pos) (tCallSD (spM K n fr M) dvs (WE W) tNil) (mCall n M dd mNil) := by subst hK; exact ⟨pe_callSD0 F hr hg hm hk hb hd (fun σ => passAt tk σ) hdb, sim_call hdd sim_nil⟩
theorem de_callM0 (K : Frag) {x : Str} {k n : Nat} {f : Addr} {fd : FuncData} {ps : List Str} {M : MF} {ds : List Value} {dvs : List V} {dd : List D} {p : Pos} (F : FnOk X.prog X.w K X.mg X.base (L2.CX X.prog X.w) k f fd ps (spM K n true M)) (tk : Takes X W) (hr : Room k X.A) (hg : Gl X x) (hm : X.mg x = some (.ref f))
    (hk : PySem.W.keepIn K (.ref f) = true) (hb : Binds K fd ps ds) (hd : Vals dvs ds) (hdd : ∀ A H, RepL K A H dd dvs) (hdb : (x == ("__debug__" : Str)) = false := by decide) (hK : X.K = K := by rfl) :
    DE X W (.Call (.Name x p) [] [] pos) (tCallSD (spM K n true M) dvs (WE W) tNil) (mCallM n M dd mNil) := by subst hK; exact ⟨pe_callSD0 F hr hg hm hk hb hd (fun σ => passAt tk σ) hdb, sim_callM hdd sim_nil⟩
end
/-! running -/
section
variable {hp : List O} {env : List (Option S)} {n : Nat} {Ma : ME} {nx bk ct : PS → Prop} {rt : S → List O → Prop} {ex : MX}
@[simp ↓] theorem x_aug2 {i : Nat} {f : F2} : mAug2 i f Ma ⟨hp, env, n⟩ ⟨nx, bk, ct, rt, ex⟩ = onH (atS env i) (fun x => onH (isD x) (fun d1 => Ma ⟨hp, env, n⟩ (fun y hp' => onH (val hp' y) (fun d2 => f d1 d2 fun d => nx ⟨hp', env.set i (some (.d d)), n⟩) .mk) ex) .mk) .mk := nr rfl
@[simp] theorem atS_eq {i : Nat} : atS env i = env[i]?.join := rfl
def bL (xs : List Bool) : List D := xs.map D.bl
@[simp] theorem blsD_bL : ∀ {xs : List Bool}, blsD (bL xs) = some xs
  | [] => rfl
  | b :: xs => by
    show ((blsD (bL xs)).bind fun l => some (b :: l)) = _
    rw [blsD_bL]
    rfl
@[simp ↓] theorem xfQ {q : List Bool → Bool} {x : List D} {P : D → Prop} : fQ q [.lst x] P = onH (blsD x) (fun l => P (.bl (q l))) .mk := nr rfl
end
/-! ### x is True, xs[::-1], lists made by + or * that will be changed -/
def fIsB (neg : Bool) : F2 := fun a b P => on (asB' a) fun x => on (asB' b) fun y => P (.bl (neg != decide (x = y)))
theorem sim_isB {K : Frag} : Sim2 K rIsB (fIsB false) := by
  intro A H d1 d2 v1 v2 hA r1 r2 P p Q q
  obtain ⟨x, e1, p⟩ := on.ex p
  obtain ⟨y, e2, p⟩ := on.ex p
  cases r1.asB e1
  cases r2.asB e2
  exact ⟨x, y, rfl, rfl, q _ _ _ p (by show V.bl _ = V.bl _; simp) (.inl rfl)⟩
theorem sim_notB {K : Frag} : Sim2 K rNotB (fIsB true) := by
  intro A H d1 d2 v1 v2 hA r1 r2 P p Q q
  obtain ⟨x, e1, p⟩ := on.ex p
  obtain ⟨y, e2, p⟩ := on.ex p
  cases r1.asB e1
  cases r2.asB e2
  exact ⟨x, y, rfl, rfl, q _ _ _ p (by show V.bl _ = V.bl _; simp) (.inl rfl)⟩
def mRev (Ma : ME) : ME := fun s R Xp => Ma s (fun x hp1 => on (val hp1 x) fun d => on (slOf d) fun ds => R (.d (.lst ds.reverse)) hp1) Xp
def mRevM (Ma : ME) : ME := fun s R Xp => Ma s (fun x hp1 => on (val hp1 x) fun d => on (slOf d) fun ds => R (.mu hp1.length) (hp1 ++ [.lst ds.reverse])) Xp
theorem slOf_rep {K : Frag} {A : Av} {H : Hp} {d : D} {v : V} {ds : List D} (h : RepT K A H d v) (e : slOf d = some ds) : ∃ a vs, v = .ref a ∧ SqL K H a vs ∧ RepL K A H ds vs := by
  cases d with
  | lst ds => cases e; obtain ⟨a, vs, e1, h1, r⟩ := h; exact ⟨a, vs, e1, .inl (.inl h1), r⟩
  | fl ds => cases e; exact fl_sq (h : Rep K A H (.fl _) v)
  | _ => cases e
theorem RepL.rev {K : Frag} {A : Av} {H : Hp} : ∀ {ds : List D} {vs : List V}, RepL K A H ds vs → RepL K A H ds.reverse vs.reverse
  | [], _, h => by cases h; rfl
  | d :: ds, _, ⟨v, r, e, h1, h2⟩ => by
    subst e
    rw [List.reverse_cons, List.reverse_cons]
    exact (RepL.rev h2).append ⟨v, [], rfl, h1, rfl⟩
theorem sim_rev {K : Frag} {W : WX} {t : TE} {Ma : ME} (ha : SimE K W t Ma) : SimE K W (tRevL K t) (mRev Ma) := by
  intro α s H σ w e R Xp m Q q qx
  refine ha α s H σ w e _ _ m _ (fun x hp1 α1 H1 v1 m1 e1 w1 r1 => ?_) qx
  obtain ⟨d, g1, m1⟩ := on.ex m1
  obtain ⟨ds, g2, m1⟩ := on.ex m1
  obtain ⟨a, vs, rfl, h1, r⟩ := slOf_rep (r1.val w1 g1) g2
  refine ⟨a, vs, rfl, h1, fun l hl => ?_⟩
  obtain ⟨e4, w4⟩ := w1.grown (.inr ⟨l, .lst vs.reverse, hl, rfl⟩)
  exact q _ _ α1 _ _ m1 (e1.trans e4) w4 (new_lst w1.non hl r.rev)
theorem sim_revM {K : Frag} {W : WX} {t : TE} {Ma : ME} (ha : SimE K W t Ma) : SimE K W (tRevL K t) (mRevM Ma) := by
  intro α s H σ w e R Xp m Q q qx
  refine ha α s H σ w e _ _ m _ (fun x hp1 α1 H1 v1 m1 e1 w1 r1 => ?_) qx
  obtain ⟨d, g1, m1⟩ := on.ex m1
  obtain ⟨ds, g2, m1⟩ := on.ex m1
  obtain ⟨a, vs, rfl, h1, r⟩ := slOf_rep (r1.val w1 g1) g2
  refine ⟨a, vs, rfl, h1, fun l hl => ?_⟩
  obtain ⟨α2, w2, e2, r3⟩ := new_mu w1 hl r.rev
  exact q _ _ α2 _ _ m1 (e1.trans e2) w2 r3
def mAddM (Ma Mb : ME) : ME := fun s R Xp => Ma s (fun x hp1 => Mb { s with hp := hp1 } (fun y hp2 => on (val hp2 x) fun d1 => on (val hp2 y) fun d2 => on (lstD d1) fun xs => on (lstD d2) fun ys => xs.length + ys.length ≤ sizeLine ∧ R (.mu hp2.length) (hp2 ++ [.lst (xs ++ ys)])) Xp) Xp
theorem sim_addM {K : Frag} {W : WX} {ta tb : TE} {Ma Mb : ME} (ha : SimE K W ta Ma) (hb : SimE K W tb Mb) : SimE K W (tOp (rAddA K) ta tb) (mAddM Ma Mb) := by
  intro α s H σ w e R Xp m Q q qx
  refine ha α s H σ w e _ _ m _ (fun x hp1 α1 H1 v1 m1 e1 w1 r1 => ?_) qx
  refine hb α1 { s with hp := hp1 } H1 σ w1 (e.mono e1) _ _ m1 _ (fun y hp2 α2 H2 v2 m2 e2 w2 r2 => ?_) (qx.at e1)
  obtain ⟨d1, g1, m2⟩ := on.ex m2
  obtain ⟨d2, g2, m2⟩ := on.ex m2
  obtain ⟨xs, g3, m3⟩ := on.ex m2
  obtain ⟨ys, g4, hz, m4⟩ := on.ex m3
  have t1 := (r1.mono e2).val w2 g1
  have t2 := r2.val w2 g2
  cases d1 with
  | lst xs' =>
    cases g3
    cases d2 with
    | lst ys' =>
      cases g4
      obtain ⟨a, vs, rfl, h1, k1⟩ := t1
      obtain ⟨b, us, rfl, h2, k2⟩ := t2
      refine .inr (.inr (.inl ⟨a, b, vs, us, rfl, rfl, h1, h2, by rw [← k1.length, ← k2.length]; exact hz, fun l hl => ?_⟩))
      obtain ⟨α3, w3, e3, r3⟩ := new_mu w2 hl (k1.append k2)
      exact q _ _ α3 _ _ m4 ((e1.trans e2).trans e3) w3 r3
    | _ => cases g4
  | _ => cases g3
section
variable {X : Cx} {W : WX} {a b c e : Expr} {pos : Pos} {ta tb : TE} {Ma Mb : ME}
theorem de_rev (K : Frag) {k : Nat} {p1 p2 p3 : Pos} (ha : DE X W a ta Ma) (hK : X.K = K := by rfl) : DE X W (.Subscript a (.Slice none none (some (.UnaryOp .USub (.Constant (.int 1) k p1) p2)) p3) pos) (tRevL K ta) (mRev Ma) := by subst hK; exact ⟨pe_revL ha.p, sim_rev ha.s⟩
theorem de_revM (K : Frag) {k : Nat} {p1 p2 p3 : Pos} (ha : DE X W a ta Ma) (hK : X.K = K := by rfl) : DE X W (.Subscript a (.Slice none none (some (.UnaryOp .USub (.Constant (.int 1) k p1) p2)) p3) pos) (tRevL K ta) (mRevM Ma) := by subst hK; exact ⟨pe_revL ha.p, sim_revM ha.s⟩
theorem de_addM (K : Frag) (ha : DE X W a ta Ma) (hb : DE X W b tb Mb) (hK : X.K = K := by rfl) : DE X W (.BinOp a .Add b pos) (tOp (rAddA K) ta tb) (mAddM Ma Mb) := by subst hK; exact ⟨pe_op op_addA ha.p hb.p, sim_addM ha.s hb.s⟩
end
section
variable {hp : List O} {env : List (Option S)} {n : Nat} {R : S → List O → Prop} {Xp : MX} {Ma Mb : ME} {P : D → Prop}
@[simp ↓] theorem xfIsB {neg x y : Bool} : fIsB neg (.bl x) (.bl y) P = P (.bl (neg != decide (x = y))) := nr rfl
@[simp ↓] theorem x_rev : mRev Ma ⟨hp, env, n⟩ R Xp = Ma ⟨hp, env, n⟩ (fun x hp1 => onH (val hp1 x) (fun d => onH (slOf d) (fun ds => R (.d (.lst ds.reverse)) hp1) .mk) .mk) Xp := nr rfl
@[simp ↓] theorem x_revM : mRevM Ma ⟨hp, env, n⟩ R Xp = Ma ⟨hp, env, n⟩ (fun x hp1 => onH (val hp1 x) (fun d => onH (slOf d) (fun ds => R (.mu hp1.length) (hp1 ++ [.lst ds.reverse])) .mk) .mk) Xp := nr rfl
@[simp] theorem lstD_lst {ds : List D} : lstD (.lst ds) = some ds := rfl
@[simp ↓] theorem x_addM : mAddM Ma Mb ⟨hp, env, n⟩ R Xp = Ma ⟨hp, env, n⟩ (fun x hp1 => Mb ⟨hp1, env, n⟩ (fun y hp2 => onH (val hp2 x) (fun d1 => onH (val hp2 y) (fun d2 => onH (lstD d1) (fun xs => onH (lstD d2) (fun ys => xs.length + ys.length ≤ sizeLine ∧ R (.mu hp2.length) (hp2 ++ [.lst (xs ++ ys)])) .mk) .mk) .mk) .mk) Xp) Xp := nr rfl
end
end Mp

set_option Elab.async false
set_option linter.all false
set_option maxRecDepth 100000
set_option maxHeartbeats 4000000
namespace Pl
open PySem PySem.Spec PyProof.Rows L2 Mp
def m__law_mix : MF := mDef 4 false
    ((mSeq (mAsg (m2 (fI (fun _ j => 0 < j) fun i j => .int (i % j)) (mN fInt (mCons (m2 fAdd (m2 fAdd (m2 fMul (mVar 0) (mC (.int 48271))) (m2 fMul (mVar 1) (mC (.int 1234567891)))) (mC (.int 12345679))) mNil)) (mC (.int 2147483647))) (mgName 2))
    (mSeq (mAsg (m2 (fI (fun _ j => 0 < j) fun i j => .int (i % j)) (mN fInt (mCons (m2 fAdd (m2 fAdd (m2 fAdd (m2 fMul (mVar 2) (mVar 2)) (m2 fMul (m2 (fI CDivW fun i j => .int (i / j)) (mVar 2) (mC (.int 3))) (mC (.int 16807)))) (mVar 1)) (mC (.int 65537))) mNil)) (mC (.int 2147483629))) (mgName 3))
    (mRet (m2 (fI (fun _ j => 0 < j) fun i j => .int (i % j)) (mN fInt (mCons (m2 fAdd (m2 fMul (mVar 3) (mC (.int 69621))) (m2 (fI CDivW fun i j => .int (i / j)) (mVar 2) (mC (.int 1024)))) mNil)) (mC (.int 2147483587)))))))
def m__law_store : MF := mDef 3 false
    ((mSeq (mAsg (mC (.int 7)) (mgName 1))
    (mSeq (mFor (miSq (mVar 0)) (mgName 2) (mAsg (mCall 2 m__law_mix [] (mCons (mVar 1) (mCons (m2 (fI (fun _ j => 0 < j) fun i j => .int (i % j)) (mN fInt (mCons (mVar 2) mNil)) (mC (.int 2147483647))) mNil))) (mgName 1)))
    (mRet (mDisp (((mC (.str "cells")), (mN fList (mCons (mVar 0) mNil))) :: (((mC (.str "cell")), (mC (.int 0))) :: (((mC (.str "rest")), (mC (.int 0))) :: (((mC (.str "small")), (mC (.int 0))) :: (((mC (.str "left")), (mC (.int 0))) :: (((mC (.str "turn")), (mC (.int 0))) :: (((mC (.str "seed")), (mVar 1)) :: []))))))))))))
def m__law_take : MF := mDef 8 false
    ((mSeq (mIfS (mTest (m2 (fI0 fun i j => .bl (decide (i < j))) (mVar 1) (mC (.int 2)))) (mRet (mC (.int 0))) mNext)
    (mSeq (mIfS (mAnd (mTest (m2 fEq (mDGet (mVar 0) (mC (.str "rest"))) (mC (.int 0)))) (mAnd (mTest (m2 fEq (mDGet (mVar 0) (mC (.str "left"))) (mC (.int 0)))) (mTest (m2 (fI0 fun i j => .bl (decide (i < j))) (mDGet (mVar 0) (mC (.str "cell"))) (mN fLen (mCons (mDGet (mVar 0) (mC (.str "cells"))) mNil)))))) (mSeq (mAsg (m2 fIx (mDGet (mVar 0) (mC (.str "cells"))) (mDGet (mVar 0) (mC (.str "cell")))) (mgName 2))
    (mSeq (mDPut (mVar 0) (mC (.str "cell")) (m2 fAdd (mDGet (mVar 0) (mC (.str "cell"))) (mC (.int 1))))
    (mIfS (mTest (m2 (fI0 fun i j => .bl (decide (j ≤ i))) (mN fAbs (mCons (mVar 2) mNil)) (m2 (fI CPow fun i j => .int (i ^ j.toNat)) (mC (.int 10)) (mC (.int 18))))) (mDPut (mVar 0) (mC (.str "rest")) (mN fAbs (mCons (mVar 2) mNil))) (mSeq (mDPut (mVar 0) (mC (.str "small")) (mVar 2))
    (mDPut (mVar 0) (mC (.str "left")) (mC (.int 2))))))) mNext)
    (mSeq (mIfS (mTest (m2 (fI0 fun i j => .bl (decide (j < i))) (mDGet (mVar 0) (mC (.str "rest"))) (mC (.int 0)))) (mSeq (mAsg (mDGet (mVar 0) (mC (.str "rest"))) (mgName 3))
    (mSeq (mDPut (mVar 0) (mC (.str "rest")) (m2 (fI CDivW fun i j => .int (i / j)) (mVar 3) (mVar 1)))
    (mRet (m2 (fI (fun _ j => 0 < j) fun i j => .int (i % j)) (mN fInt (mCons (mVar 3) mNil)) (mVar 1))))) mNext)
    (mSeq (mAsg (mDGet (mVar 0) (mC (.str "seed"))) (mgName 4))
    (mSeq (mIfS (mTest (m2 (fI0 fun i j => .bl (decide (j < i))) (mDGet (mVar 0) (mC (.str "left"))) (mC (.int 0)))) (mSeq (mDPut (mVar 0) (mC (.str "left")) (m2 (fI0 fun i j => .int (i - j)) (mDGet (mVar 0) (mC (.str "left"))) (mC (.int 1))))
    (mAsg (mDGet (mVar 0) (mC (.str "small"))) (mgName 4))) mNext)
    (mSeq (mAsg (mC (.int 0)) (mgName 5))
    (mSeq (mAsg (mC (.int 1)) (mgName 6))
    (mSeq (mIfS (mTest (m2 (fI0 fun i j => .bl (decide (j < i))) (mVar 1) (m2 (fI CPow fun i j => .int (i ^ j.toNat)) (mC (.int 10)) (mC (.int 8))))) (mAsg (mC (.int 6)) (mgName 6)) mNext)
    (mSeq (mFor (miRng f1R (mCons (mVar 6) mNil)) (mgName 7) (mSeq (mDPut (mVar 0) (mC (.str "turn")) (m2 fAdd (mDGet (mVar 0) (mC (.str "turn"))) (mC (.int 1))))
    (mAsg (m2 fAdd (m2 fMul (mVar 5) (mC (.int 2147483587))) (mCall 2 m__law_mix [] (mCons (mVar 4) (mCons (mDGet (mVar 0) (mC (.str "turn"))) mNil)))) (mgName 5))))
    (mRet (m2 (fI (fun _ j => 0 < j) fun i j => .int (i % j)) (mN fInt (mCons (mVar 5) mNil)) (mVar 1)))))))))))))
def m__law_pick : MF := mDef 2 false
    ((mRet (m2 fIx (mVar 1) (mCall 2 m__law_take [] (mCons (mVar 0) (mCons (mN fLen (mCons (mVar 1) mNil)) mNil))))))
def b__law_equal (z_self : MF) : MF := mDef 3 false
    ((mSeq (mIfS (mTest (mN fIsi (mCons (mVar 0) (mCons (mTup (mCons (mC (.ty "list")) (mCons (mC (.ty "tuple")) mNil))) mNil)))) (mSeq (mIfS (mOr (mTest (m2 fNe (mN fIsi (mCons (mVar 0) (mCons (mC (.ty "list")) mNil))) (mN fIsi (mCons (mVar 1) (mCons (mC (.ty "list")) mNil))))) (mTest (m2 fNe (mN fIsi (mCons (mVar 0) (mCons (mC (.ty "tuple")) mNil))) (mN fIsi (mCons (mVar 1) (mCons (mC (.ty "tuple")) mNil)))))) (mRet (mC (.bl false))) mNext)
    (mSeq (mIfS (mTest (m2 fNe (mN fLen (mCons (mVar 0) mNil)) (mN fLen (mCons (mVar 1) mNil)))) (mRet (mC (.bl false))) mNext)
    (mSeq (mFor (miRng f1R (mCons (mN fLen (mCons (mVar 0) mNil)) mNil)) (mgName 2) (mIfS (mNot (mTest (mCall 2 z_self [] (mCons (m2 fIx (mVar 0) (mVar 2)) (mCons (m2 fIx (mVar 1) (mVar 2)) mNil))))) (mRet (mC (.bl false))) mNext))
    (mRet (mC (.bl true)))))) mNext)
    (mSeq (mIfS (mTest (mN fIsi (mCons (mVar 1) (mCons (mTup (mCons (mC (.ty "list")) (mCons (mC (.ty "tuple")) mNil))) mNil)))) (mRet (mC (.bl false))) mNext)
    (mSeq (mIfS (mOr (mTest (m2 fIsN (mVar 0) (mC .non))) (mTest (m2 fIsN (mVar 1) (mC .non)))) (mRet (mAndV (m2 fIsN (mVar 0) (mC .non)) (m2 fIsN (mVar 1) (mC .non)))) mNext)
    (mSeq (mIfS (mOr (mTest (mN fIsi (mCons (mVar 0) (mCons (mC (.ty "bool")) mNil)))) (mTest (mN fIsi (mCons (mVar 1) (mCons (mC (.ty "bool")) mNil))))) (mRet (mAndV (mN fIsi (mCons (mVar 0) (mCons (mC (.ty "bool")) mNil))) (mAndV (mN fIsi (mCons (mVar 1) (mCons (mC (.ty "bool")) mNil))) (m2 fEq (mVar 0) (mVar 1))))) mNext)
    (mSeq (mIfS (mOr (mTest (mN fIsi (mCons (mVar 0) (mCons (mC (.ty "str")) mNil)))) (mTest (mN fIsi (mCons (mVar 1) (mCons (mC (.ty "str")) mNil))))) (mRet (mAndV (mN fIsi (mCons (mVar 0) (mCons (mC (.ty "str")) mNil))) (mAndV (mN fIsi (mCons (mVar 1) (mCons (mC (.ty "str")) mNil))) (m2 fEq (mVar 0) (mVar 1))))) mNext)
    (mRet (mAndV (mN fIsi (mCons (mVar 0) (mCons (mC (.ty "int")) mNil))) (mAndV (mN fIsi (mCons (mVar 1) (mCons (mC (.ty "int")) mNil))) (m2 fEq (mVar 0) (mVar 1)))))))))))
def m__law_equal : Nat → MF
  | 0 => fun _ _ _ _ => False
  | n + 1 => b__law_equal (m__law_equal n)
def m__law_span : MF := mDef 4 false
    ((mSeq (mAsg (mCall 2 m__law_take [] (mCons (mVar 0) (mCons (mC (.int 6)) mNil))) (mgName 3))
    (mSeq (mIfS (mOr (mTest (m2 fEq (mVar 3) (mC (.int 0)))) (mTest (m2 (fI0 fun i j => .bl (decide (i ≤ j))) (mVar 2) (mVar 1)))) (mRet (mVar 1)) mNext)
    (mSeq (mIfS (mTest (m2 fEq (mVar 3) (mC (.int 1)))) (mRet (mVar 2)) mNext)
    (mRet (m2 fAdd (mVar 1) (mCall 2 m__law_take [] (mCons (mVar 0) (mCons (m2 fAdd (m2 (fI0 fun i j => .int (i - j)) (mVar 2) (mVar 1)) (mC (.int 1))) mNil)))))))))
def m__law_count : MF := mDef 3 false
    ((mSeq (mIfS (mTest (m2 fEq (mCall 2 m__law_take [] (mCons (mVar 0) (mCons (mC (.int 12)) mNil))) (mC (.int 11)))) (mRet (mCall 3 m__law_span [] (mCons (mVar 0) (mCons (mC (.int 0)) (mCons (mVar 2) mNil))))) mNext)
    (mRet (mCall 2 m__law_take [] (mCons (mVar 0) (mCons (m2 fAdd (mVar 1) (mC (.int 1))) mNil))))))
def m__law_octet : MF := mDef 1 false
    ((mSeq (mIfS (mTest (m2 fEq (mCall 2 m__law_take [] (mCons (mVar 0) (mCons (mC (.int 2)) mNil))) (mC (.int 0)))) (mRet (mCall 2 m__law_pick [] (mCons (mVar 0) (mCons (mLst (mCons (mC (.int 0)) (mCons (mC (.int 1)) (mCons (mC (.int 2)) (mCons (mC (.int 31)) (mCons (mC (.int 32)) (mCons (mC (.int 63)) (mCons (mC (.int 64)) (mCons (mC (.int 127)) (mCons (mC (.int 128)) (mCons (mC (.int 129)) (mCons (mC (.int 130)) (mCons (mC (.int 132)) (mCons (mC (.int 133)) (mCons (mC (.int 159)) (mCons (mC (.int 160)) (mCons (mC (.int 223)) (mCons (mC (.int 254)) (mCons (mC (.int 255)) mNil))))))))))))))))))) mNil)))) mNext)
    (mRet (mCall 2 m__law_take [] (mCons (mVar 0) (mCons (mC (.int 256)) mNil))))))
def m__law_is_integer : MF := mDef 1 false
    ((mRet (mAndV (mN fIsi (mCons (mVar 0) (mCons (mC (.ty "int")) mNil))) (mNotV (mN fIsi (mCons (mVar 0) (mCons (mC (.ty "bool")) mNil)))))))
def m__law_is_row : MF := mDef 4 false
    ((mSeq (mIfS (mNot (mTest (mN fIsi (mCons (mVar 0) (mCons (mC (.ty "list")) mNil))))) (mRet (mC (.bl false))) mNext)
    (mSeq (mFor (miSq (mVar 0)) (mgName 3) (mIfS (mOr (mNot (mTest (mCall 1 m__law_is_integer [] (mCons (mVar 3) mNil)))) (mOr (mTest (m2 (fI0 fun i j => .bl (decide (i < j))) (mVar 3) (mVar 1))) (mTest (m2 (fI0 fun i j => .bl (decide (j < i))) (mVar 3) (mVar 2))))) (mRet (mC (.bl false))) mNext))
    (mRet (mC (.bl true))))))
end Pl

set_option Elab.async false
set_option linter.all false
set_option maxRecDepth 100000
set_option maxHeartbeats 100000
namespace Pl
open PySem PySem.Spec PyProof.Rows L2 Mp
theorem s_mix {hp : List O} {a b : Int} {R : S → List O → Prop} {Xp : MX} {t : Tg (m__law_mix, R, Xp)} (h : ∀ r : Int, R (.d (.int r)) hp) : mfH m__law_mix hp [.d (.int a), .d (.int b)] R Xp t := by
  refine mfH_of ?_
  unfold m__law_mix
  simp
  exact ⟨.inl (.inl ⟨by omega, by omega⟩), h _⟩
def sto (cs : List Int) (c r s l t sd : Int) : List (Key × D) := [(.inr "cells", .lst (iL cs)), (.inr "cell", .int c), (.inr "rest", .int r), (.inr "small", .int s), (.inr "left", .int l), (.inr "turn", .int t), (.inr "seed", .int sd)]
section
variable {cs : List Int} {c r s l t sd x : Int}
@[simp] theorem g1 : getK (sto cs c r s l t sd) (.inr "cells") = some (.lst (iL cs)) := rfl
@[simp] theorem g2 : getK (sto cs c r s l t sd) (.inr "cell") = some (.int c) := rfl
@[simp] theorem g3 : getK (sto cs c r s l t sd) (.inr "rest") = some (.int r) := rfl
@[simp] theorem g4 : getK (sto cs c r s l t sd) (.inr "small") = some (.int s) := rfl
@[simp] theorem g5 : getK (sto cs c r s l t sd) (.inr "left") = some (.int l) := rfl
@[simp] theorem g6 : getK (sto cs c r s l t sd) (.inr "turn") = some (.int t) := rfl
@[simp] theorem g7 : getK (sto cs c r s l t sd) (.inr "seed") = some (.int sd) := rfl
@[simp] theorem p2 : setK (sto cs c r s l t sd) (.inr "cell") (.int x) = sto cs x r s l t sd := rfl
@[simp] theorem p3 : setK (sto cs c r s l t sd) (.inr "rest") (.int x) = sto cs c x s l t sd := rfl
@[simp] theorem p4 : setK (sto cs c r s l t sd) (.inr "small") (.int x) = sto cs c r x l t sd := rfl
@[simp] theorem p5 : setK (sto cs c r s l t sd) (.inr "left") (.int x) = sto cs c r s x t sd := rfl
@[simp] theorem p6 : setK (sto cs c r s l t sd) (.inr "turn") (.int x) = sto cs c r s l x sd := rfl
@[simp] theorem sto_len : (sto cs c r s l t sd).length = 7 := rfl
@[simp] theorem sto_ok : ((sto cs c r s l t sd).length < sizeLine) = True := by simp [sizeLine]
end
/-- the store, as every law makes it -/
def St (o : O) : Prop := ∃ cs c r s l t sd, o = .dct (sto cs c r s l t sd) ∧ 0 ≤ c
theorem s_take {hp : List O} {n : Nat} {many : Int} {o : O} {R : S → List O → Prop} {Xp : MX} {tg : Tg (m__law_take, R, Xp)} (ho : hp[n]? = some o) (hs : St o) (hm : many < 2 ^ 200)
    (h : ∀ (r : Int) o', St o' → 0 ≤ r → (2 ≤ many → r < many) → (many < 2 → r = 0) → R (.d (.int r)) (hp.set n o')) : mfH m__law_take hp [.mu n, .d (.int many)] R Xp tg := by
  obtain ⟨cs, c, r, s, l, t, sd, rfl, hc⟩ := hs
  have hg := set_at ho
  refine mfH_of ?_
  unfold m__law_take
  simp only [x_def]
  refine seq_cut (fun hp' env' => hp = hp' ∧ [some (.mu n), some (.d (.int many)), none, none, none, none, none, none] = env' ∧ 2 ≤ many) (fun N hN => ?_) ?_
  · simp
    refine brH_of (fun hb => ?_) (fun hb => ?_)
    · simp at hb
      have := h 0 (.dct (sto cs c r s l t sd)) ⟨_, _, _, _, _, _, _, rfl, hc⟩ (by omega) (by omega) (by omega)
      rw [set_same ho] at this
      simpa using this
    · simp at hb
      simpa using hN _ _ ⟨rfl, rfl, hb⟩
  rintro hp' env' ⟨rfl, rfl, hm2⟩
  refine seq_cut (fun hp' env' => ∃ c r s l t sd x, hp' = hp.set n (.dct (sto cs c r s l t sd)) ∧ env' = [some (.mu n), some (.d (.int many)), x, none, none, none, none, none] ∧ 0 ≤ c) (fun N hN => ?_) ?_
  · have hN0 := hN _ _ ⟨c, r, s, l, t, sd, none, rfl, rfl, hc⟩
    rw [set_same ho] at hN0
    simp [ho]
    refine brH_of (fun hb => ?_) (fun hb => ?_)
    rotate_left
    · simpa using hN0
    simp [ho]
    refine brH_of (fun hb => ?_) (fun hb => ?_)
    rotate_left
    · simpa using hN0
    simp [ho]
    refine brH_of (fun hb => ?_) (fun hb => ?_)
    rotate_left
    · simpa using hN0
    simp at hb
    simp [ho, atI_nat hc hb]
    refine brH_of (fun hb => ?_) (fun hb => ?_)
    · simp [ho, hg]
      exact hN _ _ ⟨_, _, _, _, _, _, _, rfl, rfl, by omega⟩
    · simp [ho, hg]
      exact hN _ _ ⟨_, _, _, _, _, _, _, rfl, rfl, by omega⟩
  rintro _ _ ⟨c, r, s, l, t, sd, x, rfl, rfl, hc⟩
  refine seq_cut (fun hp' env' => hp.set n (.dct (sto cs c r s l t sd)) = hp' ∧ [some (.mu n), some (.d (.int many)), x, none, none, none, none, none] = env') (fun N hN => ?_) ?_
  · simp [hg]
    refine brH_of (fun hb => ?_) (fun hb => ?_)
    · have h1 : (0 : Int) < many := by omega
      have h2 : ∀ x, CDivW x many := fun x => ⟨h1, Nat.lt_trans (log2_lt (n := many.natAbs) (k := 200) (by omega) (by decide)) (by decide)⟩
      simp [hg, h1, h2, retP]
      exact h _ _ ⟨_, _, _, _, _, _, _, rfl, hc⟩ (Int.emod_nonneg _ (by omega)) (fun _ => Int.emod_lt_of_pos _ h1) (fun z => by omega)
    · simpa using hN _ _ ⟨rfl, rfl⟩
  rintro _ _ ⟨rfl, rfl⟩
  refine seq_cut (fun hp' env' => hp.set n (.dct (sto cs c r s l t sd)) = hp' ∧ [some (.mu n), some (.d (.int many)), x, none, some (.d (.int sd)), none, none, none] = env') (fun N hN => ?_) ?_
  · simpa [hg] using hN _ _ ⟨rfl, rfl⟩
  rintro _ _ ⟨rfl, rfl⟩
  refine seq_cut (fun hp' env' => ∃ l b, hp' = hp.set n (.dct (sto cs c r s l t sd)) ∧ env' = [some (.mu n), some (.d (.int many)), x, none, some (.d (.int b)), none, none, none]) (fun N hN => ?_) ?_
  · simp [hg]
    refine brH_of (fun hb => ?_) (fun hb => ?_)
    · simp [hg]
      exact hN _ _ ⟨_, _, rfl, rfl⟩
    · simpa using hN _ _ ⟨_, _, rfl, rfl⟩
  rintro _ _ ⟨l, b, rfl, rfl⟩
  simp only [x_seq, x_asg, x_c, x_gName]
  refine cut_nx (fun hp' env' => ∃ k : Nat, k ≤ 6 ∧ hp' = hp.set n (.dct (sto cs c r s l t sd)) ∧ env' = [some (.mu n), some (.d (.int many)), x, none, some (.d (.int b)), some (.d (.int 0)), some (.d (.int k)), none]) (fun N hN => ?_) ?_
  · simp
    refine brH_of (fun hb => ?_) (fun hb => ?_)
    · simpa using hN _ _ ⟨6, by omega, rfl, rfl⟩
    · simpa using hN _ _ ⟨1, by omega, rfl, rfl⟩
  rintro _ _ ⟨k, hk, rfl, rfl⟩
  have k1 : (k : Int) < 4611686018427387904 := by omega
  have k2 : (-4611686018427387904 : Int) ≤ k := by omega
  simp [k1, k2]
  refine forH_of (fun ds hp' env' => ∃ t tot y, hp' = hp.set n (.dct (sto cs c r s l t sd)) ∧ env' = [some (.mu n), some (.d (.int many)), x, none, some (.d (.int b)), some (.d (.int tot)), some (.d (.int k)), y]) ⟨_, _, _, rfl, rfl⟩ ?_ ?_
  · rintro d ds _ _ N ⟨t, tot, y, rfl, rfl⟩ hN
    simp [hg]
    refine s_mix fun z => ?_
    simp
    exact hN _ _ trivial ⟨_, _, _, rfl, rfl⟩
  · rintro _ _ ⟨t, tot, y, rfl, rfl⟩
    have h1 : (0 : Int) < many := by omega
    simp [h1]
    exact h _ _ ⟨_, _, _, _, _, _, _, rfl, hc⟩ (Int.emod_nonneg _ (by omega)) (fun _ => Int.emod_lt_of_pos _ h1) (fun z => by omega)
end Pl

set_option Elab.async false
set_option linter.all false
set_option maxRecDepth 100000
set_option maxHeartbeats 100000
namespace Pl
open PySem PySem.Spec PyProof.Rows L2 Mp
variable {hp : List O} {n : Nat} {o : O} {R : S → List O → Prop} {Xp : MX}
theorem s_store {ns : List Int} {tg : Tg (m__law_store, R, Xp)} (hl : ns.length ≤ 63) (h : ∀ o', St o' → R (.mu hp.length) (hp ++ [o'])) : mfH m__law_store hp [.d (.fl (iL ns))] R Xp tg := by
  refine mfH_of ?_
  unfold m__law_store
  simp
  refine forH_of (fun ds hp' env' => (∃ ms : List Int, ds = iL ms) ∧ hp' = hp ∧ ∃ a y, env' = [some (.d (.fl (iL ns))), some (.d (.int a)), y]) ⟨⟨ns, rfl⟩, rfl, _, _, rfl⟩ ?_ ?_
  · rintro d ds _ _ N ⟨⟨ms, e⟩, rfl, a, y, rfl⟩ hN
    cases ms with
    | nil => cases e
    | cons m ms =>
      cases e
      simp
      refine s_mix fun z => ?_
      simp
      exact hN _ _ trivial ⟨⟨ms, rfl⟩, rfl, _, _, rfl⟩
  · rintro _ _ ⟨_, rfl, a, y, rfl⟩
    simp
    refine onH_of (x := sto ns 0 0 0 0 0 a) rfl ⟨by simp, ?_⟩
    rw [show mergeD [] (sto ns 0 0 0 0 0 a) = sto ns 0 0 0 0 0 a from rfl]
    simp
    exact h _ ⟨_, _, _, _, _, _, _, rfl, by omega⟩
theorem s_pick {xs : List D} {tg : Tg (m__law_pick, R, Xp)} (ho : hp[n]? = some o) (hs : St o) (h0 : 0 < xs.length) (h1 : xs.length < 2 ^ 60) (h : ∀ (i : Nat) (hi : i < xs.length) o', St o' → R (.d xs[i]) (hp.set n o')) : mfH m__law_pick hp [.mu n, .d (.lst xs)] R Xp tg := by
  refine mfH_of ?_
  unfold m__law_pick
  simp
  refine s_take ho hs (by omega) fun r o' hs' h0 h2 h3 => ?_
  have hr : r < xs.length := by
    by_cases z : (2 : Int) ≤ xs.length
    · exact h2 z
    · have := h3 (by omega); omega
  simp [atI_nat h0 hr]
  exact h _ _ _ hs'
theorem s_span {lo hi : Int} {tg : Tg (m__law_span, R, Xp)} (ho : hp[n]? = some o) (hs : St o) (hb : hi - lo < 2 ^ 59) (h : ∀ (r : Int) o', St o' → lo ≤ r → (r ≤ hi ∨ r = lo) → R (.d (.int r)) (hp.set n o')) : mfH m__law_span hp [.mu n, .d (.int lo), .d (.int hi)] R Xp tg := by
  have hg := set_at ho
  refine mfH_of ?_
  unfold m__law_span
  simp
  refine s_take ho hs (by omega) fun r o' hs' h0 h2 h3 => ?_
  simp
  refine brH_of (fun hb => ?_) (fun hb => ?_)
  · simp
    exact h _ _ hs' (by omega) (.inr rfl)
  simp
  refine brH_of (fun hb => ?_) (fun hb => ?_)
  · simp
    exact h _ _ hs' (by omega) (.inr rfl)
  simp at hb
  simp
  refine brH_of (fun hb => ?_) (fun hb => ?_)
  · simp
    exact h _ _ hs' (by omega) (.inl (by omega))
  simp
  refine s_take (hg _) hs' (by omega) fun r o' hs' h0 h2 h3 => ?_
  simp
  exact h _ _ hs' (by omega) (by omega)
theorem s_count {few many : Int} {tg : Tg (m__law_count, R, Xp)} (ho : hp[n]? = some o) (hs : St o) (h1 : few < 2 ^ 59) (h2 : many < 2 ^ 59) (h3 : 0 ≤ few) (h4 : 0 ≤ many) (h : ∀ (r : Int) o', St o' → 0 ≤ r → (r ≤ few ∨ r ≤ many) → R (.d (.int r)) (hp.set n o')) : mfH m__law_count hp [.mu n, .d (.int few), .d (.int many)] R Xp tg := by
  have hg := set_at ho
  refine mfH_of ?_
  unfold m__law_count
  simp
  refine s_take ho hs (by omega) fun r o' hs' h0 h2 h3 => ?_
  simp
  refine brH_of (fun hb => ?_) (fun hb => ?_)
  · simp
    refine s_span (hg _) hs' (by omega) fun r o' hs' h0 h2 => ?_
    simp
    exact h _ _ hs' h0 (by omega)
  simp
  refine s_take (hg _) hs' (by omega) fun r o' hs' h0 h2 h3 => ?_
  simp
  exact h _ _ hs' h0 (by omega)
theorem s_octet {tg : Tg (m__law_octet, R, Xp)} (ho : hp[n]? = some o) (hs : St o) (h : ∀ (r : Int) o', St o' → 0 ≤ r → r ≤ 255 → R (.d (.int r)) (hp.set n o')) : mfH m__law_octet hp [.mu n] R Xp tg := by
  have hg := set_at ho
  refine mfH_of ?_
  unfold m__law_octet
  simp
  refine s_take ho hs (by omega) fun r o' hs' h0 h2 h3 => ?_
  simp
  refine brH_of (fun hb => ?_) (fun hb => ?_)
  · simp
    refine s_pick (hg _) hs' (by simp) (by simp) fun i hi o' hs' => ?_
    simp at hi
    have : i = 0 ∨ i = 1 ∨ i = 2 ∨ i = 3 ∨ i = 4 ∨ i = 5 ∨ i = 6 ∨ i = 7 ∨ i = 8 ∨ i = 9 ∨ i = 10 ∨ i = 11 ∨ i = 12 ∨ i = 13 ∨ i = 14 ∨ i = 15 ∨ i = 16 ∨ i = 17 := by omega
    rcases this with rfl | rfl | rfl | rfl | rfl | rfl | rfl | rfl | rfl | rfl | rfl | rfl | rfl | rfl | rfl | rfl | rfl | rfl <;> (simp; exact h _ _ hs' (by omega) (by omega))
  simp
  refine s_take (hg _) hs' (by omega) fun r o' hs' h0 h2 h3 => ?_
  simp
  exact h _ _ hs' h0 (by omega)
theorem s_is_integer {i : Int} {tg : Tg (m__law_is_integer, R, Xp)} (h : R (.d (.bl true)) hp) : mfH m__law_is_integer hp [.d (.int i)] R Xp tg := by
  refine mfH_of ?_
  unfold m__law_is_integer
  simpa using h
theorem s_is_row {xs : List Int} {s : S} {lo hi : Int} {tg : Tg (m__law_is_row, R, Xp)} (hv : val hp s = some (.lst (iL xs))) (hb : ∀ x ∈ xs, lo ≤ x ∧ x ≤ hi) (h : R (.d (.bl true)) hp) : mfH m__law_is_row hp [s, .d (.int lo), .d (.int hi)] R Xp tg := by
  obtain ⟨v, hw, hst, hvl⟩ := walkO_of hv
  refine mfH_of ?_
  unfold m__law_is_row
  simp [hv, hw]
  refine ⟨hvl, ?_⟩
  refine forH_of (fun ds hp' env' => (∃ ms : List Int, ds = iL ms ∧ ∀ x ∈ ms, lo ≤ x ∧ x ≤ hi) ∧ hp' = hp ∧ ∃ y, env' = [some s, some (.d (.int lo)), some (.d (.int hi)), y]) ⟨⟨xs, rfl, hb⟩, rfl, _, rfl⟩ ?_ ?_
  · rintro d ds _ _ N ⟨⟨ms, e, hm⟩, rfl, y, rfl⟩ hN
    cases ms with
    | nil => cases e
    | cons m ms =>
      cases e
      simp at hm
      simp
      refine s_is_integer ?_
      have c1 : ¬ m < lo := by omega
      have c2 : ¬ hi < m := by omega
      simp [c1, c2]
      exact hN _ _ hst ⟨⟨ms, rfl, hm.2⟩, rfl, _, rfl⟩
  · rintro _ _ ⟨_, rfl, y, rfl⟩
    simpa using h
end Pl

set_option Elab.async false
set_option linter.all false
set_option maxRecDepth 100000
set_option maxHeartbeats 4000000
namespace Qk03
open PySem PySem.Spec PyProof.Rows L2 Mp Pl
def top (i : Nat) : Stmt := PySem.Challenge.pw_tagoctets_k03_signed_octets.main.body.getD i (.Pass ⟨0, 0, 0, 0⟩)
abbrev n_wide_octets : List Str := ["number", "count", "digit"]
abbrev s_wide_octets : Stmt := top 7
abbrev n_signed_octets : List Str := ["number", "count", "half"]
abbrev s_signed_octets : Stmt := top 8
abbrev n_is_integer : List Str := ["thing"]
abbrev s_is_integer : Stmt := top 5
abbrev n_is_octet_row : List Str := ["thing", "octet"]
abbrev s_is_octet_row : Stmt := top 6
abbrev n_is_least : List Str := ["octets"]
abbrev s_is_least : Stmt := top 10
abbrev n__law_mix : List Str := ["_law_first", "_law_second", "_law_once", "_law_twice"]
abbrev s__law_mix : Stmt := top 12
abbrev n__law_store : List Str := ["_law_script", "_law_seed", "_law_cell"]
abbrev s__law_store : Stmt := top 13
abbrev n__law_take : List Str := ["_law_store_here", "_law_many", "_law_cell", "_law_rest", "_law_base", "_law_total", "_law_rounds", "_law_k"]
abbrev s__law_take : Stmt := top 14
abbrev n__law_pick : List Str := ["_law_store_here", "_law_row"]
abbrev s__law_pick : Stmt := top 15
abbrev n__law_equal : List Str := ["_law_first", "_law_second", "_law_k"]
abbrev s__law_equal : Stmt := top 16
abbrev n__law_clamp : List Str := ["_law_number", "_law_low", "_law_high"]
abbrev s__law_clamp : Stmt := top 20
abbrev n__law_lowest : List Str := []
abbrev s__law_lowest : Stmt := top 21
abbrev n__law_highest : List Str := []
abbrev s__law_highest : Stmt := top 22
abbrev n__law_chain_highest : List Str := []
abbrev s__law_chain_highest : Stmt := top 23
abbrev n__law_power : List Str := ["_law_count", "_law_total", "_law_k"]
abbrev s__law_power : Stmt := top 19
abbrev n__law_figure : List Str := ["_law_store_here", "_law_side", "_law_power_here", "_law_edge"]
abbrev s__law_figure : Stmt := top 24
abbrev n__law_octet : List Str := ["_law_store_here"]
abbrev s__law_octet : Stmt := top 25
abbrev n__law_unsigned : List Str := ["_law_row", "_law_total", "_law_octet_here"]
abbrev s__law_unsigned : Stmt := top 26
abbrev n__law_due_count : List Str := ["_law_number", "_law_half", "_law_k"]
abbrev s__law_due_count : Stmt := top 27
abbrev n__law_is_integer : List Str := ["_law_thing"]
abbrev s__law_is_integer : Stmt := top 17
abbrev n__law_is_row : List Str := ["_law_thing", "_law_low", "_law_high", "_law_one"]
abbrev s__law_is_row : Stmt := top 18
abbrev n__law_row_of_number : List Str := ["_law_number", "_law_row", "_law_told"]
abbrev s__law_row_of_number : Stmt := top 28
abbrev n_signed_number : List Str := ["octets", "number", "octet"]
abbrev s_signed_number : Stmt := top 9
abbrev n__law_means : List Str := ["_law_row", "_law_number", "_law_kept", "_law_told", "_law_due", "_law_again"]
abbrev s__law_means : Stmt := top 29
abbrev n__law_no_octets : List Str := ["_law_store_here", "_law_row", "_law_spot", "_law_wrong", "_law_bent", "_law_deep", "_law_k", "_law_long", "_law_things"]
abbrev s__law_no_octets : Stmt := top 30
abbrev n_law : List Str := ["_law_script", "_law_store_here", "_law_ends", "_law_number", "_law_near", "_law_row", "_law_fill", "_law_extra", "_law_drawn", "_law_k", "_law_worth", "_law_thing"]
abbrev s_law : Stmt := top 31
theorem sc_wide_octets : FnScope n_wide_octets ["number", "count"] (defScope s_wide_octets) := ⟨rfl, rfl, rfl, by decide +kernel, rfl, by decide +kernel, by decide +kernel⟩
theorem sc_signed_octets : FnScope n_signed_octets ["number"] (defScope s_signed_octets) := ⟨rfl, rfl, rfl, by decide +kernel, rfl, by decide +kernel, by decide +kernel⟩
theorem sc_is_integer : FnScope n_is_integer ["thing"] (defScope s_is_integer) := ⟨rfl, rfl, rfl, by decide +kernel, rfl, by decide +kernel, by decide +kernel⟩
theorem sc_is_octet_row : FnScope n_is_octet_row ["thing"] (defScope s_is_octet_row) := ⟨rfl, rfl, rfl, by decide +kernel, rfl, by decide +kernel, by decide +kernel⟩
theorem sc_is_least : FnScope n_is_least ["octets"] (defScope s_is_least) := ⟨rfl, rfl, rfl, by decide +kernel, rfl, by decide +kernel, by decide +kernel⟩
theorem sc__law_mix : FnScope n__law_mix ["_law_first", "_law_second"] (defScope s__law_mix) := ⟨rfl, rfl, rfl, by decide +kernel, rfl, by decide +kernel, by decide +kernel⟩
theorem sc__law_store : FnScope n__law_store ["_law_script"] (defScope s__law_store) := ⟨rfl, rfl, rfl, by decide +kernel, rfl, by decide +kernel, by decide +kernel⟩
theorem sc__law_take : FnScope n__law_take ["_law_store_here", "_law_many"] (defScope s__law_take) := ⟨rfl, rfl, rfl, by decide +kernel, rfl, by decide +kernel, by decide +kernel⟩
theorem sc__law_pick : FnScope n__law_pick ["_law_store_here", "_law_row"] (defScope s__law_pick) := ⟨rfl, rfl, rfl, by decide +kernel, rfl, by decide +kernel, by decide +kernel⟩
theorem sc__law_equal : FnScope n__law_equal ["_law_first", "_law_second"] (defScope s__law_equal) := ⟨rfl, rfl, rfl, by decide +kernel, rfl, by decide +kernel, by decide +kernel⟩
theorem sc__law_clamp : FnScope n__law_clamp ["_law_number", "_law_low", "_law_high"] (defScope s__law_clamp) := ⟨rfl, rfl, rfl, by decide +kernel, rfl, by decide +kernel, by decide +kernel⟩
theorem sc__law_lowest : FnScope n__law_lowest [] (defScope s__law_lowest) := ⟨rfl, rfl, rfl, by decide +kernel, rfl, by decide +kernel, by decide +kernel⟩
theorem sc__law_highest : FnScope n__law_highest [] (defScope s__law_highest) := ⟨rfl, rfl, rfl, by decide +kernel, rfl, by decide +kernel, by decide +kernel⟩
theorem sc__law_chain_highest : FnScope n__law_chain_highest [] (defScope s__law_chain_highest) := ⟨rfl, rfl, rfl, by decide +kernel, rfl, by decide +kernel, by decide +kernel⟩
theorem sc__law_power : FnScope n__law_power ["_law_count"] (defScope s__law_power) := ⟨rfl, rfl, rfl, by decide +kernel, rfl, by decide +kernel, by decide +kernel⟩
theorem sc__law_figure : FnScope n__law_figure ["_law_store_here"] (defScope s__law_figure) := ⟨rfl, rfl, rfl, by decide +kernel, rfl, by decide +kernel, by decide +kernel⟩
theorem sc__law_octet : FnScope n__law_octet ["_law_store_here"] (defScope s__law_octet) := ⟨rfl, rfl, rfl, by decide +kernel, rfl, by decide +kernel, by decide +kernel⟩
theorem sc__law_unsigned : FnScope n__law_unsigned ["_law_row"] (defScope s__law_unsigned) := ⟨rfl, rfl, rfl, by decide +kernel, rfl, by decide +kernel, by decide +kernel⟩
theorem sc__law_due_count : FnScope n__law_due_count ["_law_number"] (defScope s__law_due_count) := ⟨rfl, rfl, rfl, by decide +kernel, rfl, by decide +kernel, by decide +kernel⟩
theorem sc__law_is_integer : FnScope n__law_is_integer ["_law_thing"] (defScope s__law_is_integer) := ⟨rfl, rfl, rfl, by decide +kernel, rfl, by decide +kernel, by decide +kernel⟩
theorem sc__law_is_row : FnScope n__law_is_row ["_law_thing", "_law_low", "_law_high"] (defScope s__law_is_row) := ⟨rfl, rfl, rfl, by decide +kernel, rfl, by decide +kernel, by decide +kernel⟩
theorem sc__law_row_of_number : FnScope n__law_row_of_number ["_law_number"] (defScope s__law_row_of_number) := ⟨rfl, rfl, rfl, by decide +kernel, rfl, by decide +kernel, by decide +kernel⟩
theorem sc_signed_number : FnScope n_signed_number ["octets"] (defScope s_signed_number) := ⟨rfl, rfl, rfl, by decide +kernel, rfl, by decide +kernel, by decide +kernel⟩
theorem sc__law_means : FnScope n__law_means ["_law_row", "_law_number"] (defScope s__law_means) := ⟨rfl, rfl, rfl, by decide +kernel, rfl, by decide +kernel, by decide +kernel⟩
theorem sc__law_no_octets : FnScope n__law_no_octets ["_law_store_here", "_law_row"] (defScope s__law_no_octets) := ⟨rfl, rfl, rfl, by decide +kernel, rfl, by decide +kernel, by decide +kernel⟩
theorem sc_law : FnScope n_law ["_law_script"] (defScope s_law) := ⟨rfl, rfl, rfl, by decide +kernel, rfl, by decide +kernel, by decide +kernel⟩
abbrev FnP (K : PySem.W.Frag) (x : Str) (st : Stmt) (f : Addr) (fd : FuncData) : Prop := FunD K x x (defArgs st) (defBody st) (defScope st) [] [] f fd
def m_wide_octets : MF := mDef 3 true
    ((mRet (mLcM (miRng f3R (mCons (m2 (fI0 fun i j => .int (i - j)) (mVar 1) (mC (.int 1))) (mCons (m1 (fU fun i => .int (-i)) (mC (.int 1))) (mCons (m1 (fU fun i => .int (-i)) (mC (.int 1))) mNil)))) (mgName 2) mYes (m2 (fI0 fun i j => .int (Builtin.bitAnd i j)) (m2 (fI (fun _ j => 0 ≤ j) fun i j => .int (i / 2 ^ j.toNat)) (mVar 0) (m2 fMul (mC (.int 8)) (mVar 2))) (mC (.int 255))) [2])))
def m_signed_octets : MF := mDef 3 true
    ((mSeq (mAsg (mC (.int 1)) (mgName 1))
    (mSeq (mAsg (mC (.int 128)) (mgName 2))
    (mSeq (mWhile (mOr (mTest (m2 (fI0 fun i j => .bl (decide (i < j))) (mVar 0) (m1 (fU fun i => .int (-i)) (mVar 2)))) (mTest (m2 (fI0 fun i j => .bl (decide (j ≤ i))) (mVar 0) (mVar 2)))) (mSeq (mAug 1 (fun i j => i + j) (mC (.int 1)))
    (mAug2 2 (fI (fun i j => CMul i j ∨ CMulW i j) fun i j => .int (i * j)) (mC (.int 256)))))
    (mRet (mCallM 2 m_wide_octets [] (mCons (mVar 0) (mCons (mVar 1) mNil))))))))
def m_is_integer : MF := mDef 1 false
    ((mRet (mAndV (mN fIsi (mCons (mVar 0) (mCons (mC (.ty "int")) mNil))) (mNotV (mN fIsi (mCons (mVar 0) (mCons (mC (.ty "bool")) mNil)))))))
def m_is_octet_row : MF := mDef 2 false
    ((mSeq (mIfS (mNot (mTest (mN fIsi (mCons (mVar 0) (mCons (mTup (mCons (mC (.ty "list")) (mCons (mC (.ty "tuple")) mNil))) mNil))))) (mRet (mC (.bl false))) mNext)
    (mRet (mN (fQ fun l => l.all id) (mCons (mLc (miSq (mVar 0)) (mgName 1) mYes (mAndV (mCall 1 m_is_integer [] (mCons (mVar 1) mNil)) (mChain (fI0 fun i j => .bl (decide (i ≤ j))) (fI0 fun i j => .bl (decide (i ≤ j))) (mC (.int 0)) (mVar 1) (mC (.int 255)))) [1]) mNil)))))
def m_is_least : MF := mDef 1 false
    ((mSeq (mIfS (mOr (mNot (mTest (mCall 1 m_is_octet_row [] (mCons (mVar 0) mNil)))) (mNot (mTest (mChain (fI0 fun i j => .bl (decide (i ≤ j))) (fI0 fun i j => .bl (decide (i ≤ j))) (mC (.int 1)) (mN fLen (mCons (mVar 0) mNil)) (mC (.int 16)))))) (mRet (mC (.bl false))) mNext)
    (mSeq (mIfS (mTest (m2 fEq (mN fLen (mCons (mVar 0) mNil)) (mC (.int 1)))) (mRet (mC (.bl true))) mNext)
    (mSeq (mIfS (mTest (m2 fEq (m2 fIx (mVar 0) (mC (.int 0))) (mC (.int 0)))) (mRet (m2 (fI0 fun i j => .bl (decide (j ≤ i))) (m2 fIx (mVar 0) (mC (.int 1))) (mC (.int 128)))) mNext)
    (mSeq (mIfS (mTest (m2 fEq (m2 fIx (mVar 0) (mC (.int 0))) (mC (.int 255)))) (mRet (m2 (fI0 fun i j => .bl (decide (i < j))) (m2 fIx (mVar 0) (mC (.int 1))) (mC (.int 128)))) mNext)
    (mRet (mC (.bl true))))))))
def m__law_clamp : MF := mDef 3 false
    ((mRet (mN (fMM (fun i j => if j > i then j else i)) (mCons (mVar 1) (mCons (mN (fMM (fun i j => if j < i then j else i)) (mCons (mVar 2) (mCons (mVar 0) mNil))) mNil)))))
def m__law_lowest : MF := mDef 0 false
    ((mRet (m2 fMul (m1 (fU fun i => .int (-i)) (m2 (fI CPow fun i j => .int (i ^ j.toNat)) (mC (.int 2)) (mC (.int 63)))) (m2 (fI CPow fun i j => .int (i ^ j.toNat)) (mC (.int 2)) (mC (.int 64))))))
def m__law_highest : MF := mDef 0 false
    ((mRet (m2 (fI0 fun i j => .int (i - j)) (m2 fMul (m2 (fI CPow fun i j => .int (i ^ j.toNat)) (mC (.int 2)) (mC (.int 63))) (m2 (fI CPow fun i j => .int (i ^ j.toNat)) (mC (.int 2)) (mC (.int 64)))) (mC (.int 1)))))
def m__law_chain_highest : MF := mDef 0 false
    ((mRet (m2 (fI0 fun i j => .int (i - j)) (m2 (fI CPow fun i j => .int (i ^ j.toNat)) (mC (.int 2)) (mC (.int 63))) (mC (.int 1)))))
def m__law_power : MF := mDef 3 false
    ((mSeq (mAsg (mC (.int 1)) (mgName 1))
    (mSeq (mFor (miRng f1R (mCons (mVar 0) mNil)) (mgName 2) (mAsg (m2 fMul (mVar 1) (mC (.int 2))) (mgName 1)))
    (mRet (mVar 1)))))
def m__law_figure : MF := mDef 4 false
    ((mSeq (mAsg (mCall 2 m__law_take [] (mCons (mVar 0) (mCons (mC (.int 5)) mNil))) (mgName 1))
    (mSeq (mIfS (mTest (m2 fEq (mVar 1) (mC (.int 0)))) (mRet (mCall 2 m__law_pick [] (mCons (mVar 0) (mCons (mLst (mCons (mC (.int 0)) (mCons (mC (.int 1)) (mCons (m1 (fU fun i => .int (-i)) (mC (.int 1))) (mCons (mC (.int 127)) (mCons (mC (.int 128)) (mCons (m1 (fU fun i => .int (-i)) (mC (.int 128))) (mCons (m1 (fU fun i => .int (-i)) (mC (.int 129))) (mCons (mC (.int 255)) (mCons (mC (.int 256)) (mCons (mC (.int 32767)) (mCons (mC (.int 32768)) (mCons (m1 (fU fun i => .int (-i)) (mC (.int 32768))) (mCons (m1 (fU fun i => .int (-i)) (mC (.int 32769))) mNil)))))))))))))) mNil)))) mNext)
    (mSeq (mIfS (mTest (m2 fEq (mVar 1) (mC (.int 1)))) (mSeq (mAsg (mCall 1 m__law_power [] (mCons (m2 fAdd (m2 fMul (mC (.int 8)) (mCall 2 m__law_take [] (mCons (mVar 0) (mCons (mC (.int 16)) mNil)))) (mC (.int 7))) mNil)) (mgName 2))
    (mSeq (mAsg (mCall 2 m__law_pick [] (mCons (mVar 0) (mCons (mLst (mCons (m2 (fI0 fun i j => .int (i - j)) (mVar 2) (mC (.int 1))) (mCons (mVar 2) (mCons (m1 (fU fun i => .int (-i)) (mVar 2)) (mCons (m2 (fI0 fun i j => .int (i - j)) (m1 (fU fun i => .int (-i)) (mVar 2)) (mC (.int 1))) (mCons (m2 fAdd (mVar 2) (mC (.int 1))) (mCons (m2 (fI0 fun i j => .int (i - j)) (mC (.int 1)) (mVar 2)) mNil))))))) mNil))) (mgName 3))
    (mRet (mCall 3 m__law_clamp [] (mCons (mVar 3) (mCons (mCall 0 m__law_lowest [] mNil) (mCons (mCall 0 m__law_highest [] mNil) mNil))))))) mNext)
    (mSeq (mIfS (mTest (m2 fEq (mVar 1) (mC (.int 2)))) (mRet (m2 fAdd (mCall 0 m__law_lowest [] mNil) (mCall 2 m__law_take [] (mCons (mVar 0) (mCons (m2 fMul (m2 (fI CPow fun i j => .int (i ^ j.toNat)) (mC (.int 2)) (mC (.int 64))) (m2 (fI CPow fun i j => .int (i ^ j.toNat)) (mC (.int 2)) (mC (.int 64)))) mNil))))) mNext)
    (mRet (m2 (fI0 fun i j => .int (i - j)) (mCall 2 m__law_take [] (mCons (mVar 0) (mCons (mC (.int 601)) mNil))) (mC (.int 300)))))))))
def m__law_unsigned : MF := mDef 3 false
    ((mSeq (mAsg (mC (.int 0)) (mgName 1))
    (mSeq (mFor (miSq (mVar 0)) (mgName 2) (mAsg (m2 fAdd (m2 fMul (mVar 1) (mC (.int 256))) (mVar 2)) (mgName 1)))
    (mSeq (mIfS (mTest (m2 (fI0 fun i j => .bl (decide (j < i))) (m2 fIx (mVar 0) (mC (.int 0))) (mC (.int 127)))) (mAsg (m2 (fI0 fun i j => .int (i - j)) (mVar 1) (mCall 1 m__law_power [] (mCons (m2 fMul (mC (.int 8)) (mN fLen (mCons (mVar 0) mNil))) mNil))) (mgName 1)) mNext)
    (mRet (mVar 1))))))
def m__law_due_count : MF := mDef 3 false
    ((mSeq (mAsg (mC (.int 128)) (mgName 1))
    (mSeq (mFor (miRng f1R (mCons (mC (.int 15)) mNil)) (mgName 2) (mSeq (mIfS (mAnd (mTest (m2 (fI0 fun i j => .bl (decide (i ≤ j))) (m1 (fU fun i => .int (-i)) (mVar 1)) (mVar 0))) (mTest (m2 (fI0 fun i j => .bl (decide (i < j))) (mVar 0) (mVar 1)))) (mRet (m2 fAdd (mVar 2) (mC (.int 1)))) mNext)
    (mAsg (m2 fMul (mVar 1) (mC (.int 256))) (mgName 1))))
    (mRet (mC (.int 16))))))
def m__law_row_of_number : MF := mDef 3 false
    ((mSeq (mAsg (mCallM 1 m_signed_octets [] (mCons (mVar 0) mNil)) (mgName 1))
    (mSeq (mIfS (mOr (mNot (mTest (mCall 3 m__law_is_row [] (mCons (mVar 1) (mCons (mC (.int 0)) (mCons (mC (.int 255)) mNil)))))) (mTest (m2 fNe (mN fLen (mCons (mVar 1) mNil)) (mCall 1 m__law_due_count [] (mCons (mVar 0) mNil))))) (mRet (mC (.bl false))) mNext)
    (mSeq (mIfS (mTest (m2 fNe (mCall 1 m__law_unsigned [] (mCons (mVar 1) mNil)) (mVar 0))) (mRet (mC (.bl false))) mNext)
    (mSeq (mAsg (mN fList (mCons (mVar 1) mNil)) (mgName 2))
    (mSeq (mAsg (m2 (fI0 fun i j => .int (i - j)) (mC (.int 255)) (m2 fIx (mVar 1) (mC (.int 0)))) (mgSub (mVar 1) (mC (.int 0))))
    (mSeq (mDrop (mMeth false fAppend (mVar 1) (mCons (mC (.int 1)) mNil)))
    (mRet (mCall 2 (m__law_equal 3) [] (mCons (mCall 1 m_signed_octets [] (mCons (mVar 0) mNil)) (mCons (mVar 2) mNil)))))))))))
def m_signed_number : MF := mDef 3 false
    ((mSeq (mAsg (mC (.int 0)) (mgName 1))
    (mSeq (mFor (miSq (mVar 0)) (mgName 2) (mAsg (m2 fAdd (m2 fMul (mVar 1) (mC (.int 256))) (mVar 2)) (mgName 1)))
    (mSeq (mIfS (mTest (m2 (fI0 fun i j => .bl (decide (j ≤ i))) (m2 fIx (mVar 0) (mC (.int 0))) (mC (.int 128)))) (mAug 1 (fun i j => i - j) (m2 (fI CPow fun i j => .int (i * 2 ^ j.toNat)) (mC (.int 1)) (m2 fMul (mC (.int 8)) (mN fLen (mCons (mVar 0) mNil))))) mNext)
    (mRet (mVar 1))))))
def m__law_means : MF := mDef 6 false
    ((mSeq (mAsg (mN fList (mCons (mVar 0) mNil)) (mgName 2))
    (mSeq (mAsg (mCall 1 m_signed_number [] (mCons (mVar 0) mNil)) (mgName 3))
    (mSeq (mIfS (mOr (mNot (mTest (mCall 1 m__law_is_integer [] (mCons (mVar 3) mNil)))) (mOr (mTest (m2 fNe (mVar 3) (mVar 1))) (mNot (mTest (mCall 2 (m__law_equal 3) [] (mCons (mVar 0) (mCons (mVar 2) mNil))))))) (mRet (mC (.bl false))) mNext)
    (mSeq (mAsg (m2 fEq (mN fLen (mCons (mVar 0) mNil)) (mCall 1 m__law_due_count [] (mCons (mVar 1) mNil))) (mgName 4))
    (mSeq (mIfS (mOr (mNot (mTest (mCall 2 (m__law_equal 3) [] (mCons (mCall 1 m_is_least [] (mCons (mVar 0) mNil)) (mCons (mVar 4) mNil))))) (mOr (mNot (mTest (mCall 2 (m__law_equal 3) [] (mCons (mCall 1 m_is_least [] (mCons (mN fTuple (mCons (mVar 2) mNil)) mNil)) (mCons (mVar 4) mNil))))) (mNot (mTest (mCall 2 (m__law_equal 3) [] (mCons (mVar 0) (mCons (mVar 2) mNil))))))) (mRet (mC (.bl false))) mNext)
    (mSeq (mAsg (m2 (fI0 fun i j => .int (i - j)) (mC (.int 255)) (m2 fIx (mVar 0) (mC (.int 0)))) (mgSub (mVar 0) (mC (.int 0))))
    (mSeq (mIfS (mTest (m2 fNe (mCall 1 m_signed_number [] (mCons (mVar 0) mNil)) (mCall 1 m__law_unsigned [] (mCons (mVar 0) mNil)))) (mRet (mC (.bl false))) mNext)
    (mSeq (mAsg (mCall 1 m_signed_number [] (mCons (mVar 2) mNil)) (mgName 5))
    (mRet (mAndV (mCall 1 m__law_is_integer [] (mCons (mVar 5) mNil)) (m2 fEq (mVar 5) (mVar 1)))))))))))))
def m__law_no_octets : MF := mDef 9 false
    ((mSeq (mAsg (mCall 2 m__law_take [] (mCons (mVar 0) (mCons (mN fLen (mCons (mVar 1) mNil)) mNil))) (mgName 2))
    (mSeq (mAsg (mCall 2 m__law_pick [] (mCons (mVar 0) (mCons (mLst (mCons (mC (.int 256)) (mCons (m1 (fU fun i => .int (-i)) (mC (.int 1))) (mCons (mC (.int 1000)) (mCons (mC (.bl true)) (mCons (mC (.bl false)) (mCons (mC .non) (mCons (mC (.str "a")) (mCons (mC (.str "")) (mCons (mLst (mCons (mC (.int 5)) mNil)) (mCons (mTup (mCons (mC (.int 5)) mNil)) (mCons (m2 (fI CPow fun i j => .int (i ^ j.toNat)) (mC (.int 2)) (mC (.int 64))) mNil)))))))))))) mNil))) (mgName 3))
    (mSeq (mAsg (m2 fAdd (m2 fAdd (mSl (mVar 1) moNone (moSome (mVar 2))) (mLst (mCons (mVar 3) mNil))) (mSl (mVar 1) (moSome (m2 fAdd (mVar 2) (mC (.int 1)))) moNone)) (mgName 4))
    (mSeq (mAsg (mC (.int 5)) (mgName 5))
    (mSeq (mFor (miRng f1R (mCons (mC (.int 18)) mNil)) (mgName 6) (mAsg (mCall 2 m__law_pick [] (mCons (mVar 0) (mCons (mLst (mCons (mLst (mCons (mVar 5) mNil)) (mCons (mTup (mCons (mVar 5) mNil)) mNil))) mNil))) (mgName 5)))
    (mSeq (mAsg (m2 fAdd (mVar 1) (m2 fMul (mLst (mCons (mCall 1 m__law_octet [] (mCons (mVar 0) mNil)) mNil)) (m2 (fI0 fun i j => .int (i - j)) (mC (.int 17)) (mN fLen (mCons (mVar 1) mNil))))) (mgName 7))
    (mSeq (mAsg (mLst (mCons (mVar 4) (mCons (mN fTuple (mCons (mVar 4) mNil)) (mCons (mLst mNil) (mCons (mTup mNil) (mCons (mVar 7) (mCons (mN fTuple (mCons (mVar 7) mNil)) (mCons (m2 fMul (mLst (mCons (mC (.int 0)) mNil)) (mC (.int 17))) (mCons (m2 fAdd (mLst (mCons (mC (.int 127)) mNil)) (m2 fMul (mLst (mCons (mC (.int 0)) mNil)) (mC (.int 300)))) (mCons (mC .non) (mCons (mC (.bl true)) (mCons (mC (.bl false)) (mCons (mC (.int 0)) (mCons (mC (.int 127)) (mCons (mC (.str "")) (mCons (mC (.str "ab")) mNil)))))))))))))))) (mgName 8))
    (mRet (m2 fAdd (mVar 8) (mLst (mCons (mLst (mCons (mVar 1) mNil)) (mCons (mTup (mCons (mN fTuple (mCons (mVar 1) mNil)) mNil)) (mCons (mVar 5) (mCons (mLst (mCons (mN fList (mCons (mVar 1) mNil)) (mCons (mN fList (mCons (mVar 1) mNil)) mNil))) (mCons (mTup (mCons (mC (.str "number")) (mCons (mC (.int 5)) mNil))) (mCons (mLst (mCons (mVar 5) (mCons (mC (.int 1)) mNil))) mNil)))))))))))))))))
def m_law : MF := mDef 12 false
    ((mSeq (mAsg (mCall 1 m__law_store [] (mCons (mVar 0) mNil)) (mgName 1))
    (mSeq (mAsg (mLst (mCons (mC (.int (-170141183460469231731687303715884105728))) (mCons (mC (.int (170141183460469231731687303715884105727))) (mCons (mC (.int (9223372036854775807))) (mCons (mC (.int (20))) mNil))))) (mgName 2))
    (mSeq (mIfS (mNot (mTest (mCall 2 (m__law_equal 3) [] (mCons (mVar 2) (mCons (mLst (mCons (mCall 0 m__law_lowest [] mNil) (mCons (mCall 0 m__law_highest [] mNil) (mCons (mCall 0 m__law_chain_highest [] mNil) (mCons (mC (.int 20)) mNil))))) mNil))))) (mRet (mC (.bl false))) mNext)
    (mSeq (mAsg (mCall 1 m__law_figure [] (mCons (mVar 1) mNil)) (mgName 3))
    (mSeq (mFor (miSq (mLst (mCons (mVar 3) (mCons (mCall 3 m__law_clamp [] (mCons (m2 fAdd (mVar 3) (mC (.int 1))) (mCons (mC (.int (-170141183460469231731687303715884105728))) (mCons (mC (.int (170141183460469231731687303715884105727))) mNil)))) (mCons (mCall 3 m__law_clamp [] (mCons (m2 (fI0 fun i j => .int (i - j)) (mVar 3) (mC (.int 1))) (mCons (mC (.int (-170141183460469231731687303715884105728))) (mCons (mC (.int (170141183460469231731687303715884105727))) mNil)))) (mCons (m2 (fI0 fun i j => .int (i - j)) (m1 (fU fun i => .int (-i)) (mC (.int 1))) (mVar 3)) mNil)))))) (mgName 4) (mIfS (mNot (mTest (mCall 1 m__law_row_of_number [] (mCons (mVar 4) mNil)))) (mRet (mC (.bl false))) mNext))
    (mSeq (mAsg (mCall 1 m_signed_octets [] (mCons (mVar 3) mNil)) (mgName 5))
    (mSeq (mAsg (mC (.int 0)) (mgName 6))
    (mSeq (mIfS (mTest (m2 (fI0 fun i j => .bl (decide (i < j))) (mVar 3) (mC (.int 0)))) (mAsg (mC (.int 255)) (mgName 6)) mNext)
    (mSeq (mFor (miRng f1R (mCons (m2 (fI0 fun i j => .int (i - j)) (mC (.int 17)) (mN fLen (mCons (mVar 5) mNil))) mNil)) (mgName 7) (mIfS (mNot (mTest (mCall 2 m__law_means [] (mCons (mAddM (m2 fMul (mLst (mCons (mVar 6) mNil)) (mVar 7)) (mN fList (mCons (mVar 5) mNil))) (mCons (mVar 3) mNil))))) (mRet (mC (.bl false))) mNext))
    (mSeq (mAsg (mLc (miRng f1R (mCons (m2 fAdd (mC (.int 1)) (mCall 2 m__law_take [] (mCons (mVar 1) (mCons (mC (.int 16)) mNil)))) mNil)) (mgName 9) mYes (mCall 1 m__law_octet [] (mCons (mVar 1) mNil)) [9]) (mgName 8))
    (mSeq (mIfS (mTest (m2 fEq (mCall 2 m__law_take [] (mCons (mVar 1) (mCons (mC (.int 3)) mNil))) (mC (.int 0)))) (mAsg (m2 fAdd (mLst (mCons (mCall 2 m__law_pick [] (mCons (mVar 1) (mCons (mLst (mCons (mC (.int 0)) (mCons (mC (.int 255)) (mCons (mC (.int 127)) (mCons (mC (.int 128)) mNil))))) mNil))) mNil)) (mSl (mVar 8) moNone (moSome (mC (.int 15))))) (mgName 8)) mNext)
    (mSeq (mAsg (mCall 1 m__law_unsigned [] (mCons (mVar 8) mNil)) (mgName 10))
    (mSeq (mIfS (mOr (mNot (mTest (mCall 2 m__law_means [] (mCons (mListM (mCons (mVar 8) mNil)) (mCons (mVar 10) mNil))))) (mNot (mTest (mCall 1 m__law_row_of_number [] (mCons (mVar 10) mNil))))) (mRet (mC (.bl false))) mNext)
    (mSeq (mFor (miSq (mCall 2 m__law_no_octets [] (mCons (mVar 1) (mCons (mVar 8) mNil)))) (mgName 11) (mIfS (mTest (m2 (fIsB true) (mCall 1 m_is_least [] (mCons (mVar 11) mNil)) (mC (.bl false)))) (mRet (mC (.bl false))) mNext))
    (mRet (mCall 2 (m__law_equal 3) [] (mCons (mCall 1 m_is_least [] (mCons (mVar 8) mNil)) (mCons (m2 fEq (mN fLen (mCons (mVar 8) mNil)) (mCall 1 m__law_due_count [] (mCons (mVar 10) mNil))) mNil)))))))))))))))))))
structure Zs (K : PySem.W.Frag) (mg : Str → Option Value) where
  f_wide_octets : Addr
  fd_wide_octets : FuncData
  F_wide_octets : FnP K "wide_octets" s_wide_octets f_wide_octets fd_wide_octets
  g_wide_octets : mg "wide_octets" = some (.ref f_wide_octets)
  b_wide_octets : Binds K fd_wide_octets ["number", "count"] []
  f_signed_octets : Addr
  fd_signed_octets : FuncData
  F_signed_octets : FnP K "signed_octets" s_signed_octets f_signed_octets fd_signed_octets
  g_signed_octets : mg "signed_octets" = some (.ref f_signed_octets)
  b_signed_octets : Binds K fd_signed_octets ["number"] []
  f_is_integer : Addr
  fd_is_integer : FuncData
  F_is_integer : FnP K "is_integer" s_is_integer f_is_integer fd_is_integer
  g_is_integer : mg "is_integer" = some (.ref f_is_integer)
  b_is_integer : Binds K fd_is_integer ["thing"] []
  f_is_octet_row : Addr
  fd_is_octet_row : FuncData
  F_is_octet_row : FnP K "is_octet_row" s_is_octet_row f_is_octet_row fd_is_octet_row
  g_is_octet_row : mg "is_octet_row" = some (.ref f_is_octet_row)
  b_is_octet_row : Binds K fd_is_octet_row ["thing"] []
  f_is_least : Addr
  fd_is_least : FuncData
  F_is_least : FnP K "is_least" s_is_least f_is_least fd_is_least
  g_is_least : mg "is_least" = some (.ref f_is_least)
  b_is_least : Binds K fd_is_least ["octets"] []
  f__law_mix : Addr
  fd__law_mix : FuncData
  F__law_mix : FnP K "_law_mix" s__law_mix f__law_mix fd__law_mix
  g__law_mix : mg "_law_mix" = some (.ref f__law_mix)
  b__law_mix : Binds K fd__law_mix ["_law_first", "_law_second"] []
  f__law_store : Addr
  fd__law_store : FuncData
  F__law_store : FnP K "_law_store" s__law_store f__law_store fd__law_store
  g__law_store : mg "_law_store" = some (.ref f__law_store)
  b__law_store : Binds K fd__law_store ["_law_script"] []
  f__law_take : Addr
  fd__law_take : FuncData
  F__law_take : FnP K "_law_take" s__law_take f__law_take fd__law_take
  g__law_take : mg "_law_take" = some (.ref f__law_take)
  b__law_take : Binds K fd__law_take ["_law_store_here", "_law_many"] []
  f__law_pick : Addr
  fd__law_pick : FuncData
  F__law_pick : FnP K "_law_pick" s__law_pick f__law_pick fd__law_pick
  g__law_pick : mg "_law_pick" = some (.ref f__law_pick)
  b__law_pick : Binds K fd__law_pick ["_law_store_here", "_law_row"] []
  f__law_equal : Addr
  fd__law_equal : FuncData
  F__law_equal : FnP K "_law_equal" s__law_equal f__law_equal fd__law_equal
  g__law_equal : mg "_law_equal" = some (.ref f__law_equal)
  b__law_equal : Binds K fd__law_equal ["_law_first", "_law_second"] []
  f__law_clamp : Addr
  fd__law_clamp : FuncData
  F__law_clamp : FnP K "_law_clamp" s__law_clamp f__law_clamp fd__law_clamp
  g__law_clamp : mg "_law_clamp" = some (.ref f__law_clamp)
  b__law_clamp : Binds K fd__law_clamp ["_law_number", "_law_low", "_law_high"] []
  f__law_lowest : Addr
  fd__law_lowest : FuncData
  F__law_lowest : FnP K "_law_lowest" s__law_lowest f__law_lowest fd__law_lowest
  g__law_lowest : mg "_law_lowest" = some (.ref f__law_lowest)
  b__law_lowest : Binds K fd__law_lowest [] []
  f__law_highest : Addr
  fd__law_highest : FuncData
  F__law_highest : FnP K "_law_highest" s__law_highest f__law_highest fd__law_highest
  g__law_highest : mg "_law_highest" = some (.ref f__law_highest)
  b__law_highest : Binds K fd__law_highest [] []
  f__law_chain_highest : Addr
  fd__law_chain_highest : FuncData
  F__law_chain_highest : FnP K "_law_chain_highest" s__law_chain_highest f__law_chain_highest fd__law_chain_highest
  g__law_chain_highest : mg "_law_chain_highest" = some (.ref f__law_chain_highest)
  b__law_chain_highest : Binds K fd__law_chain_highest [] []
  f__law_power : Addr
  fd__law_power : FuncData
  F__law_power : FnP K "_law_power" s__law_power f__law_power fd__law_power
  g__law_power : mg "_law_power" = some (.ref f__law_power)
  b__law_power : Binds K fd__law_power ["_law_count"] []
  f__law_figure : Addr
  fd__law_figure : FuncData
  F__law_figure : FnP K "_law_figure" s__law_figure f__law_figure fd__law_figure
  g__law_figure : mg "_law_figure" = some (.ref f__law_figure)
  b__law_figure : Binds K fd__law_figure ["_law_store_here"] []
  f__law_octet : Addr
  fd__law_octet : FuncData
  F__law_octet : FnP K "_law_octet" s__law_octet f__law_octet fd__law_octet
  g__law_octet : mg "_law_octet" = some (.ref f__law_octet)
  b__law_octet : Binds K fd__law_octet ["_law_store_here"] []
  f__law_unsigned : Addr
  fd__law_unsigned : FuncData
  F__law_unsigned : FnP K "_law_unsigned" s__law_unsigned f__law_unsigned fd__law_unsigned
  g__law_unsigned : mg "_law_unsigned" = some (.ref f__law_unsigned)
  b__law_unsigned : Binds K fd__law_unsigned ["_law_row"] []
  f__law_due_count : Addr
  fd__law_due_count : FuncData
  F__law_due_count : FnP K "_law_due_count" s__law_due_count f__law_due_count fd__law_due_count
  g__law_due_count : mg "_law_due_count" = some (.ref f__law_due_count)
  b__law_due_count : Binds K fd__law_due_count ["_law_number"] []
  f__law_is_integer : Addr
  fd__law_is_integer : FuncData
  F__law_is_integer : FnP K "_law_is_integer" s__law_is_integer f__law_is_integer fd__law_is_integer
  g__law_is_integer : mg "_law_is_integer" = some (.ref f__law_is_integer)
  b__law_is_integer : Binds K fd__law_is_integer ["_law_thing"] []
  f__law_is_row : Addr
  fd__law_is_row : FuncData
  F__law_is_row : FnP K "_law_is_row" s__law_is_row f__law_is_row fd__law_is_row
  g__law_is_row : mg "_law_is_row" = some (.ref f__law_is_row)
  b__law_is_row : Binds K fd__law_is_row ["_law_thing", "_law_low", "_law_high"] []
  f__law_row_of_number : Addr
  fd__law_row_of_number : FuncData
  F__law_row_of_number : FnP K "_law_row_of_number" s__law_row_of_number f__law_row_of_number fd__law_row_of_number
  g__law_row_of_number : mg "_law_row_of_number" = some (.ref f__law_row_of_number)
  b__law_row_of_number : Binds K fd__law_row_of_number ["_law_number"] []
  f_signed_number : Addr
  fd_signed_number : FuncData
  F_signed_number : FnP K "signed_number" s_signed_number f_signed_number fd_signed_number
  g_signed_number : mg "signed_number" = some (.ref f_signed_number)
  b_signed_number : Binds K fd_signed_number ["octets"] []
  f__law_means : Addr
  fd__law_means : FuncData
  F__law_means : FnP K "_law_means" s__law_means f__law_means fd__law_means
  g__law_means : mg "_law_means" = some (.ref f__law_means)
  b__law_means : Binds K fd__law_means ["_law_row", "_law_number"] []
  f__law_no_octets : Addr
  fd__law_no_octets : FuncData
  F__law_no_octets : FnP K "_law_no_octets" s__law_no_octets f__law_no_octets fd__law_no_octets
  g__law_no_octets : mg "_law_no_octets" = some (.ref f__law_no_octets)
  b__law_no_octets : Binds K fd__law_no_octets ["_law_store_here", "_law_row"] []
  f_law : Addr
  fd_law : FuncData
  F_law : FnP K "law" s_law f_law fd_law
  g_law : mg "law" = some (.ref f_law)
  b_law : Binds K fd_law ["_law_script"] []
  z_isinstance : mg "isinstance" = none
  z_int : mg "int" = none
  z_bool : mg "bool" = none
  z_tuple : mg "tuple" = none
  z_list : mg "list" = none
  z_all : mg "all" = none
  z_range : mg "range" = none
  z_len : mg "len" = none
  z_abs : mg "abs" = none
  z_str : mg "str" = none
  z_max : mg "max" = none
  z_min : mg "min" = none
  g_DEPTH : ∃ t, mg "DEPTH" = some (.int (20) t)
  g_CHAIN_MOST : ∃ t, mg "CHAIN_MOST" = some (.int (9223372036854775807) t)
  g_MOST : ∃ t, mg "MOST" = some (.int (170141183460469231731687303715884105727) t)
  g_LEAST : ∃ t, mg "LEAST" = some (.int (-170141183460469231731687303715884105728) t)
section
variable {P : Program} {w : World} {K : PySem.W.Frag} {mg : Str → Option Value} {base : Heap}
theorem ok_wide_octets (Z : Zs K mg) : FnOk P w K mg base (L2.CX P w) 1 Z.f_wide_octets Z.fd_wide_octets ["number", "count"] (spM K 2 true m_wide_octets) := fn_ok Z.F_wide_octets sc_wide_octets rfl 3 rfl fun cdv A outer s H E hr => ⟨_,
    (dss_one (ds_ret (de_lcM (vs := [2]) [("digit", 2)] rfl rfl sc_wide_octets.nd (di_r3 rfl Z.z_range (da_cons (de_op op_sub (sim_I0 fun _ _ _ _ => rfl) (de_var 1) de_int) (da_cons (de_neg de_int) (da_cons (de_neg de_int) da_nil)))) (blkOk_by (N := n_wide_octets) (sc := defScope s_wide_octets) (by decide +kernel)) (fun _ _ _ _ _ => (dg_name 2 sc_wide_octets.nd)) (fun _ _ _ _ _ => pts_nil) sim_yes (fun _ _ _ _ _ => (de_op op_and (sim_I0 fun _ _ _ _ => rfl) (de_op op_shr (sim_I fun _ _ _ _ => rfl) (de_var 0) (de_op op_mulA sim_mul de_int (de_var 2))) de_int)) (by decide))))⟩
theorem ok_signed_octets (Z : Zs K mg) : FnOk P w K mg base (L2.CX P w) 2 Z.f_signed_octets Z.fd_signed_octets ["number"] (spM K 1 true m_signed_octets) := fn_ok Z.F_signed_octets sc_signed_octets rfl 3 rfl fun cdv A outer s H E hr => ⟨_,
    (dss_cons (ds_set 1 sc_signed_octets.nd de_int)
    (dss_cons (ds_set 2 sc_signed_octets.nd de_int)
    (dss_cons (ds_while (passes_of rfl) (dt_w (dw_or (dt_cmp op_lt (sim_I0 fun _ _ _ _ => rfl) (de_var 0) (de_neg (de_var 2)) (nomark _)) (dw_or1 (dt_cmp op_ge (sim_I0 fun _ _ _ _ => rfl) (de_var 0) (de_var 2) (nomark _))))) (dss_cons (ds_aug 1 sc_signed_octets.nd de_int ip_add)
    (dss_one (ds_aug2 2 sc_signed_octets.nd de_int ip_mul (sim_I fun _ _ _ _ => rfl)))))
    (dss_one (ds_ret (de_callM K (ok_wide_octets Z) (takes_of rfl rfl rfl rfl) (hr.mono (by decide)) rfl Z.g_wide_octets Z.F_wide_octets.kp Z.b_wide_octets .nil (fun _ _ => rfl) (da_cons (de_var 0) (da_cons (de_var 1) da_nil))))))))⟩
theorem ok_is_integer (Z : Zs K mg) : FnOk P w K mg base (L2.CX P w) 1 Z.f_is_integer Z.fd_is_integer ["thing"] (spM K 1 false m_is_integer) := fn_ok Z.F_is_integer sc_is_integer rfl 1 rfl fun cdv A outer s H E hr => ⟨_,
    (dss_one (ds_ret (de_and (de_callB (call_isiK' K) sim_isi rfl Z.z_isinstance (by decide +kernel) (da_cons (de_var 0) (da_cons (de_ty rfl Z.z_int (by decide +kernel)) da_nil))) (de_one (de_not (de_callB (call_isiK' K) sim_isi rfl Z.z_isinstance (by decide +kernel) (da_cons (de_var 0) (da_cons (de_ty rfl Z.z_bool (by decide +kernel)) da_nil))))))))⟩
theorem ok_is_octet_row (Z : Zs K mg) : FnOk P w K mg base (L2.CX P w) 2 Z.f_is_octet_row Z.fd_is_octet_row ["thing"] (spM K 1 false m_is_octet_row) := fn_ok Z.F_is_octet_row sc_is_octet_row rfl 2 rfl fun cdv A outer s H E hr => ⟨_,
    (dss_cons (ds_if (dt_not (dt_val (de_callB (call_isiK' K) sim_isi rfl Z.z_isinstance (by decide +kernel) (da_cons (de_var 0) (da_cons (de_tup (da_cons (de_ty rfl Z.z_list (by decide +kernel)) (da_cons (de_ty rfl Z.z_tuple (by decide +kernel)) da_nil))) da_nil))))) (dss_one (ds_ret de_bl)) dss_nil)
    (dss_one (ds_ret (de_callB (call_all K rfl) sim_q rfl Z.z_all (by decide +kernel) (da_cons (de_lc (vs := [1]) [("octet", 1)] rfl rfl sc_is_octet_row.nd (di_sq K (de_var 0)) (blkOk_by (N := n_is_octet_row) (sc := defScope s_is_octet_row) (by decide +kernel)) (fun _ _ _ _ _ => (dg_name 1 sc_is_octet_row.nd)) (fun _ _ _ _ _ => pts_nil) sim_yes (fun _ _ _ _ _ => (de_and (de_call K (ok_is_integer Z) takes0 (hr.mono (by decide)) rfl Z.g_is_integer Z.F_is_integer.kp Z.b_is_integer .nil (fun _ _ => rfl) (da_cons (de_var 1) da_nil)) (de_one (de_chain op_le (sim_I0 fun _ _ _ _ => rfl) op_le (sim_I0 fun _ _ _ _ => rfl) de_int (de_var 1) de_int)))) (by decide)) da_nil)))))⟩
theorem ok_is_least (Z : Zs K mg) : FnOk P w K mg base (L2.CX P w) 3 Z.f_is_least Z.fd_is_least ["octets"] (spM K 1 false m_is_least) := fn_ok Z.F_is_least sc_is_least rfl 1 rfl fun cdv A outer s H E hr => ⟨_,
    (dss_cons (ds_if (dt_w (dw_or (dt_not (dt_val (de_call K (ok_is_octet_row Z) (takes_of rfl rfl rfl rfl) (hr.mono (by decide)) rfl Z.g_is_octet_row Z.F_is_octet_row.kp Z.b_is_octet_row .nil (fun _ _ => rfl) (da_cons (de_var 0) da_nil)))) (dw_or1 (dt_not (dt_chain op_le (sim_I0 fun _ _ _ _ => rfl) op_le (sim_I0 fun _ _ _ _ => rfl) de_int (de_callB (call_lenK K) sim_len rfl Z.z_len (by decide +kernel) (da_cons (de_var 0) da_nil)) de_int))))) (dss_one (ds_ret de_bl)) dss_nil)
    (dss_cons (ds_if (dt_cmp (op_eqK K hr) sim_eq (de_callB (call_lenK K) sim_len rfl Z.z_len (by decide +kernel) (da_cons (de_var 0) da_nil)) de_int (nomark _)) (dss_one (ds_ret de_bl)) dss_nil)
    (dss_cons (ds_if (dt_cmp (op_eqK K hr) sim_eq (de_ix K (de_var 0) de_int) de_int (nomark _)) (dss_one (ds_ret (de_cmp op_ge (sim_I0 fun _ _ _ _ => rfl) (de_ix K (de_var 0) de_int) de_int (nomark _)))) dss_nil)
    (dss_cons (ds_if (dt_cmp (op_eqK K hr) sim_eq (de_ix K (de_var 0) de_int) de_int (nomark _)) (dss_one (ds_ret (de_cmp op_lt (sim_I0 fun _ _ _ _ => rfl) (de_ix K (de_var 0) de_int) de_int (nomark _)))) dss_nil)
    (dss_one (ds_ret de_bl))))))⟩
theorem ok__law_mix (Z : Zs K mg) : FnOk P w K mg base (L2.CX P w) 1 Z.f__law_mix Z.fd__law_mix ["_law_first", "_law_second"] (spM K 2 false m__law_mix) := fn_ok Z.F__law_mix sc__law_mix rfl 4 rfl fun cdv A outer s H E hr => ⟨_,
    (dss_cons (ds_set 2 sc__law_mix.nd (de_op op_mod (sim_I fun _ _ _ _ => rfl) (de_callTy call_int1 sim_int rfl Z.z_int (by decide +kernel) (da_cons (de_op (op_addK K) sim_add (de_op (op_addK K) sim_add (de_op op_mulA sim_mul (de_var 0) de_int) (de_op op_mulA sim_mul (de_var 1) de_int)) de_int) da_nil)) de_int))
    (dss_cons (ds_set 3 sc__law_mix.nd (de_op op_mod (sim_I fun _ _ _ _ => rfl) (de_callTy call_int1 sim_int rfl Z.z_int (by decide +kernel) (da_cons (de_op (op_addK K) sim_add (de_op (op_addK K) sim_add (de_op (op_addK K) sim_add (de_op op_mulA sim_mul (de_var 2) (de_var 2)) (de_op op_mulA sim_mul (de_op op_fdivW (sim_I fun _ _ _ _ => rfl) (de_var 2) de_int) de_int)) (de_var 1)) de_int) da_nil)) de_int))
    (dss_one (ds_ret (de_op op_mod (sim_I fun _ _ _ _ => rfl) (de_callTy call_int1 sim_int rfl Z.z_int (by decide +kernel) (da_cons (de_op (op_addK K) sim_add (de_op op_mulA sim_mul (de_var 3) de_int) (de_op op_fdivW (sim_I fun _ _ _ _ => rfl) (de_var 2) de_int)) da_nil)) de_int)))))⟩
theorem ok__law_store (Z : Zs K mg) : FnOk P w K mg base (L2.CX P w) 2 Z.f__law_store Z.fd__law_store ["_law_script"] (spM K 1 false m__law_store) := fn_ok Z.F__law_store sc__law_store rfl 3 rfl fun cdv A outer s H E hr => ⟨_,
    (dss_cons (ds_set 1 sc__law_store.nd de_int)
    (dss_cons (ds_for (passes_of rfl) rfl (di_sq K (de_var 0)) (dg_name 2 sc__law_store.nd) (dss_one (ds_set 1 sc__law_store.nd (de_call K (ok__law_mix Z) (takes_of rfl rfl rfl rfl) (hr.mono (by decide)) rfl Z.g__law_mix Z.F__law_mix.kp Z.b__law_mix .nil (fun _ _ => rfl) (da_cons (de_var 1) (da_cons (de_op op_mod (sim_I fun _ _ _ _ => rfl) (de_callTy call_int1 sim_int rfl Z.z_int (by decide +kernel) (da_cons (de_var 2) da_nil)) de_int) da_nil))))))
    (dss_one (ds_ret (de_disp (DPs.cons de_str (de_callTy (call_listK K) sim_list rfl Z.z_list (by decide +kernel) (da_cons (de_var 0) da_nil)) (DPs.cons de_str de_int (DPs.cons de_str de_int (DPs.cons de_str de_int (DPs.cons de_str de_int (DPs.cons de_str de_int (DPs.cons de_str (de_var 1) DPs.nil))))))))))))⟩
theorem ok__law_take (Z : Zs K mg) : FnOk P w K mg base (L2.CX P w) 2 Z.f__law_take Z.fd__law_take ["_law_store_here", "_law_many"] (spM K 2 false m__law_take) := fn_ok Z.F__law_take sc__law_take rfl 8 rfl fun cdv A outer s H E hr => ⟨_,
    (dss_cons (ds_if (dt_cmp op_lt (sim_I0 fun _ _ _ _ => rfl) (de_var 1) de_int (nomark _)) (dss_one (ds_ret de_int)) dss_nil)
    (dss_cons (ds_if (dt_w (dw_and (dt_cmp (op_eqK K hr) sim_eq (de_dget (u1 hr) (de_var 0) de_str) de_int (nomark _)) (dw_and (dt_cmp (op_eqK K hr) sim_eq (de_dget (u1 hr) (de_var 0) de_str) de_int (nomark _)) (dw_and1 (dt_cmp op_lt (sim_I0 fun _ _ _ _ => rfl) (de_dget (u1 hr) (de_var 0) de_str) (de_callB (call_lenK K) sim_len rfl Z.z_len (by decide +kernel) (da_cons (de_dget (u1 hr) (de_var 0) de_str) da_nil)) (nomark _)))))) (dss_cons (ds_set 2 sc__law_take.nd (de_ix K (de_dget (u1 hr) (de_var 0) de_str) (de_dget (u1 hr) (de_var 0) de_str)))
    (dss_cons (ds_dput (u1 hr) (de_var 0) de_str (de_op (op_addK K) sim_add (de_dget (u1 hr) (de_var 0) de_str) de_int))
    (dss_one (ds_if (dt_cmp op_ge (sim_I0 fun _ _ _ _ => rfl) (de_callB call_abs sim_abs rfl Z.z_abs (by decide +kernel) (da_cons (de_var 2) da_nil)) (de_op op_pow (sim_I fun _ _ _ _ => rfl) de_int de_int) (nomark _)) (dss_one (ds_dput (u1 hr) (de_var 0) de_str (de_callB call_abs sim_abs rfl Z.z_abs (by decide +kernel) (da_cons (de_var 2) da_nil)))) (dss_cons (ds_dput (u1 hr) (de_var 0) de_str (de_var 2))
    (dss_one (ds_dput (u1 hr) (de_var 0) de_str de_int))))))) dss_nil)
    (dss_cons (ds_if (dt_cmp op_gt (sim_I0 fun _ _ _ _ => rfl) (de_dget (u1 hr) (de_var 0) de_str) de_int (nomark _)) (dss_cons (ds_set 3 sc__law_take.nd (de_dget (u1 hr) (de_var 0) de_str))
    (dss_cons (ds_dput (u1 hr) (de_var 0) de_str (de_op op_fdivW (sim_I fun _ _ _ _ => rfl) (de_var 3) (de_var 1)))
    (dss_one (ds_ret (de_op op_mod (sim_I fun _ _ _ _ => rfl) (de_callTy call_int1 sim_int rfl Z.z_int (by decide +kernel) (da_cons (de_var 3) da_nil)) (de_var 1)))))) dss_nil)
    (dss_cons (ds_set 4 sc__law_take.nd (de_dget (u1 hr) (de_var 0) de_str))
    (dss_cons (ds_if (dt_cmp op_gt (sim_I0 fun _ _ _ _ => rfl) (de_dget (u1 hr) (de_var 0) de_str) de_int (nomark _)) (dss_cons (ds_dput (u1 hr) (de_var 0) de_str (de_op op_sub (sim_I0 fun _ _ _ _ => rfl) (de_dget (u1 hr) (de_var 0) de_str) de_int))
    (dss_one (ds_set 4 sc__law_take.nd (de_dget (u1 hr) (de_var 0) de_str)))) dss_nil)
    (dss_cons (ds_set 5 sc__law_take.nd de_int)
    (dss_cons (ds_set 6 sc__law_take.nd de_int)
    (dss_cons (ds_if (dt_cmp op_gt (sim_I0 fun _ _ _ _ => rfl) (de_var 1) (de_op op_pow (sim_I fun _ _ _ _ => rfl) de_int de_int) (nomark _)) (dss_one (ds_set 6 sc__law_take.nd de_int)) dss_nil)
    (dss_cons (ds_for (passes_of rfl) rfl (di_r1 rfl Z.z_range (da_cons (de_var 6) da_nil)) (dg_name 7 sc__law_take.nd) (dss_cons (ds_dput (u1 hr) (de_var 0) de_str (de_op (op_addK K) sim_add (de_dget (u1 hr) (de_var 0) de_str) de_int))
    (dss_one (ds_set 5 sc__law_take.nd (de_op (op_addK K) sim_add (de_op op_mulA sim_mul (de_var 5) de_int) (de_call K (ok__law_mix Z) (takes_of rfl rfl rfl rfl) (hr.mono (by decide)) rfl Z.g__law_mix Z.F__law_mix.kp Z.b__law_mix .nil (fun _ _ => rfl) (da_cons (de_var 4) (da_cons (de_dget (u1 hr) (de_var 0) de_str) da_nil))))))))
    (dss_one (ds_ret (de_op op_mod (sim_I fun _ _ _ _ => rfl) (de_callTy call_int1 sim_int rfl Z.z_int (by decide +kernel) (da_cons (de_var 5) da_nil)) (de_var 1)))))))))))))⟩
theorem ok__law_pick (Z : Zs K mg) : FnOk P w K mg base (L2.CX P w) 3 Z.f__law_pick Z.fd__law_pick ["_law_store_here", "_law_row"] (spM K 2 false m__law_pick) := fn_ok Z.F__law_pick sc__law_pick rfl 2 rfl fun cdv A outer s H E hr => ⟨_,
    (dss_one (ds_ret (de_ix K (de_var 1) (de_call K (ok__law_take Z) (takes_of rfl rfl rfl rfl) (hr.mono (by decide)) rfl Z.g__law_take Z.F__law_take.kp Z.b__law_take .nil (fun _ _ => rfl) (da_cons (de_var 0) (da_cons (de_callB (call_lenK K) sim_len rfl Z.z_len (by decide +kernel) (da_cons (de_var 1) da_nil)) da_nil))))))⟩
theorem ok__law_equal (Z : Zs K mg) : ∀ n : Nat, FnOk P w K mg base (L2.CX P w) (1 + n) Z.f__law_equal Z.fd__law_equal ["_law_first", "_law_second"] (spM K 2 false (m__law_equal n))
  | 0 => FunD.ok Z.F__law_equal sc__law_equal (fun vs H Q E z => z.1) (fun cdv A outer s H vs Q E hr z => by obtain ⟨_, α, hp, ss, R, Xp, _, _, m, _⟩ := z; exact m.elim)
  | n + 1 => fn_ok (k := 1 + n) Z.F__law_equal sc__law_equal rfl 3 rfl fun cdv A outer s H E hr => ⟨_,
    (dss_cons (ds_if (dt_val (de_callB (call_isiK' K) sim_isi rfl Z.z_isinstance (by decide +kernel) (da_cons (de_var 0) (da_cons (de_tup (da_cons (de_ty rfl Z.z_list (by decide +kernel)) (da_cons (de_ty rfl Z.z_tuple (by decide +kernel)) da_nil))) da_nil)))) (dss_cons (ds_if (dt_w (dw_or (dt_cmp (op_neK K hr) sim_ne (de_callB (call_isiK' K) sim_isi rfl Z.z_isinstance (by decide +kernel) (da_cons (de_var 0) (da_cons (de_ty rfl Z.z_list (by decide +kernel)) da_nil))) (de_callB (call_isiK' K) sim_isi rfl Z.z_isinstance (by decide +kernel) (da_cons (de_var 1) (da_cons (de_ty rfl Z.z_list (by decide +kernel)) da_nil))) (nomark _)) (dw_or1 (dt_cmp (op_neK K hr) sim_ne (de_callB (call_isiK' K) sim_isi rfl Z.z_isinstance (by decide +kernel) (da_cons (de_var 0) (da_cons (de_ty rfl Z.z_tuple (by decide +kernel)) da_nil))) (de_callB (call_isiK' K) sim_isi rfl Z.z_isinstance (by decide +kernel) (da_cons (de_var 1) (da_cons (de_ty rfl Z.z_tuple (by decide +kernel)) da_nil))) (nomark _))))) (dss_one (ds_ret de_bl)) dss_nil)
    (dss_cons (ds_if (dt_cmp (op_neK K hr) sim_ne (de_callB (call_lenK K) sim_len rfl Z.z_len (by decide +kernel) (da_cons (de_var 0) da_nil)) (de_callB (call_lenK K) sim_len rfl Z.z_len (by decide +kernel) (da_cons (de_var 1) da_nil)) (nomark _)) (dss_one (ds_ret de_bl)) dss_nil)
    (dss_cons (ds_for (passes_of rfl) rfl (di_r1 rfl Z.z_range (da_cons (de_callB (call_lenK K) sim_len rfl Z.z_len (by decide +kernel) (da_cons (de_var 0) da_nil)) da_nil)) (dg_name 2 sc__law_equal.nd) (dss_one (ds_if (dt_not (dt_val (de_call K (ok__law_equal Z n) (takes_of rfl rfl rfl rfl) (hr.mono (by omega)) rfl Z.g__law_equal Z.F__law_equal.kp Z.b__law_equal .nil (fun _ _ => rfl) (da_cons (de_ix K (de_var 0) (de_var 2)) (da_cons (de_ix K (de_var 1) (de_var 2)) da_nil))))) (dss_one (ds_ret de_bl)) dss_nil)))
    (dss_one (ds_ret de_bl))))) dss_nil)
    (dss_cons (ds_if (dt_val (de_callB (call_isiK' K) sim_isi rfl Z.z_isinstance (by decide +kernel) (da_cons (de_var 1) (da_cons (de_tup (da_cons (de_ty rfl Z.z_list (by decide +kernel)) (da_cons (de_ty rfl Z.z_tuple (by decide +kernel)) da_nil))) da_nil)))) (dss_one (ds_ret de_bl)) dss_nil)
    (dss_cons (ds_if (dt_w (dw_or (dt_cmp op_isN sim_isN (de_var 0) de_non (nomark _)) (dw_or1 (dt_cmp op_isN sim_isN (de_var 1) de_non (nomark _))))) (dss_one (ds_ret (de_and (de_cmp op_isN sim_isN (de_var 0) de_non (nomark _)) (de_one (de_cmp op_isN sim_isN (de_var 1) de_non (nomark _)))))) dss_nil)
    (dss_cons (ds_if (dt_w (dw_or (dt_val (de_callB (call_isiK' K) sim_isi rfl Z.z_isinstance (by decide +kernel) (da_cons (de_var 0) (da_cons (de_ty rfl Z.z_bool (by decide +kernel)) da_nil)))) (dw_or1 (dt_val (de_callB (call_isiK' K) sim_isi rfl Z.z_isinstance (by decide +kernel) (da_cons (de_var 1) (da_cons (de_ty rfl Z.z_bool (by decide +kernel)) da_nil))))))) (dss_one (ds_ret (de_and (de_callB (call_isiK' K) sim_isi rfl Z.z_isinstance (by decide +kernel) (da_cons (de_var 0) (da_cons (de_ty rfl Z.z_bool (by decide +kernel)) da_nil))) (de_and (de_callB (call_isiK' K) sim_isi rfl Z.z_isinstance (by decide +kernel) (da_cons (de_var 1) (da_cons (de_ty rfl Z.z_bool (by decide +kernel)) da_nil))) (de_one (de_cmp (op_eqK K hr) sim_eq (de_var 0) (de_var 1) (nomark _))))))) dss_nil)
    (dss_cons (ds_if (dt_w (dw_or (dt_val (de_callB (call_isiK' K) sim_isi rfl Z.z_isinstance (by decide +kernel) (da_cons (de_var 0) (da_cons (de_ty rfl Z.z_str (by decide +kernel)) da_nil)))) (dw_or1 (dt_val (de_callB (call_isiK' K) sim_isi rfl Z.z_isinstance (by decide +kernel) (da_cons (de_var 1) (da_cons (de_ty rfl Z.z_str (by decide +kernel)) da_nil))))))) (dss_one (ds_ret (de_and (de_callB (call_isiK' K) sim_isi rfl Z.z_isinstance (by decide +kernel) (da_cons (de_var 0) (da_cons (de_ty rfl Z.z_str (by decide +kernel)) da_nil))) (de_and (de_callB (call_isiK' K) sim_isi rfl Z.z_isinstance (by decide +kernel) (da_cons (de_var 1) (da_cons (de_ty rfl Z.z_str (by decide +kernel)) da_nil))) (de_one (de_cmp (op_eqK K hr) sim_eq (de_var 0) (de_var 1) (nomark _))))))) dss_nil)
    (dss_one (ds_ret (de_and (de_callB (call_isiK' K) sim_isi rfl Z.z_isinstance (by decide +kernel) (da_cons (de_var 0) (da_cons (de_ty rfl Z.z_int (by decide +kernel)) da_nil))) (de_and (de_callB (call_isiK' K) sim_isi rfl Z.z_isinstance (by decide +kernel) (da_cons (de_var 1) (da_cons (de_ty rfl Z.z_int (by decide +kernel)) da_nil))) (de_one (de_cmp (op_eqK K hr) sim_eq (de_var 0) (de_var 1) (nomark _))))))))))))⟩
theorem ok__law_clamp (Z : Zs K mg) : FnOk P w K mg base (L2.CX P w) 1 Z.f__law_clamp Z.fd__law_clamp ["_law_number", "_law_low", "_law_high"] (spM K 3 false m__law_clamp) := fn_ok Z.F__law_clamp sc__law_clamp rfl 3 rfl fun cdv A outer s H E hr => ⟨_,
    (dss_one (ds_ret (de_callB (call_max2 rfl) (sim_MM (g := (fun i j => if j > i then j else i))) rfl Z.z_max (by decide +kernel) (da_cons (de_var 1) (da_cons (de_callB (call_min2 rfl) (sim_MM (g := (fun i j => if j < i then j else i))) rfl Z.z_min (by decide +kernel) (da_cons (de_var 2) (da_cons (de_var 0) da_nil))) da_nil)))))⟩
theorem ok__law_lowest (Z : Zs K mg) : FnOk P w K mg base (L2.CX P w) 1 Z.f__law_lowest Z.fd__law_lowest [] (spM K 0 false m__law_lowest) := fn_ok Z.F__law_lowest sc__law_lowest rfl 0 rfl fun cdv A outer s H E hr => ⟨_,
    (dss_one (ds_ret (de_op op_mulA sim_mul (de_neg (de_op op_pow (sim_I fun _ _ _ _ => rfl) de_int de_int)) (de_op op_pow (sim_I fun _ _ _ _ => rfl) de_int de_int))))⟩
theorem ok__law_highest (Z : Zs K mg) : FnOk P w K mg base (L2.CX P w) 1 Z.f__law_highest Z.fd__law_highest [] (spM K 0 false m__law_highest) := fn_ok Z.F__law_highest sc__law_highest rfl 0 rfl fun cdv A outer s H E hr => ⟨_,
    (dss_one (ds_ret (de_op op_sub (sim_I0 fun _ _ _ _ => rfl) (de_op op_mulA sim_mul (de_op op_pow (sim_I fun _ _ _ _ => rfl) de_int de_int) (de_op op_pow (sim_I fun _ _ _ _ => rfl) de_int de_int)) de_int)))⟩
theorem ok__law_chain_highest (Z : Zs K mg) : FnOk P w K mg base (L2.CX P w) 1 Z.f__law_chain_highest Z.fd__law_chain_highest [] (spM K 0 false m__law_chain_highest) := fn_ok Z.F__law_chain_highest sc__law_chain_highest rfl 0 rfl fun cdv A outer s H E hr => ⟨_,
    (dss_one (ds_ret (de_op op_sub (sim_I0 fun _ _ _ _ => rfl) (de_op op_pow (sim_I fun _ _ _ _ => rfl) de_int de_int) de_int)))⟩
theorem ok__law_power (Z : Zs K mg) : FnOk P w K mg base (L2.CX P w) 1 Z.f__law_power Z.fd__law_power ["_law_count"] (spM K 1 false m__law_power) := fn_ok Z.F__law_power sc__law_power rfl 3 rfl fun cdv A outer s H E hr => ⟨_,
    (dss_cons (ds_set 1 sc__law_power.nd de_int)
    (dss_cons (ds_for (passes_of rfl) rfl (di_r1 rfl Z.z_range (da_cons (de_var 0) da_nil)) (dg_name 2 sc__law_power.nd) (dss_one (ds_set 1 sc__law_power.nd (de_op op_mulA sim_mul (de_var 1) de_int))))
    (dss_one (ds_ret (de_var 1)))))⟩
theorem ok__law_figure (Z : Zs K mg) : FnOk P w K mg base (L2.CX P w) 4 Z.f__law_figure Z.fd__law_figure ["_law_store_here"] (spM K 1 false m__law_figure) := fn_ok Z.F__law_figure sc__law_figure rfl 4 rfl fun cdv A outer s H E hr => ⟨_,
    (dss_cons (ds_set 1 sc__law_figure.nd (de_call K (ok__law_take Z) (takes_of rfl rfl rfl rfl) (hr.mono (by decide)) rfl Z.g__law_take Z.F__law_take.kp Z.b__law_take .nil (fun _ _ => rfl) (da_cons (de_var 0) (da_cons de_int da_nil))))
    (dss_cons (ds_if (dt_cmp (op_eqK K hr) sim_eq (de_var 1) de_int (nomark _)) (dss_one (ds_ret (de_call K (ok__law_pick Z) (takes_of rfl rfl rfl rfl) (hr.mono (by decide)) rfl Z.g__law_pick Z.F__law_pick.kp Z.b__law_pick .nil (fun _ _ => rfl) (da_cons (de_var 0) (da_cons (de_lst (da_cons de_int (da_cons de_int (da_cons (de_neg de_int) (da_cons de_int (da_cons de_int (da_cons (de_neg de_int) (da_cons (de_neg de_int) (da_cons de_int (da_cons de_int (da_cons de_int (da_cons de_int (da_cons (de_neg de_int) (da_cons (de_neg de_int) da_nil)))))))))))))) da_nil))))) dss_nil)
    (dss_cons (ds_if (dt_cmp (op_eqK K hr) sim_eq (de_var 1) de_int (nomark _)) (dss_cons (ds_set 2 sc__law_figure.nd (de_call K (ok__law_power Z) (takes_of rfl rfl rfl rfl) (hr.mono (by decide)) rfl Z.g__law_power Z.F__law_power.kp Z.b__law_power .nil (fun _ _ => rfl) (da_cons (de_op (op_addK K) sim_add (de_op op_mulA sim_mul de_int (de_call K (ok__law_take Z) (takes_of rfl rfl rfl rfl) (hr.mono (by decide)) rfl Z.g__law_take Z.F__law_take.kp Z.b__law_take .nil (fun _ _ => rfl) (da_cons (de_var 0) (da_cons de_int da_nil)))) de_int) da_nil)))
    (dss_cons (ds_set 3 sc__law_figure.nd (de_call K (ok__law_pick Z) (takes_of rfl rfl rfl rfl) (hr.mono (by decide)) rfl Z.g__law_pick Z.F__law_pick.kp Z.b__law_pick .nil (fun _ _ => rfl) (da_cons (de_var 0) (da_cons (de_lst (da_cons (de_op op_sub (sim_I0 fun _ _ _ _ => rfl) (de_var 2) de_int) (da_cons (de_var 2) (da_cons (de_neg (de_var 2)) (da_cons (de_op op_sub (sim_I0 fun _ _ _ _ => rfl) (de_neg (de_var 2)) de_int) (da_cons (de_op (op_addK K) sim_add (de_var 2) de_int) (da_cons (de_op op_sub (sim_I0 fun _ _ _ _ => rfl) de_int (de_var 2)) da_nil))))))) da_nil))))
    (dss_one (ds_ret (de_call K (ok__law_clamp Z) (takes_of rfl rfl rfl rfl) (hr.mono (by decide)) rfl Z.g__law_clamp Z.F__law_clamp.kp Z.b__law_clamp .nil (fun _ _ => rfl) (da_cons (de_var 3) (da_cons (de_call0 K (ok__law_lowest Z) (takes_of rfl rfl rfl rfl) (hr.mono (by decide)) rfl Z.g__law_lowest Z.F__law_lowest.kp Z.b__law_lowest .nil (fun _ _ => rfl)) (da_cons (de_call0 K (ok__law_highest Z) (takes_of rfl rfl rfl rfl) (hr.mono (by decide)) rfl Z.g__law_highest Z.F__law_highest.kp Z.b__law_highest .nil (fun _ _ => rfl)) da_nil)))))))) dss_nil)
    (dss_cons (ds_if (dt_cmp (op_eqK K hr) sim_eq (de_var 1) de_int (nomark _)) (dss_one (ds_ret (de_op (op_addK K) sim_add (de_call0 K (ok__law_lowest Z) (takes_of rfl rfl rfl rfl) (hr.mono (by decide)) rfl Z.g__law_lowest Z.F__law_lowest.kp Z.b__law_lowest .nil (fun _ _ => rfl)) (de_call K (ok__law_take Z) (takes_of rfl rfl rfl rfl) (hr.mono (by decide)) rfl Z.g__law_take Z.F__law_take.kp Z.b__law_take .nil (fun _ _ => rfl) (da_cons (de_var 0) (da_cons (de_op op_mulA sim_mul (de_op op_pow (sim_I fun _ _ _ _ => rfl) de_int de_int) (de_op op_pow (sim_I fun _ _ _ _ => rfl) de_int de_int)) da_nil)))))) dss_nil)
    (dss_one (ds_ret (de_op op_sub (sim_I0 fun _ _ _ _ => rfl) (de_call K (ok__law_take Z) (takes_of rfl rfl rfl rfl) (hr.mono (by decide)) rfl Z.g__law_take Z.F__law_take.kp Z.b__law_take .nil (fun _ _ => rfl) (da_cons (de_var 0) (da_cons de_int da_nil))) de_int)))))))⟩
theorem ok__law_octet (Z : Zs K mg) : FnOk P w K mg base (L2.CX P w) 4 Z.f__law_octet Z.fd__law_octet ["_law_store_here"] (spM K 1 false m__law_octet) := fn_ok Z.F__law_octet sc__law_octet rfl 1 rfl fun cdv A outer s H E hr => ⟨_,
    (dss_cons (ds_if (dt_cmp (op_eqK K hr) sim_eq (de_call K (ok__law_take Z) (takes_of rfl rfl rfl rfl) (hr.mono (by decide)) rfl Z.g__law_take Z.F__law_take.kp Z.b__law_take .nil (fun _ _ => rfl) (da_cons (de_var 0) (da_cons de_int da_nil))) de_int (nomark _)) (dss_one (ds_ret (de_call K (ok__law_pick Z) (takes_of rfl rfl rfl rfl) (hr.mono (by decide)) rfl Z.g__law_pick Z.F__law_pick.kp Z.b__law_pick .nil (fun _ _ => rfl) (da_cons (de_var 0) (da_cons (de_lst (da_cons de_int (da_cons de_int (da_cons de_int (da_cons de_int (da_cons de_int (da_cons de_int (da_cons de_int (da_cons de_int (da_cons de_int (da_cons de_int (da_cons de_int (da_cons de_int (da_cons de_int (da_cons de_int (da_cons de_int (da_cons de_int (da_cons de_int (da_cons de_int da_nil))))))))))))))))))) da_nil))))) dss_nil)
    (dss_one (ds_ret (de_call K (ok__law_take Z) (takes_of rfl rfl rfl rfl) (hr.mono (by decide)) rfl Z.g__law_take Z.F__law_take.kp Z.b__law_take .nil (fun _ _ => rfl) (da_cons (de_var 0) (da_cons de_int da_nil))))))⟩
theorem ok__law_unsigned (Z : Zs K mg) : FnOk P w K mg base (L2.CX P w) 2 Z.f__law_unsigned Z.fd__law_unsigned ["_law_row"] (spM K 1 false m__law_unsigned) := fn_ok Z.F__law_unsigned sc__law_unsigned rfl 3 rfl fun cdv A outer s H E hr => ⟨_,
    (dss_cons (ds_set 1 sc__law_unsigned.nd de_int)
    (dss_cons (ds_for (passes_of rfl) rfl (di_sq K (de_var 0)) (dg_name 2 sc__law_unsigned.nd) (dss_one (ds_set 1 sc__law_unsigned.nd (de_op (op_addK K) sim_add (de_op op_mulA sim_mul (de_var 1) de_int) (de_var 2)))))
    (dss_cons (ds_if (dt_cmp op_gt (sim_I0 fun _ _ _ _ => rfl) (de_ix K (de_var 0) de_int) de_int (nomark _)) (dss_one (ds_set 1 sc__law_unsigned.nd (de_op op_sub (sim_I0 fun _ _ _ _ => rfl) (de_var 1) (de_call K (ok__law_power Z) (takes_of rfl rfl rfl rfl) (hr.mono (by decide)) rfl Z.g__law_power Z.F__law_power.kp Z.b__law_power .nil (fun _ _ => rfl) (da_cons (de_op op_mulA sim_mul de_int (de_callB (call_lenK K) sim_len rfl Z.z_len (by decide +kernel) (da_cons (de_var 0) da_nil))) da_nil))))) dss_nil)
    (dss_one (ds_ret (de_var 1))))))⟩
theorem ok__law_due_count (Z : Zs K mg) : FnOk P w K mg base (L2.CX P w) 1 Z.f__law_due_count Z.fd__law_due_count ["_law_number"] (spM K 1 false m__law_due_count) := fn_ok Z.F__law_due_count sc__law_due_count rfl 3 rfl fun cdv A outer s H E hr => ⟨_,
    (dss_cons (ds_set 1 sc__law_due_count.nd de_int)
    (dss_cons (ds_for (passes_of rfl) rfl (di_r1 rfl Z.z_range (da_cons de_int da_nil)) (dg_name 2 sc__law_due_count.nd) (dss_cons (ds_if (dt_w (dw_and (dt_cmp op_le (sim_I0 fun _ _ _ _ => rfl) (de_neg (de_var 1)) (de_var 0) (nomark _)) (dw_and1 (dt_cmp op_lt (sim_I0 fun _ _ _ _ => rfl) (de_var 0) (de_var 1) (nomark _))))) (dss_one (ds_ret (de_op (op_addK K) sim_add (de_var 2) de_int))) dss_nil)
    (dss_one (ds_set 1 sc__law_due_count.nd (de_op op_mulA sim_mul (de_var 1) de_int)))))
    (dss_one (ds_ret de_int))))⟩
theorem ok__law_is_integer (Z : Zs K mg) : FnOk P w K mg base (L2.CX P w) 1 Z.f__law_is_integer Z.fd__law_is_integer ["_law_thing"] (spM K 1 false m__law_is_integer) := fn_ok Z.F__law_is_integer sc__law_is_integer rfl 1 rfl fun cdv A outer s H E hr => ⟨_,
    (dss_one (ds_ret (de_and (de_callB (call_isiK' K) sim_isi rfl Z.z_isinstance (by decide +kernel) (da_cons (de_var 0) (da_cons (de_ty rfl Z.z_int (by decide +kernel)) da_nil))) (de_one (de_not (de_callB (call_isiK' K) sim_isi rfl Z.z_isinstance (by decide +kernel) (da_cons (de_var 0) (da_cons (de_ty rfl Z.z_bool (by decide +kernel)) da_nil))))))))⟩
theorem ok__law_is_row (Z : Zs K mg) : FnOk P w K mg base (L2.CX P w) 2 Z.f__law_is_row Z.fd__law_is_row ["_law_thing", "_law_low", "_law_high"] (spM K 3 false m__law_is_row) := fn_ok Z.F__law_is_row sc__law_is_row rfl 4 rfl fun cdv A outer s H E hr => ⟨_,
    (dss_cons (ds_if (dt_not (dt_val (de_callB (call_isiK' K) sim_isi rfl Z.z_isinstance (by decide +kernel) (da_cons (de_var 0) (da_cons (de_ty rfl Z.z_list (by decide +kernel)) da_nil))))) (dss_one (ds_ret de_bl)) dss_nil)
    (dss_cons (ds_for (passes_of rfl) rfl (di_sq K (de_var 0)) (dg_name 3 sc__law_is_row.nd) (dss_one (ds_if (dt_w (dw_or (dt_not (dt_val (de_call K (ok__law_is_integer Z) (takes_of rfl rfl rfl rfl) (hr.mono (by decide)) rfl Z.g__law_is_integer Z.F__law_is_integer.kp Z.b__law_is_integer .nil (fun _ _ => rfl) (da_cons (de_var 3) da_nil)))) (dw_or (dt_cmp op_lt (sim_I0 fun _ _ _ _ => rfl) (de_var 3) (de_var 1) (nomark _)) (dw_or1 (dt_cmp op_gt (sim_I0 fun _ _ _ _ => rfl) (de_var 3) (de_var 2) (nomark _)))))) (dss_one (ds_ret de_bl)) dss_nil)))
    (dss_one (ds_ret de_bl))))⟩
theorem ok__law_row_of_number (Z : Zs K mg) : FnOk P w K mg base (L2.CX P w) 5 Z.f__law_row_of_number Z.fd__law_row_of_number ["_law_number"] (spM K 1 false m__law_row_of_number) := fn_ok Z.F__law_row_of_number sc__law_row_of_number rfl 3 rfl fun cdv A outer s H E hr => ⟨_,
    (dss_cons (ds_set 1 sc__law_row_of_number.nd (de_callM K (ok_signed_octets Z) (takes_of rfl rfl rfl rfl) (hr.mono (by decide)) rfl Z.g_signed_octets Z.F_signed_octets.kp Z.b_signed_octets .nil (fun _ _ => rfl) (da_cons (de_var 0) da_nil)))
    (dss_cons (ds_if (dt_w (dw_or (dt_not (dt_val (de_call K (ok__law_is_row Z) (takes_of rfl rfl rfl rfl) (hr.mono (by decide)) rfl Z.g__law_is_row Z.F__law_is_row.kp Z.b__law_is_row .nil (fun _ _ => rfl) (da_cons (de_var 1) (da_cons de_int (da_cons de_int da_nil)))))) (dw_or1 (dt_cmp (op_neK K hr) sim_ne (de_callB (call_lenK K) sim_len rfl Z.z_len (by decide +kernel) (da_cons (de_var 1) da_nil)) (de_call K (ok__law_due_count Z) (takes_of rfl rfl rfl rfl) (hr.mono (by decide)) rfl Z.g__law_due_count Z.F__law_due_count.kp Z.b__law_due_count .nil (fun _ _ => rfl) (da_cons (de_var 0) da_nil)) (nomark _))))) (dss_one (ds_ret de_bl)) dss_nil)
    (dss_cons (ds_if (dt_cmp (op_neK K hr) sim_ne (de_call K (ok__law_unsigned Z) (takes_of rfl rfl rfl rfl) (hr.mono (by decide)) rfl Z.g__law_unsigned Z.F__law_unsigned.kp Z.b__law_unsigned .nil (fun _ _ => rfl) (da_cons (de_var 1) da_nil)) (de_var 0) (nomark _)) (dss_one (ds_ret de_bl)) dss_nil)
    (dss_cons (ds_set 2 sc__law_row_of_number.nd (de_callTy (call_listK K) sim_list rfl Z.z_list (by decide +kernel) (da_cons (de_var 1) da_nil)))
    (dss_cons (ds_asg (de_op op_sub (sim_I0 fun _ _ _ _ => rfl) de_int (de_ix K (de_var 1) de_int)) (dg_sb (W := W00) (de_var 1) de_int))
    (dss_cons (ds_expr (de_bm K PySem.F.plainAttrs_list PySem.F.slot_list_append PySem.F.type_list_append mt_append sim_append (de_var 1) (da_cons de_int da_nil)))
    (dss_one (ds_ret (de_call K (ok__law_equal Z 3) (takes_of rfl rfl rfl rfl) (hr.mono (by decide)) rfl Z.g__law_equal Z.F__law_equal.kp Z.b__law_equal .nil (fun _ _ => rfl) (da_cons (de_call K (ok_signed_octets Z) (takes_of rfl rfl rfl rfl) (hr.mono (by decide)) rfl Z.g_signed_octets Z.F_signed_octets.kp Z.b_signed_octets .nil (fun _ _ => rfl) (da_cons (de_var 0) da_nil)) (da_cons (de_var 2) da_nil)))))))))))⟩
theorem ok_signed_number (Z : Zs K mg) : FnOk P w K mg base (L2.CX P w) 1 Z.f_signed_number Z.fd_signed_number ["octets"] (spM K 1 false m_signed_number) := fn_ok Z.F_signed_number sc_signed_number rfl 3 rfl fun cdv A outer s H E hr => ⟨_,
    (dss_cons (ds_set 1 sc_signed_number.nd de_int)
    (dss_cons (ds_for (passes_of rfl) rfl (di_sq K (de_var 0)) (dg_name 2 sc_signed_number.nd) (dss_one (ds_set 1 sc_signed_number.nd (de_op (op_addK K) sim_add (de_op op_mulA sim_mul (de_var 1) de_int) (de_var 2)))))
    (dss_cons (ds_if (dt_cmp op_ge (sim_I0 fun _ _ _ _ => rfl) (de_ix K (de_var 0) de_int) de_int (nomark _)) (dss_one (ds_aug 1 sc_signed_number.nd (de_op op_shl (sim_I fun _ _ _ _ => rfl) de_int (de_op op_mulA sim_mul de_int (de_callB (call_lenK K) sim_len rfl Z.z_len (by decide +kernel) (da_cons (de_var 0) da_nil)))) ip_sub)) dss_nil)
    (dss_one (ds_ret (de_var 1))))))⟩
theorem ok__law_means (Z : Zs K mg) : FnOk P w K mg base (L2.CX P w) 5 Z.f__law_means Z.fd__law_means ["_law_row", "_law_number"] (spM K 2 false m__law_means) := fn_ok Z.F__law_means sc__law_means rfl 6 rfl fun cdv A outer s H E hr => ⟨_,
    (dss_cons (ds_set 2 sc__law_means.nd (de_callTy (call_listK K) sim_list rfl Z.z_list (by decide +kernel) (da_cons (de_var 0) da_nil)))
    (dss_cons (ds_set 3 sc__law_means.nd (de_call K (ok_signed_number Z) (takes_of rfl rfl rfl rfl) (hr.mono (by decide)) rfl Z.g_signed_number Z.F_signed_number.kp Z.b_signed_number .nil (fun _ _ => rfl) (da_cons (de_var 0) da_nil)))
    (dss_cons (ds_if (dt_w (dw_or (dt_not (dt_val (de_call K (ok__law_is_integer Z) (takes_of rfl rfl rfl rfl) (hr.mono (by decide)) rfl Z.g__law_is_integer Z.F__law_is_integer.kp Z.b__law_is_integer .nil (fun _ _ => rfl) (da_cons (de_var 3) da_nil)))) (dw_or (dt_cmp (op_neK K hr) sim_ne (de_var 3) (de_var 1) (nomark _)) (dw_or1 (dt_not (dt_val (de_call K (ok__law_equal Z 3) (takes_of rfl rfl rfl rfl) (hr.mono (by decide)) rfl Z.g__law_equal Z.F__law_equal.kp Z.b__law_equal .nil (fun _ _ => rfl) (da_cons (de_var 0) (da_cons (de_var 2) da_nil))))))))) (dss_one (ds_ret de_bl)) dss_nil)
    (dss_cons (ds_set 4 sc__law_means.nd (de_cmp (op_eqK K hr) sim_eq (de_callB (call_lenK K) sim_len rfl Z.z_len (by decide +kernel) (da_cons (de_var 0) da_nil)) (de_call K (ok__law_due_count Z) (takes_of rfl rfl rfl rfl) (hr.mono (by decide)) rfl Z.g__law_due_count Z.F__law_due_count.kp Z.b__law_due_count .nil (fun _ _ => rfl) (da_cons (de_var 1) da_nil)) (nomark _)))
    (dss_cons (ds_if (dt_w (dw_or (dt_not (dt_val (de_call K (ok__law_equal Z 3) (takes_of rfl rfl rfl rfl) (hr.mono (by decide)) rfl Z.g__law_equal Z.F__law_equal.kp Z.b__law_equal .nil (fun _ _ => rfl) (da_cons (de_call K (ok_is_least Z) (takes_of rfl rfl rfl rfl) (hr.mono (by decide)) rfl Z.g_is_least Z.F_is_least.kp Z.b_is_least .nil (fun _ _ => rfl) (da_cons (de_var 0) da_nil)) (da_cons (de_var 4) da_nil))))) (dw_or (dt_not (dt_val (de_call K (ok__law_equal Z 3) (takes_of rfl rfl rfl rfl) (hr.mono (by decide)) rfl Z.g__law_equal Z.F__law_equal.kp Z.b__law_equal .nil (fun _ _ => rfl) (da_cons (de_call K (ok_is_least Z) (takes_of rfl rfl rfl rfl) (hr.mono (by decide)) rfl Z.g_is_least Z.F_is_least.kp Z.b_is_least .nil (fun _ _ => rfl) (da_cons (de_callTy (call_tupleK K) sim_tuple rfl Z.z_tuple (by decide +kernel) (da_cons (de_var 2) da_nil)) da_nil)) (da_cons (de_var 4) da_nil))))) (dw_or1 (dt_not (dt_val (de_call K (ok__law_equal Z 3) (takes_of rfl rfl rfl rfl) (hr.mono (by decide)) rfl Z.g__law_equal Z.F__law_equal.kp Z.b__law_equal .nil (fun _ _ => rfl) (da_cons (de_var 0) (da_cons (de_var 2) da_nil))))))))) (dss_one (ds_ret de_bl)) dss_nil)
    (dss_cons (ds_asg (de_op op_sub (sim_I0 fun _ _ _ _ => rfl) de_int (de_ix K (de_var 0) de_int)) (dg_sb (W := W00) (de_var 0) de_int))
    (dss_cons (ds_if (dt_cmp (op_neK K hr) sim_ne (de_call K (ok_signed_number Z) (takes_of rfl rfl rfl rfl) (hr.mono (by decide)) rfl Z.g_signed_number Z.F_signed_number.kp Z.b_signed_number .nil (fun _ _ => rfl) (da_cons (de_var 0) da_nil)) (de_call K (ok__law_unsigned Z) (takes_of rfl rfl rfl rfl) (hr.mono (by decide)) rfl Z.g__law_unsigned Z.F__law_unsigned.kp Z.b__law_unsigned .nil (fun _ _ => rfl) (da_cons (de_var 0) da_nil)) (nomark _)) (dss_one (ds_ret de_bl)) dss_nil)
    (dss_cons (ds_set 5 sc__law_means.nd (de_call K (ok_signed_number Z) (takes_of rfl rfl rfl rfl) (hr.mono (by decide)) rfl Z.g_signed_number Z.F_signed_number.kp Z.b_signed_number .nil (fun _ _ => rfl) (da_cons (de_var 2) da_nil)))
    (dss_one (ds_ret (de_and (de_call K (ok__law_is_integer Z) (takes_of rfl rfl rfl rfl) (hr.mono (by decide)) rfl Z.g__law_is_integer Z.F__law_is_integer.kp Z.b__law_is_integer .nil (fun _ _ => rfl) (da_cons (de_var 5) da_nil)) (de_one (de_cmp (op_eqK K hr) sim_eq (de_var 5) (de_var 1) (nomark _))))))))))))))⟩
theorem ok__law_no_octets (Z : Zs K mg) : FnOk P w K mg base (L2.CX P w) 5 Z.f__law_no_octets Z.fd__law_no_octets ["_law_store_here", "_law_row"] (spM K 2 false m__law_no_octets) := fn_ok Z.F__law_no_octets sc__law_no_octets rfl 9 rfl fun cdv A outer s H E hr => ⟨_,
    (dss_cons (ds_set 2 sc__law_no_octets.nd (de_call K (ok__law_take Z) (takes_of rfl rfl rfl rfl) (hr.mono (by decide)) rfl Z.g__law_take Z.F__law_take.kp Z.b__law_take .nil (fun _ _ => rfl) (da_cons (de_var 0) (da_cons (de_callB (call_lenK K) sim_len rfl Z.z_len (by decide +kernel) (da_cons (de_var 1) da_nil)) da_nil))))
    (dss_cons (ds_set 3 sc__law_no_octets.nd (de_call K (ok__law_pick Z) (takes_of rfl rfl rfl rfl) (hr.mono (by decide)) rfl Z.g__law_pick Z.F__law_pick.kp Z.b__law_pick .nil (fun _ _ => rfl) (da_cons (de_var 0) (da_cons (de_lst (da_cons de_int (da_cons (de_neg de_int) (da_cons de_int (da_cons de_bl (da_cons de_bl (da_cons de_non (da_cons de_str (da_cons de_str (da_cons (de_lst (da_cons de_int da_nil)) (da_cons (de_tup (da_cons de_int da_nil)) (da_cons (de_op op_pow (sim_I fun _ _ _ _ => rfl) de_int de_int) da_nil)))))))))))) da_nil))))
    (dss_cons (ds_set 4 sc__law_no_octets.nd (de_op (op_addK K) sim_add (de_op (op_addK K) sim_add (de_sl K (de_var 1) do_none (do_some (de_var 2))) (de_lst (da_cons (de_var 3) da_nil))) (de_sl K (de_var 1) (do_some (de_op (op_addK K) sim_add (de_var 2) de_int)) do_none)))
    (dss_cons (ds_set 5 sc__law_no_octets.nd de_int)
    (dss_cons (ds_for (passes_of rfl) rfl (di_r1 rfl Z.z_range (da_cons de_int da_nil)) (dg_name 6 sc__law_no_octets.nd) (dss_one (ds_set 5 sc__law_no_octets.nd (de_call K (ok__law_pick Z) (takes_of rfl rfl rfl rfl) (hr.mono (by decide)) rfl Z.g__law_pick Z.F__law_pick.kp Z.b__law_pick .nil (fun _ _ => rfl) (da_cons (de_var 0) (da_cons (de_lst (da_cons (de_lst (da_cons (de_var 5) da_nil)) (da_cons (de_tup (da_cons (de_var 5) da_nil)) da_nil))) da_nil))))))
    (dss_cons (ds_set 7 sc__law_no_octets.nd (de_op (op_addK K) sim_add (de_var 1) (de_op op_mulA sim_mul (de_lst (da_cons (de_call K (ok__law_octet Z) (takes_of rfl rfl rfl rfl) (hr.mono (by decide)) rfl Z.g__law_octet Z.F__law_octet.kp Z.b__law_octet .nil (fun _ _ => rfl) (da_cons (de_var 0) da_nil)) da_nil)) (de_op op_sub (sim_I0 fun _ _ _ _ => rfl) de_int (de_callB (call_lenK K) sim_len rfl Z.z_len (by decide +kernel) (da_cons (de_var 1) da_nil))))))
    (dss_cons (ds_set 8 sc__law_no_octets.nd (de_lst (da_cons (de_var 4) (da_cons (de_callTy (call_tupleK K) sim_tuple rfl Z.z_tuple (by decide +kernel) (da_cons (de_var 4) da_nil)) (da_cons (de_lst da_nil) (da_cons (de_tup da_nil) (da_cons (de_var 7) (da_cons (de_callTy (call_tupleK K) sim_tuple rfl Z.z_tuple (by decide +kernel) (da_cons (de_var 7) da_nil)) (da_cons (de_op op_mulA sim_mul (de_lst (da_cons de_int da_nil)) de_int) (da_cons (de_op (op_addK K) sim_add (de_lst (da_cons de_int da_nil)) (de_op op_mulA sim_mul (de_lst (da_cons de_int da_nil)) de_int)) (da_cons de_non (da_cons de_bl (da_cons de_bl (da_cons de_int (da_cons de_int (da_cons de_str (da_cons de_str da_nil)))))))))))))))))
    (dss_one (ds_ret (de_op (op_addK K) sim_add (de_var 8) (de_lst (da_cons (de_lst (da_cons (de_var 1) da_nil)) (da_cons (de_tup (da_cons (de_callTy (call_tupleK K) sim_tuple rfl Z.z_tuple (by decide +kernel) (da_cons (de_var 1) da_nil)) da_nil)) (da_cons (de_var 5) (da_cons (de_lst (da_cons (de_callTy (call_listK K) sim_list rfl Z.z_list (by decide +kernel) (da_cons (de_var 1) da_nil)) (da_cons (de_callTy (call_listK K) sim_list rfl Z.z_list (by decide +kernel) (da_cons (de_var 1) da_nil)) da_nil))) (da_cons (de_tup (da_cons de_str (da_cons de_int da_nil))) (da_cons (de_lst (da_cons (de_var 5) (da_cons de_int da_nil))) da_nil)))))))))))))))))⟩
theorem ok_law (Z : Zs K mg) : FnOk P w K mg base (L2.CX P w) 6 Z.f_law Z.fd_law ["_law_script"] (spM K 1 false m_law) := fn_ok Z.F_law sc_law rfl 12 rfl fun cdv A outer s H E hr => ⟨_,
    (dss_cons (ds_set 1 sc_law.nd (de_call K (ok__law_store Z) (takes_of rfl rfl rfl rfl) (hr.mono (by decide)) rfl Z.g__law_store Z.F__law_store.kp Z.b__law_store .nil (fun _ _ => rfl) (da_cons (de_var 0) da_nil)))
    (dss_cons (ds_set 2 sc_law.nd (de_lst (da_cons (de_gint rfl Z.g_LEAST) (da_cons (de_gint rfl Z.g_MOST) (da_cons (de_gint rfl Z.g_CHAIN_MOST) (da_cons (de_gint rfl Z.g_DEPTH) da_nil))))))
    (dss_cons (ds_if (dt_not (dt_val (de_call K (ok__law_equal Z 3) (takes_of rfl rfl rfl rfl) (hr.mono (by decide)) rfl Z.g__law_equal Z.F__law_equal.kp Z.b__law_equal .nil (fun _ _ => rfl) (da_cons (de_var 2) (da_cons (de_lst (da_cons (de_call0 K (ok__law_lowest Z) (takes_of rfl rfl rfl rfl) (hr.mono (by decide)) rfl Z.g__law_lowest Z.F__law_lowest.kp Z.b__law_lowest .nil (fun _ _ => rfl)) (da_cons (de_call0 K (ok__law_highest Z) (takes_of rfl rfl rfl rfl) (hr.mono (by decide)) rfl Z.g__law_highest Z.F__law_highest.kp Z.b__law_highest .nil (fun _ _ => rfl)) (da_cons (de_call0 K (ok__law_chain_highest Z) (takes_of rfl rfl rfl rfl) (hr.mono (by decide)) rfl Z.g__law_chain_highest Z.F__law_chain_highest.kp Z.b__law_chain_highest .nil (fun _ _ => rfl)) (da_cons de_int da_nil))))) da_nil))))) (dss_one (ds_ret de_bl)) dss_nil)
    (dss_cons (ds_set 3 sc_law.nd (de_call K (ok__law_figure Z) (takes_of rfl rfl rfl rfl) (hr.mono (by decide)) rfl Z.g__law_figure Z.F__law_figure.kp Z.b__law_figure .nil (fun _ _ => rfl) (da_cons (de_var 1) da_nil)))
    (dss_cons (ds_for (passes_of rfl) rfl (di_sq K (de_lst (da_cons (de_var 3) (da_cons (de_call K (ok__law_clamp Z) (takes_of rfl rfl rfl rfl) (hr.mono (by decide)) rfl Z.g__law_clamp Z.F__law_clamp.kp Z.b__law_clamp .nil (fun _ _ => rfl) (da_cons (de_op (op_addK K) sim_add (de_var 3) de_int) (da_cons (de_gint rfl Z.g_LEAST) (da_cons (de_gint rfl Z.g_MOST) da_nil)))) (da_cons (de_call K (ok__law_clamp Z) (takes_of rfl rfl rfl rfl) (hr.mono (by decide)) rfl Z.g__law_clamp Z.F__law_clamp.kp Z.b__law_clamp .nil (fun _ _ => rfl) (da_cons (de_op op_sub (sim_I0 fun _ _ _ _ => rfl) (de_var 3) de_int) (da_cons (de_gint rfl Z.g_LEAST) (da_cons (de_gint rfl Z.g_MOST) da_nil)))) (da_cons (de_op op_sub (sim_I0 fun _ _ _ _ => rfl) (de_neg de_int) (de_var 3)) da_nil)))))) (dg_name 4 sc_law.nd) (dss_one (ds_if (dt_not (dt_val (de_call K (ok__law_row_of_number Z) (takes_of rfl rfl rfl rfl) (hr.mono (by decide)) rfl Z.g__law_row_of_number Z.F__law_row_of_number.kp Z.b__law_row_of_number .nil (fun _ _ => rfl) (da_cons (de_var 4) da_nil)))) (dss_one (ds_ret de_bl)) dss_nil)))
    (dss_cons (ds_set 5 sc_law.nd (de_call K (ok_signed_octets Z) (takes_of rfl rfl rfl rfl) (hr.mono (by decide)) rfl Z.g_signed_octets Z.F_signed_octets.kp Z.b_signed_octets .nil (fun _ _ => rfl) (da_cons (de_var 3) da_nil)))
    (dss_cons (ds_set 6 sc_law.nd de_int)
    (dss_cons (ds_if (dt_cmp op_lt (sim_I0 fun _ _ _ _ => rfl) (de_var 3) de_int (nomark _)) (dss_one (ds_set 6 sc_law.nd de_int)) dss_nil)
    (dss_cons (ds_for (passes_of rfl) rfl (di_r1 rfl Z.z_range (da_cons (de_op op_sub (sim_I0 fun _ _ _ _ => rfl) de_int (de_callB (call_lenK K) sim_len rfl Z.z_len (by decide +kernel) (da_cons (de_var 5) da_nil))) da_nil)) (dg_name 7 sc_law.nd) (dss_one (ds_if (dt_not (dt_val (de_call K (ok__law_means Z) (takes_of rfl rfl rfl rfl) (hr.mono (by decide)) rfl Z.g__law_means Z.F__law_means.kp Z.b__law_means .nil (fun _ _ => rfl) (da_cons (de_addM K (de_op op_mulA sim_mul (de_lst (da_cons (de_var 6) da_nil)) (de_var 7)) (de_callTy (call_listK K) sim_list rfl Z.z_list (by decide +kernel) (da_cons (de_var 5) da_nil))) (da_cons (de_var 3) da_nil))))) (dss_one (ds_ret de_bl)) dss_nil)))
    (dss_cons (ds_setLc 8 (vs := [9]) [("_law_k", 9)] rfl rfl sc_law.nd (di_r1 rfl Z.z_range (da_cons (de_op (op_addK K) sim_add de_int (de_call K (ok__law_take Z) (takes_of rfl rfl rfl rfl) (hr.mono (by decide)) rfl Z.g__law_take Z.F__law_take.kp Z.b__law_take .nil (fun _ _ => rfl) (da_cons (de_var 1) (da_cons de_int da_nil)))) da_nil)) (blkOk_by (N := n_law) (sc := defScope s_law) (by decide +kernel)) (fun _ _ _ _ _ => (dg_name 9 sc_law.nd)) (fun _ _ _ _ _ => pts_nil) sim_yes (fun _ _ _ _ _ => (de_call K (ok__law_octet Z) takes0 (hr.mono (by decide)) rfl Z.g__law_octet Z.F__law_octet.kp Z.b__law_octet .nil (fun _ _ => rfl) (da_cons (de_var 1) da_nil))) (by decide) rfl (sw_true rfl rfl rfl (by decide +kernel)))
    (dss_cons (ds_if (dt_cmp (op_eqK K hr) sim_eq (de_call K (ok__law_take Z) (takes_of rfl rfl rfl rfl) (hr.mono (by decide)) rfl Z.g__law_take Z.F__law_take.kp Z.b__law_take .nil (fun _ _ => rfl) (da_cons (de_var 1) (da_cons de_int da_nil))) de_int (nomark _)) (dss_one (ds_set 8 sc_law.nd (de_op (op_addK K) sim_add (de_lst (da_cons (de_call K (ok__law_pick Z) (takes_of rfl rfl rfl rfl) (hr.mono (by decide)) rfl Z.g__law_pick Z.F__law_pick.kp Z.b__law_pick .nil (fun _ _ => rfl) (da_cons (de_var 1) (da_cons (de_lst (da_cons de_int (da_cons de_int (da_cons de_int (da_cons de_int da_nil))))) da_nil))) da_nil)) (de_sl K (de_var 8) do_none (do_some de_int))))) dss_nil)
    (dss_cons (ds_set 10 sc_law.nd (de_call K (ok__law_unsigned Z) (takes_of rfl rfl rfl rfl) (hr.mono (by decide)) rfl Z.g__law_unsigned Z.F__law_unsigned.kp Z.b__law_unsigned .nil (fun _ _ => rfl) (da_cons (de_var 8) da_nil)))
    (dss_cons (ds_if (dt_w (dw_or (dt_not (dt_val (de_call K (ok__law_means Z) (takes_of rfl rfl rfl rfl) (hr.mono (by decide)) rfl Z.g__law_means Z.F__law_means.kp Z.b__law_means .nil (fun _ _ => rfl) (da_cons (de_listM K rfl Z.z_list (by decide +kernel) (da_cons (de_var 8) da_nil)) (da_cons (de_var 10) da_nil))))) (dw_or1 (dt_not (dt_val (de_call K (ok__law_row_of_number Z) (takes_of rfl rfl rfl rfl) (hr.mono (by decide)) rfl Z.g__law_row_of_number Z.F__law_row_of_number.kp Z.b__law_row_of_number .nil (fun _ _ => rfl) (da_cons (de_var 10) da_nil))))))) (dss_one (ds_ret de_bl)) dss_nil)
    (dss_cons (ds_for (passes_of rfl) rfl (di_sq K (de_call K (ok__law_no_octets Z) (takes_of rfl rfl rfl rfl) (hr.mono (by decide)) rfl Z.g__law_no_octets Z.F__law_no_octets.kp Z.b__law_no_octets .nil (fun _ _ => rfl) (da_cons (de_var 1) (da_cons (de_var 8) da_nil)))) (dg_name 11 sc_law.nd) (dss_one (ds_if (dt_cmp op_notBl sim_notB (de_call K (ok_is_least Z) (takes_of rfl rfl rfl rfl) (hr.mono (by decide)) rfl Z.g_is_least Z.F_is_least.kp Z.b_is_least .nil (fun _ _ => rfl) (da_cons (de_var 11) da_nil)) de_bl (nomark _)) (dss_one (ds_ret de_bl)) dss_nil)))
    (dss_one (ds_ret (de_call K (ok__law_equal Z 3) (takes_of rfl rfl rfl rfl) (hr.mono (by decide)) rfl Z.g__law_equal Z.F__law_equal.kp Z.b__law_equal .nil (fun _ _ => rfl) (da_cons (de_call K (ok_is_least Z) (takes_of rfl rfl rfl rfl) (hr.mono (by decide)) rfl Z.g_is_least Z.F_is_least.kp Z.b_is_least .nil (fun _ _ => rfl) (da_cons (de_var 8) da_nil)) (da_cons (de_cmp (op_eqK K hr) sim_eq (de_callB (call_lenK K) sim_len rfl Z.z_len (by decide +kernel) (da_cons (de_var 8) da_nil)) (de_call K (ok__law_due_count Z) (takes_of rfl rfl rfl rfl) (hr.mono (by decide)) rfl Z.g__law_due_count Z.F__law_due_count.kp Z.b__law_due_count .nil (fun _ _ => rfl) (da_cons (de_var 10) da_nil)) (nomark _)) da_nil)))))))))))))))))))⟩
end
/-! the head -/
def d_wide_octets : He.DefD := ⟨("wide_octets", none), "wide_octets", "wide_octets", defArgs s_wide_octets, defBody s_wide_octets, defScope s_wide_octets, [], []⟩
def d_signed_octets : He.DefD := ⟨("signed_octets", none), "signed_octets", "signed_octets", defArgs s_signed_octets, defBody s_signed_octets, defScope s_signed_octets, [], []⟩
def d_is_integer : He.DefD := ⟨("is_integer", none), "is_integer", "is_integer", defArgs s_is_integer, defBody s_is_integer, defScope s_is_integer, [], []⟩
def d_is_octet_row : He.DefD := ⟨("is_octet_row", none), "is_octet_row", "is_octet_row", defArgs s_is_octet_row, defBody s_is_octet_row, defScope s_is_octet_row, [], []⟩
def d_is_least : He.DefD := ⟨("is_least", none), "is_least", "is_least", defArgs s_is_least, defBody s_is_least, defScope s_is_least, [], []⟩
def d__law_mix : He.DefD := ⟨("_law_mix", none), "_law_mix", "_law_mix", defArgs s__law_mix, defBody s__law_mix, defScope s__law_mix, [], []⟩
def d__law_store : He.DefD := ⟨("_law_store", none), "_law_store", "_law_store", defArgs s__law_store, defBody s__law_store, defScope s__law_store, [], []⟩
def d__law_take : He.DefD := ⟨("_law_take", none), "_law_take", "_law_take", defArgs s__law_take, defBody s__law_take, defScope s__law_take, [], []⟩
def d__law_pick : He.DefD := ⟨("_law_pick", none), "_law_pick", "_law_pick", defArgs s__law_pick, defBody s__law_pick, defScope s__law_pick, [], []⟩
def d__law_equal : He.DefD := ⟨("_law_equal", none), "_law_equal", "_law_equal", defArgs s__law_equal, defBody s__law_equal, defScope s__law_equal, [], []⟩
def d__law_clamp : He.DefD := ⟨("_law_clamp", none), "_law_clamp", "_law_clamp", defArgs s__law_clamp, defBody s__law_clamp, defScope s__law_clamp, [], []⟩
def d__law_lowest : He.DefD := ⟨("_law_lowest", none), "_law_lowest", "_law_lowest", defArgs s__law_lowest, defBody s__law_lowest, defScope s__law_lowest, [], []⟩
def d__law_highest : He.DefD := ⟨("_law_highest", none), "_law_highest", "_law_highest", defArgs s__law_highest, defBody s__law_highest, defScope s__law_highest, [], []⟩
def d__law_chain_highest : He.DefD := ⟨("_law_chain_highest", none), "_law_chain_highest", "_law_chain_highest", defArgs s__law_chain_highest, defBody s__law_chain_highest, defScope s__law_chain_highest, [], []⟩
def d__law_power : He.DefD := ⟨("_law_power", none), "_law_power", "_law_power", defArgs s__law_power, defBody s__law_power, defScope s__law_power, [], []⟩
def d__law_figure : He.DefD := ⟨("_law_figure", none), "_law_figure", "_law_figure", defArgs s__law_figure, defBody s__law_figure, defScope s__law_figure, [], []⟩
def d__law_octet : He.DefD := ⟨("_law_octet", none), "_law_octet", "_law_octet", defArgs s__law_octet, defBody s__law_octet, defScope s__law_octet, [], []⟩
def d__law_unsigned : He.DefD := ⟨("_law_unsigned", none), "_law_unsigned", "_law_unsigned", defArgs s__law_unsigned, defBody s__law_unsigned, defScope s__law_unsigned, [], []⟩
def d__law_due_count : He.DefD := ⟨("_law_due_count", none), "_law_due_count", "_law_due_count", defArgs s__law_due_count, defBody s__law_due_count, defScope s__law_due_count, [], []⟩
def d__law_is_integer : He.DefD := ⟨("_law_is_integer", none), "_law_is_integer", "_law_is_integer", defArgs s__law_is_integer, defBody s__law_is_integer, defScope s__law_is_integer, [], []⟩
def d__law_is_row : He.DefD := ⟨("_law_is_row", none), "_law_is_row", "_law_is_row", defArgs s__law_is_row, defBody s__law_is_row, defScope s__law_is_row, [], []⟩
def d__law_row_of_number : He.DefD := ⟨("_law_row_of_number", none), "_law_row_of_number", "_law_row_of_number", defArgs s__law_row_of_number, defBody s__law_row_of_number, defScope s__law_row_of_number, [], []⟩
def d_signed_number : He.DefD := ⟨("signed_number", none), "signed_number", "signed_number", defArgs s_signed_number, defBody s_signed_number, defScope s_signed_number, [], []⟩
def d__law_means : He.DefD := ⟨("_law_means", none), "_law_means", "_law_means", defArgs s__law_means, defBody s__law_means, defScope s__law_means, [], []⟩
def d__law_no_octets : He.DefD := ⟨("_law_no_octets", none), "_law_no_octets", "_law_no_octets", defArgs s__law_no_octets, defBody s__law_no_octets, defScope s__law_no_octets, [], []⟩
def d_law : He.DefD := ⟨("law", none), "law", "law", defArgs s_law, defBody s_law, defScope s_law, [], []⟩
def fn : List He.DefD := [d_wide_octets, d_signed_octets, d_is_integer, d_is_octet_row, d_is_least, d__law_mix, d__law_store, d__law_take, d__law_pick, d__law_equal, d__law_clamp, d__law_lowest, d__law_highest, d__law_chain_highest, d__law_power, d__law_figure, d__law_octet, d__law_unsigned, d__law_due_count, d__law_is_integer, d__law_is_row, d__law_row_of_number, d_signed_number, d__law_means, d__law_no_octets, d_law]
def fa : List He.Fa := [.glo "wide_octets", .glo "signed_octets", .glo "is_integer", .glo "is_octet_row", .glo "is_least", .glo "_law_mix", .glo "_law_store", .glo "_law_take", .glo "_law_pick", .glo "_law_equal", .glo "_law_clamp", .glo "_law_lowest", .glo "_law_highest", .glo "_law_chain_highest", .glo "_law_power", .glo "_law_figure", .glo "_law_octet", .glo "_law_unsigned", .glo "_law_due_count", .glo "_law_is_integer", .glo "_law_is_row", .glo "_law_row_of_number", .glo "signed_number", .glo "_law_means", .glo "_law_no_octets", .glo "law", .free "isinstance", .free "int", .free "bool", .free "tuple", .free "list", .free "all", .free "range", .free "len", .free "abs", .free "str", .free "max", .free "min", .int "DEPTH" (20), .int "CHAIN_MOST" (9223372036854775807), .int "MOST" (170141183460469231731687303715884105727), .int "LEAST" (-170141183460469231731687303715884105728)]
theorem zs {K : PySem.W.Frag} {h : Heap} {mg : Str → Option Value} (X : K.In h) (G : h.Ns mainGlobals mg) (c : He.SaysD fa fn K) : ∃ Z : Zs K mg, True := by
  obtain ⟨fd_wide_octets, F_wide_octets⟩ := c.def_ 0 (d := d_wide_octets) rfl
  have b_wide_octets : Binds K fd_wide_octets ["number", "count"] [] := FunD.bindsN F_wide_octets fun _ _ _ _ _ _ us hl => match us, hl with | [_, _], _ => rfl
  obtain ⟨fd_signed_octets, F_signed_octets⟩ := c.def_ 1 (d := d_signed_octets) rfl
  have b_signed_octets : Binds K fd_signed_octets ["number"] [] := FunD.bindsN F_signed_octets fun _ _ _ _ _ _ us hl => match us, hl with | [_], _ => rfl
  obtain ⟨fd_is_integer, F_is_integer⟩ := c.def_ 2 (d := d_is_integer) rfl
  have b_is_integer : Binds K fd_is_integer ["thing"] [] := FunD.bindsN F_is_integer fun _ _ _ _ _ _ us hl => match us, hl with | [_], _ => rfl
  obtain ⟨fd_is_octet_row, F_is_octet_row⟩ := c.def_ 3 (d := d_is_octet_row) rfl
  have b_is_octet_row : Binds K fd_is_octet_row ["thing"] [] := FunD.bindsN F_is_octet_row fun _ _ _ _ _ _ us hl => match us, hl with | [_], _ => rfl
  obtain ⟨fd_is_least, F_is_least⟩ := c.def_ 4 (d := d_is_least) rfl
  have b_is_least : Binds K fd_is_least ["octets"] [] := FunD.bindsN F_is_least fun _ _ _ _ _ _ us hl => match us, hl with | [_], _ => rfl
  obtain ⟨fd__law_mix, F__law_mix⟩ := c.def_ 5 (d := d__law_mix) rfl
  have b__law_mix : Binds K fd__law_mix ["_law_first", "_law_second"] [] := FunD.bindsN F__law_mix fun _ _ _ _ _ _ us hl => match us, hl with | [_, _], _ => rfl
  obtain ⟨fd__law_store, F__law_store⟩ := c.def_ 6 (d := d__law_store) rfl
  have b__law_store : Binds K fd__law_store ["_law_script"] [] := FunD.bindsN F__law_store fun _ _ _ _ _ _ us hl => match us, hl with | [_], _ => rfl
  obtain ⟨fd__law_take, F__law_take⟩ := c.def_ 7 (d := d__law_take) rfl
  have b__law_take : Binds K fd__law_take ["_law_store_here", "_law_many"] [] := FunD.bindsN F__law_take fun _ _ _ _ _ _ us hl => match us, hl with | [_, _], _ => rfl
  obtain ⟨fd__law_pick, F__law_pick⟩ := c.def_ 8 (d := d__law_pick) rfl
  have b__law_pick : Binds K fd__law_pick ["_law_store_here", "_law_row"] [] := FunD.bindsN F__law_pick fun _ _ _ _ _ _ us hl => match us, hl with | [_, _], _ => rfl
  obtain ⟨fd__law_equal, F__law_equal⟩ := c.def_ 9 (d := d__law_equal) rfl
  have b__law_equal : Binds K fd__law_equal ["_law_first", "_law_second"] [] := FunD.bindsN F__law_equal fun _ _ _ _ _ _ us hl => match us, hl with | [_, _], _ => rfl
  obtain ⟨fd__law_clamp, F__law_clamp⟩ := c.def_ 10 (d := d__law_clamp) rfl
  have b__law_clamp : Binds K fd__law_clamp ["_law_number", "_law_low", "_law_high"] [] := FunD.bindsN F__law_clamp fun _ _ _ _ _ _ us hl => match us, hl with | [_, _, _], _ => rfl
  obtain ⟨fd__law_lowest, F__law_lowest⟩ := c.def_ 11 (d := d__law_lowest) rfl
  have b__law_lowest : Binds K fd__law_lowest [] [] := FunD.bindsN F__law_lowest fun _ _ _ _ _ _ us hl => match us, hl with | [], _ => rfl
  obtain ⟨fd__law_highest, F__law_highest⟩ := c.def_ 12 (d := d__law_highest) rfl
  have b__law_highest : Binds K fd__law_highest [] [] := FunD.bindsN F__law_highest fun _ _ _ _ _ _ us hl => match us, hl with | [], _ => rfl
  obtain ⟨fd__law_chain_highest, F__law_chain_highest⟩ := c.def_ 13 (d := d__law_chain_highest) rfl
  have b__law_chain_highest : Binds K fd__law_chain_highest [] [] := FunD.bindsN F__law_chain_highest fun _ _ _ _ _ _ us hl => match us, hl with | [], _ => rfl
  obtain ⟨fd__law_power, F__law_power⟩ := c.def_ 14 (d := d__law_power) rfl
  have b__law_power : Binds K fd__law_power ["_law_count"] [] := FunD.bindsN F__law_power fun _ _ _ _ _ _ us hl => match us, hl with | [_], _ => rfl
  obtain ⟨fd__law_figure, F__law_figure⟩ := c.def_ 15 (d := d__law_figure) rfl
  have b__law_figure : Binds K fd__law_figure ["_law_store_here"] [] := FunD.bindsN F__law_figure fun _ _ _ _ _ _ us hl => match us, hl with | [_], _ => rfl
  obtain ⟨fd__law_octet, F__law_octet⟩ := c.def_ 16 (d := d__law_octet) rfl
  have b__law_octet : Binds K fd__law_octet ["_law_store_here"] [] := FunD.bindsN F__law_octet fun _ _ _ _ _ _ us hl => match us, hl with | [_], _ => rfl
  obtain ⟨fd__law_unsigned, F__law_unsigned⟩ := c.def_ 17 (d := d__law_unsigned) rfl
  have b__law_unsigned : Binds K fd__law_unsigned ["_law_row"] [] := FunD.bindsN F__law_unsigned fun _ _ _ _ _ _ us hl => match us, hl with | [_], _ => rfl
  obtain ⟨fd__law_due_count, F__law_due_count⟩ := c.def_ 18 (d := d__law_due_count) rfl
  have b__law_due_count : Binds K fd__law_due_count ["_law_number"] [] := FunD.bindsN F__law_due_count fun _ _ _ _ _ _ us hl => match us, hl with | [_], _ => rfl
  obtain ⟨fd__law_is_integer, F__law_is_integer⟩ := c.def_ 19 (d := d__law_is_integer) rfl
  have b__law_is_integer : Binds K fd__law_is_integer ["_law_thing"] [] := FunD.bindsN F__law_is_integer fun _ _ _ _ _ _ us hl => match us, hl with | [_], _ => rfl
  obtain ⟨fd__law_is_row, F__law_is_row⟩ := c.def_ 20 (d := d__law_is_row) rfl
  have b__law_is_row : Binds K fd__law_is_row ["_law_thing", "_law_low", "_law_high"] [] := FunD.bindsN F__law_is_row fun _ _ _ _ _ _ us hl => match us, hl with | [_, _, _], _ => rfl
  obtain ⟨fd__law_row_of_number, F__law_row_of_number⟩ := c.def_ 21 (d := d__law_row_of_number) rfl
  have b__law_row_of_number : Binds K fd__law_row_of_number ["_law_number"] [] := FunD.bindsN F__law_row_of_number fun _ _ _ _ _ _ us hl => match us, hl with | [_], _ => rfl
  obtain ⟨fd_signed_number, F_signed_number⟩ := c.def_ 22 (d := d_signed_number) rfl
  have b_signed_number : Binds K fd_signed_number ["octets"] [] := FunD.bindsN F_signed_number fun _ _ _ _ _ _ us hl => match us, hl with | [_], _ => rfl
  obtain ⟨fd__law_means, F__law_means⟩ := c.def_ 23 (d := d__law_means) rfl
  have b__law_means : Binds K fd__law_means ["_law_row", "_law_number"] [] := FunD.bindsN F__law_means fun _ _ _ _ _ _ us hl => match us, hl with | [_, _], _ => rfl
  obtain ⟨fd__law_no_octets, F__law_no_octets⟩ := c.def_ 24 (d := d__law_no_octets) rfl
  have b__law_no_octets : Binds K fd__law_no_octets ["_law_store_here", "_law_row"] [] := FunD.bindsN F__law_no_octets fun _ _ _ _ _ _ us hl => match us, hl with | [_, _], _ => rfl
  obtain ⟨fd_law, F_law⟩ := c.def_ 25 (d := d_law) rfl
  have b_law : Binds K fd_law ["_law_script"] [] := FunD.bindsN F_law fun _ _ _ _ _ _ us hl => match us, hl with | [_], _ => rfl
  exact ⟨⟨_, fd_wide_octets, F_wide_octets, He.glo_ok X G (c.fact 0 (f := .glo "wide_octets") rfl), b_wide_octets, _, fd_signed_octets, F_signed_octets, He.glo_ok X G (c.fact 1 (f := .glo "signed_octets") rfl), b_signed_octets, _, fd_is_integer, F_is_integer, He.glo_ok X G (c.fact 2 (f := .glo "is_integer") rfl), b_is_integer, _, fd_is_octet_row, F_is_octet_row, He.glo_ok X G (c.fact 3 (f := .glo "is_octet_row") rfl), b_is_octet_row, _, fd_is_least, F_is_least, He.glo_ok X G (c.fact 4 (f := .glo "is_least") rfl), b_is_least, _, fd__law_mix, F__law_mix, He.glo_ok X G (c.fact 5 (f := .glo "_law_mix") rfl), b__law_mix, _, fd__law_store, F__law_store, He.glo_ok X G (c.fact 6 (f := .glo "_law_store") rfl), b__law_store, _, fd__law_take, F__law_take, He.glo_ok X G (c.fact 7 (f := .glo "_law_take") rfl), b__law_take, _, fd__law_pick, F__law_pick, He.glo_ok X G (c.fact 8 (f := .glo "_law_pick") rfl), b__law_pick, _, fd__law_equal, F__law_equal, He.glo_ok X G (c.fact 9 (f := .glo "_law_equal") rfl), b__law_equal, _, fd__law_clamp, F__law_clamp, He.glo_ok X G (c.fact 10 (f := .glo "_law_clamp") rfl), b__law_clamp, _, fd__law_lowest, F__law_lowest, He.glo_ok X G (c.fact 11 (f := .glo "_law_lowest") rfl), b__law_lowest, _, fd__law_highest, F__law_highest, He.glo_ok X G (c.fact 12 (f := .glo "_law_highest") rfl), b__law_highest, _, fd__law_chain_highest, F__law_chain_highest, He.glo_ok X G (c.fact 13 (f := .glo "_law_chain_highest") rfl), b__law_chain_highest, _, fd__law_power, F__law_power, He.glo_ok X G (c.fact 14 (f := .glo "_law_power") rfl), b__law_power, _, fd__law_figure, F__law_figure, He.glo_ok X G (c.fact 15 (f := .glo "_law_figure") rfl), b__law_figure, _, fd__law_octet, F__law_octet, He.glo_ok X G (c.fact 16 (f := .glo "_law_octet") rfl), b__law_octet, _, fd__law_unsigned, F__law_unsigned, He.glo_ok X G (c.fact 17 (f := .glo "_law_unsigned") rfl), b__law_unsigned, _, fd__law_due_count, F__law_due_count, He.glo_ok X G (c.fact 18 (f := .glo "_law_due_count") rfl), b__law_due_count, _, fd__law_is_integer, F__law_is_integer, He.glo_ok X G (c.fact 19 (f := .glo "_law_is_integer") rfl), b__law_is_integer, _, fd__law_is_row, F__law_is_row, He.glo_ok X G (c.fact 20 (f := .glo "_law_is_row") rfl), b__law_is_row, _, fd__law_row_of_number, F__law_row_of_number, He.glo_ok X G (c.fact 21 (f := .glo "_law_row_of_number") rfl), b__law_row_of_number, _, fd_signed_number, F_signed_number, He.glo_ok X G (c.fact 22 (f := .glo "signed_number") rfl), b_signed_number, _, fd__law_means, F__law_means, He.glo_ok X G (c.fact 23 (f := .glo "_law_means") rfl), b__law_means, _, fd__law_no_octets, F__law_no_octets, He.glo_ok X G (c.fact 24 (f := .glo "_law_no_octets") rfl), b__law_no_octets, _, fd_law, F_law, He.glo_ok X G (c.fact 25 (f := .glo "law") rfl), b_law, He.free_ok X G (c.fact 26 (f := .free "isinstance") rfl), He.free_ok X G (c.fact 27 (f := .free "int") rfl), He.free_ok X G (c.fact 28 (f := .free "bool") rfl), He.free_ok X G (c.fact 29 (f := .free "tuple") rfl), He.free_ok X G (c.fact 30 (f := .free "list") rfl), He.free_ok X G (c.fact 31 (f := .free "all") rfl), He.free_ok X G (c.fact 32 (f := .free "range") rfl), He.free_ok X G (c.fact 33 (f := .free "len") rfl), He.free_ok X G (c.fact 34 (f := .free "abs") rfl), He.free_ok X G (c.fact 35 (f := .free "str") rfl), He.free_ok X G (c.fact 36 (f := .free "max") rfl), He.free_ok X G (c.fact 37 (f := .free "min") rfl), He.int_ok X G (c.fact 38 (f := .int "DEPTH" (20)) rfl), He.int_ok X G (c.fact 39 (f := .int "CHAIN_MOST" (9223372036854775807)) rfl), He.int_ok X G (c.fact 40 (f := .int "MOST" (170141183460469231731687303715884105727)) rfl), He.int_ok X G (c.fact 41 (f := .int "LEAST" (-170141183460469231731687303715884105728)) rfl)⟩, trivial⟩
end Qk03

set_option Elab.async false
set_option linter.all false
set_option maxRecDepth 100000
set_option maxHeartbeats 400000
namespace Qk03
open PySem PySem.Spec PyProof.Rows L2 Mp Pl
section
variable {hp : List O} {n : Nat} {o : O} {R : S → List O → Prop} {Xp : MX}
/-- x by c octets, the highest first -/
def rw8 : Nat → Int → List Int
  | 0, _ => []
  | c + 1, x => rw8 c (x / 256) ++ [x % 256]
theorem rw8_len : ∀ (c : Nat) (x : Int), (rw8 c x).length = c
  | 0, _ => rfl
  | c + 1, x => by simp [rw8, rw8_len c]
theorem rw8_bd : ∀ (c : Nat) (x : Int), Bd 0 255 (rw8 c x)
  | 0, _ => Bd.nil
  | c + 1, x => (rw8_bd c _).app (Int.emod_nonneg _ (by omega)) (by have := Int.emod_lt_of_pos x (show (0 : Int) < 256 by omega); omega)
theorem div_pow (x : Int) (k : Nat) : x / 256 / 256 ^ k = x / 256 ^ (k + 1) := by
  rw [Int.pow_succ, Int.mul_comm, Int.ediv_ediv_of_nonneg (by omega)]
theorem rw8_get : ∀ (c : Nat) (x : Int) (i : Nat), i < c → (rw8 c x)[i]? = some (x / 256 ^ (c - 1 - i) % 256)
  | c + 1, x, i, h => by
    show (rw8 c (x / 256) ++ [x % 256])[i]? = _
    by_cases hi : i < c
    · rw [List.getElem?_append_left (by rw [rw8_len]; exact hi), rw8_get c _ i hi, div_pow, show c - 1 - i + 1 = c + 1 - 1 - i by omega]
    · have e : i = c := by omega
      subst e
      rw [List.getElem?_append_right (by rw [rw8_len]; exact Nat.le_refl _), rw8_len]
      simp
def n256 (g : List Int) : Int := g.foldl (fun a b => a * 256 + b) 0
theorem n256_app {g : List Int} {b : Int} : n256 (g ++ [b]) = n256 g * 256 + b := by simp [n256]
theorem n256_rw : ∀ (c : Nat) (x : Int), n256 (rw8 c x) = x % 256 ^ c
  | 0, x => by simp [rw8, n256, Int.emod_one]
  | c + 1, x => by
    show n256 (rw8 c (x / 256) ++ [x % 256]) = _
    rw [n256_app, n256_rw c, Int.pow_succ]
    have hp0 : (0 : Int) < 256 ^ c := Int.pow_pos (by omega)
    have h1 := Int.emod_add_mul_ediv x 256
    have h2 := Int.emod_add_mul_ediv (x / 256) (256 ^ c)
    have h3 := Int.emod_add_mul_ediv x (256 ^ c * 256)
    have h4 : x / (256 ^ c * 256) = x / 256 / 256 ^ c := by rw [Int.mul_comm, Int.ediv_ediv_of_nonneg (by omega)]
    rw [h4] at h3
    generalize (256 : Int) ^ c = q at *
    generalize x / 256 / q = w at *
    have h5 : q * 256 * w = 256 * (q * w) := by rw [Int.mul_comm q 256, Int.mul_assoc]
    omega
theorem sp_wide {x : Int} {c : Nat} {tg : Tg (m_wide_octets, R, Xp)} (hc : c ≤ 1000) (h : R (.d (.lst (iL (rw8 c x)))) hp) : mfH m_wide_octets hp [.d (.int x), .d (.int c)] R Xp tg := by
  refine mfH_of ?_
  unfold m_wide_octets
  simp
  refine ⟨_, RgC.neg (by omega) (by omega) (by omega) (by omega), ?_⟩
  rw [show ((c : Int) - 1 - -1).toNat = c by omega]
  refine compH_map (fun d => match d with | .int j => .int (x / 2 ^ (8 * j).toNat % 256) | d => d) trivial (by rw [rng_len]; simp; omega) (fun d hd N hN => ?_) ?_
  · obtain ⟨i, hi, rfl⟩ := rng_mem hd
    have h0 : (0 : Int) ≤ 8 * ((c : Int) - 1 + (i : Int) * -1) := by omega
    simp only [x_gName, x_2]
    simp [bitAnd_m8] at hN ⊢
    refine ⟨by omega, ?_⟩
    exact hN
  · have e : (rng ((c : Int) - 1) (-1) c).map (fun d => match d with | .int j => .int (x / 2 ^ (8 * j).toNat % 256) | d => d) = iL (rw8 c x) := by
      apply List.ext_getElem?
      intro i
      by_cases hi : i < c
      · rw [iL_get, rw8_get c x i hi, List.getElem?_map, show (rng ((c : Int) - 1) (-1) c)[i]? = some (.int ((c : Int) - 1 + (i : Int) * -1)) by simp [rng, hi]]
        have e8 : (8 * ((c : Int) - 1 + (i : Int) * -1)).toNat = 8 * (c - 1 - i) := by omega
        have e9 : (2 : Int) ^ (8 * (c - 1 - i)) = 256 ^ (c - 1 - i) := by rw [Int.pow_mul]; rfl
        simp only [Option.map_some, e8, e9]
      · rw [List.getElem?_eq_none (by rw [List.length_map, rng_len]; omega), List.getElem?_eq_none (by rw [iL_len, rw8_len]; omega)]
    rw [e]
    simp
    exact h
def hf (k : Nat) : Int := 128 * 256 ^ k
theorem hf_succ {k : Nat} : hf k * 256 = hf (k + 1) := by simp [hf, Int.pow_succ, Int.mul_assoc]
def Fit (x : Int) (k : Nat) : Prop := -(hf k) ≤ x ∧ x < hf k
def Cn (x : Int) (k : Nat) : Prop := Fit x k ∧ ∀ j, j < k → ¬ Fit x j
instance {x : Int} {k : Nat} : Decidable (Fit x k) := inferInstanceAs (Decidable (_ ∧ _))
theorem cn_ex : ∀ (m : Nat) (x : Int), Fit x m → ∃ k, k ≤ m ∧ Cn x k := by
  intro m x
  induction m with
  | zero => exact fun h => ⟨0, Nat.le_refl _, h, fun j hj => absurd hj (Nat.not_lt_zero _)⟩
  | succ m ih =>
    intro h
    by_cases h2 : Fit x m
    · obtain ⟨k, h3, h4⟩ := ih h2
      exact ⟨k, by omega, h4⟩
    · refine ⟨m + 1, Nat.le_refl _, h, fun j hj h3 => h2 ?_⟩
      have mono : ∀ d j : Nat, hf j ≤ hf (j + d) := fun d j => by
        induction d with
        | zero => exact Int.le_refl _
        | succ d ihd =>
          rw [← Nat.add_assoc, ← hf_succ]
          have : 0 < hf (j + d) := by unfold hf; exact Int.mul_pos (by omega) (Int.pow_pos (by omega))
          omega
      have := mono (m - j) j
      rw [show j + (m - j) = m by omega] at this
      exact ⟨by have := h3.1; omega, by have := h3.2; omega⟩
theorem sp_signed {x : Int} {k : Nat} {tg : Tg (m_signed_octets, R, Xp)} (hk : k ≤ 15) (hx : Cn x k) (h : R (.d (.lst (iL (rw8 (k + 1) x)))) hp) : mfH m_signed_octets hp [.d (.int x)] R Xp tg := by
  refine mfH_of ?_
  unfold m_signed_octets
  simp
  refine whileH_of (fun m hp' env' => ∃ j, j ≤ k ∧ m = k - j ∧ hp = hp' ∧ env' = [some (.d (.int x)), some (.d (.int ((j : Int) + 1))), some (.d (.int (hf j)))]) k ⟨0, Nat.zero_le _, rfl, rfl, rfl⟩ ?_
  rintro m _ _ N ⟨j, hj, rfl, rfl, rfl⟩ hN
  have fin : Fit x j → mfH m_wide_octets hp [.d (.int x), .d (.int ((j : Int) + 1))] (lstR (retP hp.length true R)) (fun x hp' => Xp x (hp'.take hp.length)) .mk := by
    intro hf'
    have e : j = k := by
      by_cases z : j < k
      · exact absurd hf' (hx.2 j z)
      · omega
    subst e
    rw [show (j : Int) + 1 = ((j + 1 : Nat) : Int) by omega]
    refine sp_wide (by omega) ?_
    simp
    exact h
  have st : ¬ Fit x j → N ⟨hp, [some (.d (.int x)), some (.d (.int ((j : Int) + 1 + 1))), some (.d (.int (hf j * 256)))], hp.length⟩ := by
    intro hf'
    have hlt : j < k := by
      by_cases z : j < k
      · exact z
      · have e : j = k := by omega
        subst e
        exact absurd hx.1 hf'
    exact hN (k - (j + 1)) _ _ (by omega) ⟨j + 1, by omega, rfl, rfl, by rw [hf_succ]; simp⟩
  simp
  refine brH_of (fun hz => ?_) (fun hz => ?_)
  · simp at hz
    simp
    exact st fun z => by have := z.1; omega
  · simp at hz
    simp
    refine brH_of (fun hz2 => ?_) (fun hz2 => ?_)
    · simp at hz2
      simp
      exact st fun z => by have := z.2; omega
    · simp at hz2
      simp
      exact fin ⟨by omega, by omega⟩
theorem sp_power {c : Nat} {tg : Tg (m__law_power, R, Xp)} (hc : c ≤ 1000) (h : R (.d (.int (2 ^ c))) hp) : mfH m__law_power hp [.d (.int c)] R Xp tg := by
  refine mfH_of ?_
  unfold m__law_power
  have hr1 : (-4611686018427387904 : Int) ≤ c := by omega
  have hr2 : (c : Int) < 4611686018427387904 := by omega
  simp [hr1, hr2]
  refine forH_rng (fun i hp' env' => hp = hp' ∧ ∃ y, env' = [some (.d (.int c)), some (.d (.int (2 ^ i))), y]) ⟨rfl, _, rfl⟩ ?_ ?_
  · rintro i _ _ N hi ⟨rfl, y, rfl⟩ hN
    simp
    exact hN _ _ ⟨rfl, _, by rw [Int.pow_succ]⟩
  · rintro _ _ ⟨rfl, y, rfl⟩
    simpa using h
/-- what a row of octets means -/
def sg (g : List Int) : Int := n256 g - if 127 < g.head?.getD 0 then 2 ^ (8 * g.length) else 0
theorem sp_unsigned {s : S} {g : List Int} {tg : Tg (m__law_unsigned, R, Xp)} (hv : val hp s = some (.lst (iL g))) (h0 : 0 < g.length) (hl : g.length ≤ 100) (h : R (.d (.int (sg g))) hp) : mfH m__law_unsigned hp [s] R Xp tg := by
  obtain ⟨v, hw, hst, hvl⟩ := walkO_of hv
  have hh : atI g 0 = some (g.head?.getD 0) := by
    cases g with
    | nil => simp at h0
    | cons a g =>
      rw [atI_nat (by omega) (by simp)]
      rfl
  refine mfH_of ?_
  unfold m__law_unsigned
  simp [hw]
  refine ⟨hvl, ?_⟩
  refine forH_ints (fun l r hp' env' => hp = hp' ∧ ∃ y, env' = [some s, some (.d (.int (n256 l))), y]) ⟨rfl, _, rfl⟩ ?_ ?_
  · rintro l x r _ _ N e ⟨rfl, y, rfl⟩ hN
    simp
    exact hN _ _ hst ⟨rfl, _, by rw [n256_app]⟩
  · rintro _ _ ⟨rfl, y, rfl⟩
    simp [hv, hh]
    refine brH_of (fun hz => ?_) (fun hz => ?_)
    · simp at hz
      simp [hv]
      rw [show (8 * (g.length : Int)) = ((8 * g.length : Nat) : Int) by omega]
      refine sp_power (by omega) ?_
      simp
      have e : sg g = n256 g - 2 ^ (8 * g.length) := by unfold sg; rw [if_pos hz]
      rw [← e]
      exact h
    · simp at hz
      simp
      have e : sg g = n256 g := by unfold sg; rw [if_neg (by omega)]; simp
      rw [← e]
      exact h
theorem sp_due {x : Int} {k : Nat} {tg : Tg (m__law_due_count, R, Xp)} (hk : k ≤ 15) (hx : Cn x k) (h : R (.d (.int ((k : Int) + 1))) hp) : mfH m__law_due_count hp [.d (.int x)] R Xp tg := by
  refine mfH_of ?_
  unfold m__law_due_count
  simp
  refine forH_rng (fun i hp' env' => hp = hp' ∧ (∀ j, j < i → ¬ Fit x j) ∧ ∃ y, env' = [some (.d (.int x)), some (.d (.int (hf i))), y]) ⟨rfl, fun j hj => absurd hj (Nat.not_lt_zero _), _, rfl⟩ ?_ ?_
  · rintro i _ _ N hi ⟨rfl, hj, y, rfl⟩ hN
    have fin : Fit x i → R (.d (.int ((i : Int) + 1))) hp := by
      intro z
      have e : i = k := by
        by_cases h1 : i < k
        · exact absurd z (hx.2 i h1)
        · by_cases h2 : k < i
          · exact absurd hx.1 (hj k h2)
          · omega
      subst e
      exact h
    have st : ¬ Fit x i → N ⟨hp, [some (.d (.int x)), some (.d (.int (hf i * 256))), some (.d (.int i))], hp.length⟩ := fun z =>
      hN _ _ ⟨rfl, fun j h1 => by
        by_cases h2 : j < i
        · exact hj j h2
        · have : j = i := by omega
          subst this; exact z, _, by rw [hf_succ]⟩
    simp
    refine brH_of (fun hz => ?_) (fun hz => ?_)
    · simp at hz
      simp
      refine brH_of (fun hz2 => ?_) (fun hz2 => ?_)
      · simp at hz2
        simp
        exact fin ⟨by omega, hz2⟩
      · simp at hz2
        simp
        exact st fun z => by have := z.2; omega
    · simp at hz
      simp
      exact st fun z => by have := z.1; omega
  · rintro _ _ ⟨rfl, hj, y, rfl⟩
    have e : k = 15 := by
      by_cases h2 : k < 15
      · exact absurd hx.1 (hj k h2)
      · omega
    subst e
    simpa using h
theorem walkO_items {hp : List O} {s : S} {d : D} {ds : List D} (h : val hp s = some d) (hi : items d = some ds) : ∃ v, walkO hp s = some (v, ds) ∧ still v ds hp ∧ ∀ m, v = some m → m < hp.length := by
  cases s with
  | d x => cases h; exact ⟨none, by rw [walkO_d, hi]; rfl, trivial, fun _ z => by cases z⟩
  | mu m =>
    have h2 := h
    rw [val_O] at h2
    cases g : hp[m]? with
    | none => rw [g] at h2; cases h2
    | some o =>
      rw [g] at h2
      cases o with
      | lst es => cases h2; cases hi; exact walkO_of h
      | _ => cases h2
def isI : D → Bool
  | .int _ => true
  | _ => false
def okD : D → Bool
  | .int i => decide (0 ≤ i) && decide (i ≤ 255)
  | _ => false
def noTy : D → Bool
  | .ty _ => false
  | _ => true
def rowD (d : D) : Bool := match items d with
  | some ds => ds.all okD
  | none => false
theorem sp_is_integer {s : S} {d : D} {tg : Tg (m_is_integer, R, Xp)} (hv : val hp s = some d) (hd : noTy d = true) (h : R (.d (.bl (isI d))) hp) : mfH m_is_integer hp [s] R Xp tg := by
  refine mfH_of ?_
  unfold m_is_integer
  cases d <;> first | (simp [hv]; exact h) | cases hd
theorem sp_is_octet_row {s : S} {d : D} {tg : Tg (m_is_octet_row, R, Xp)} (hv : val hp s = some d) (hd : noTy d = true) (hi : ∀ ds, items d = some ds → ds.all noTy = true ∧ ds.length ≤ 1000) (h : R (.d (.bl (rowD d))) hp) : mfH m_is_octet_row hp [s] R Xp tg := by
  have go : ∀ ds, items d = some ds → rowD d = ds.all okD := fun ds e => by unfold rowD; rw [e]
  have body : ∀ ds v, items d = some ds → still v ds hp → ∀ R' : List D → List O → Prop, R' (ds.map fun d => .bl (okD d)) hp → ∀ t, compH v ds (mgName 1) mYes (mAndV (mCall 1 m_is_integer [] (mCons (mVar 1) mNil)) (mChain (fI0 fun i j => .bl (decide (i ≤ j))) (fI0 fun i j => .bl (decide (i ≤ j))) (mC (.int 0)) (mVar 1) (mC (.int 255)))) [some s, none] hp R' t := by
    intro ds v e hst R' hR t
    refine compH_map (fun d => .bl (okD d)) hst (by have := (hi ds e).2; simp; omega) (fun x hx N hN => ?_) hR
    have hx2 := List.all_eq_true.mp (hi ds e).1 x hx
    simp
    refine sp_is_integer rfl hx2 ?_
    cases x with
    | int i =>
      simp [isI]
      refine brH_of (fun hz => ?_) (fun hz => ?_)
      · simp at hz
        simp
        have e1 : okD (.int i) = decide (i ≤ 255) := by simp [okD, hz]
        rw [e1] at hN
        exact hN
      · simp at hz
        simp
        have e1 : okD (.int i) = false := by simp [okD]; omega
        rw [e1] at hN
        exact hN
    | ty _ => cases hx2
    | _ => simp [isI]; exact hN
  have fin : ∀ ds, items d = some ds → R (.d (.bl ((ds.map okD).all id))) hp := fun ds e => by
    rw [go ds e] at h
    rw [List.all_map]
    exact h
  refine mfH_of ?_
  unfold m_is_octet_row
  have wk : ∀ ds, items d = some ds → ∃ v, walkO hp s = some (v, ds) ∧ still v ds hp ∧ ∀ m, v = some m → m < hp.length := fun ds e => walkO_items hv e
  have bl : ∀ ds : List D, blsD (ds.map fun d => .bl (okD d)) = some (ds.map okD) := fun ds => by
    have e : (ds.map fun d => D.bl (okD d)) = bL (ds.map okD) := by simp [bL]
    rw [e, blsD_bL]
  cases d with
  | lst ds =>
    obtain ⟨v, hw, hst, _⟩ := wk ds rfl
    simp [hv, hw]
    refine body ds v rfl hst _ ?_ _
    simp [bl]
    have := fin ds rfl
    simpa using this
  | tup ds =>
    obtain ⟨v, hw, hst, _⟩ := wk ds rfl
    simp [hv, hw]
    refine body ds v rfl hst _ ?_ _
    simp [bl]
    have := fin ds rfl
    simpa using this
  | fl ds =>
    obtain ⟨v, hw, hst, _⟩ := wk ds rfl
    simp [hv, hw]
    refine body ds v rfl hst _ ?_ _
    simp [bl]
    have := fin ds rfl
    simpa using this
  | ty _ => cases hd
  | _ => simp [hv]; exact h
theorem atI_get {xs : List Int} {i : Int} (h0 : 0 ≤ i) (h1 : i < xs.length) : atI xs i = xs[i.toNat]? := by
  unfold atI ixN
  rw [if_pos h0, if_pos h1]
  rfl
theorem sp_is_least_no {s : S} {d : D} {tg : Tg (m_is_least, R, Xp)} (hv : val hp s = some d) (hd : noTy d = true) (hi : ∀ ds, items d = some ds → ds.all noTy = true ∧ ds.length ≤ 1000) (hn : rowD d = false) (h : R (.d (.bl false)) hp) : mfH m_is_least hp [s] R Xp tg := by
  refine mfH_of ?_
  unfold m_is_least
  simp
  refine sp_is_octet_row hv hd hi ?_
  rw [hn]
  simpa using h
def at0 (g : List Int) (k : Nat) : Int := (g[k]?).getD 0
def leastL (g : List Int) : Bool := decide (1 ≤ g.length) && (decide (g.length ≤ 16) && (decide (g.length = 1) || (if at0 g 0 = 0 then decide (128 ≤ at0 g 1) else if at0 g 0 = 255 then decide (at0 g 1 < 128) else true)))
theorem ok_ints {g : List Int} (hb : Bd 0 255 g) : (iL g).all okD = true := by
  refine List.all_eq_true.mpr fun d hd => ?_
  obtain ⟨x, hx, rfl⟩ := List.mem_map.mp hd
  have := hb x hx
  simp [okD, this.1, this.2]
theorem ty_ints (g : List Int) : (iL g).all noTy = true := by
  refine List.all_eq_true.mpr fun d hd => ?_
  obtain ⟨x, hx, rfl⟩ := List.mem_map.mp hd
  rfl
theorem sp_is_least {s : S} {d : D} {g : List Int} {tg : Tg (m_is_least, R, Xp)} (hv : val hp s = some d) (hdd : d = .lst (iL g) ∨ d = .tup (iL g)) (hb : Bd 0 255 g) (hl : g.length ≤ 1000) (h : R (.d (.bl (leastL g))) hp) : mfH m_is_least hp [s] R Xp tg := by
  have hi : items d = some (iL g) := by rcases hdd with rfl | rfl <;> rfl
  have hr : rowD d = true := by unfold rowD; rw [hi]; exact ok_ints hb
  have a0 : ∀ k : Nat, k < g.length → atI g (k : Int) = some (at0 g k) := fun k hk => by
    rw [atI_get (by omega) (by omega)]
    simp [at0, hk]
  refine mfH_of ?_
  unfold m_is_least
  simp
  refine sp_is_octet_row hv (by rcases hdd with rfl | rfl <;> rfl) (fun ds e => by rw [hi] at e; cases e; exact ⟨ty_ints g, by simpa using hl⟩) ?_
  rw [hr]
  rcases hdd with rfl | rfl <;>
  · simp [hv]
    refine brH_of (fun hz => ?_) (fun hz => ?_)
    · simp at hz
      simp
      refine brH_of (fun hz2 => ?_) (fun hz2 => ?_)
      · simp at hz2
        simp
        have e : leastL g = false := by simp [leastL]; omega
        rw [e] at h
        exact h
      simp at hz2
      simp [hv]
      refine brH_of (fun hz3 => ?_) (fun hz3 => ?_)
      · simp at hz3
        simp
        have e : leastL g = true := by simp [leastL]; omega
        rw [e] at h
        exact h
      simp at hz3
      have q1 : decide (1 ≤ g.length) = true := by simp; omega
      have q2 : decide (g.length ≤ 16) = true := by simp; omega
      have q3 : decide (g.length = 1) = false := by simp; omega
      have b0 := a0 0 (by omega)
      have b1 := a0 1 (by omega)
      simp at b0 b1
      simp [hv, b0]
      refine brH_of (fun hz4 => ?_) (fun hz4 => ?_)
      · simp at hz4
        simp [hv, b1]
        have e : leastL g = decide (128 ≤ at0 g 1) := by unfold leastL; rw [q1, q2, q3]; simp [hz4]
        rw [e] at h
        exact h
      simp at hz4
      simp [hv, b0]
      refine brH_of (fun hz5 => ?_) (fun hz5 => ?_)
      · simp at hz5
        simp [hv, b1]
        have e : leastL g = decide (at0 g 1 < 128) := by unfold leastL; rw [q1, q2, q3]; simp [hz5]
        rw [e] at h
        exact h
      simp at hz5
      simp
      have e : leastL g = true := by unfold leastL; rw [q1, q2, q3]; simp [hz4, hz5]
      rw [e] at h
      exact h
    · simp at hz
      simp
      have e : leastL g = false := by unfold leastL; rw [decide_eq_false (show ¬ 1 ≤ g.length by omega)]; rfl
      rw [e] at h
      exact h
theorem eq_int {k : Nat} {i : Int} {tg : Tg (m__law_equal (k + 1), R, Xp)} (h : R (.d (.bl true)) hp) : mfH (m__law_equal (k + 1)) hp [.d (.int i), .d (.int i)] R Xp tg := by
  refine mfH_of ?_
  show b__law_equal (m__law_equal k) hp _ R Xp
  unfold b__law_equal
  simp [isNon]
  exact h
theorem eq_bl {k : Nat} {i : Bool} {tg : Tg (m__law_equal (k + 1), R, Xp)} (h : R (.d (.bl true)) hp) : mfH (m__law_equal (k + 1)) hp [.d (.bl i), .d (.bl i)] R Xp tg := by
  refine mfH_of ?_
  show b__law_equal (m__law_equal k) hp _ R Xp
  unfold b__law_equal
  simp [isNon]
  exact h
theorem eq_ints {k : Nat} {s t : S} {g : List Int} {tg : Tg (m__law_equal (k + 2), R, Xp)} (hv : val hp s = some (.lst (iL g))) (hw : val hp t = some (.lst (iL g))) (hl : g.length ≤ 1000000) (h : R (.d (.bl true)) hp) : mfH (m__law_equal (k + 2)) hp [s, t] R Xp tg := by
  have hr1 : (-4611686018427387904 : Int) ≤ g.length := by omega
  have hr2 : (g.length : Int) < 4611686018427387904 := by omega
  refine mfH_of ?_
  show b__law_equal (m__law_equal (k + 1)) hp _ R Xp
  unfold b__law_equal
  simp [hv, hw, hr1, hr2]
  refine forH_rng (fun i hp' env' => hp = hp' ∧ ∃ y, env' = [some s, some t, y]) ⟨rfl, _, rfl⟩ ?_ ?_
  · rintro i _ _ N hi ⟨rfl, y, rfl⟩ hN
    have a1 : atI g (i : Int) = some g[i] := by rw [atI_nat (by omega) (by omega)]; simp
    simp [hv, hw, a1]
    refine eq_int ?_
    simp
    exact hN _ _ ⟨rfl, _, rfl⟩
  · rintro _ _ ⟨rfl, y, rfl⟩
    simpa using h
end
end Qk03

set_option Elab.async false
set_option linter.all false
set_option maxRecDepth 100000
set_option maxHeartbeats 400000
namespace Qk03
open PySem PySem.Spec PyProof.Rows L2 Mp Pl
section
variable {hp : List O} {n : Nat} {o : O} {R : S → List O → Prop} {Xp : MX}
theorem p256 (k : Nat) : (2 : Int) ^ (8 * k) = 256 ^ k := by rw [Int.pow_mul]; rfl
/-- w wholes and a part, between bounds -/
theorem part_lt {w q t b : Int} (hq : 0 < q) (h0 : 0 ≤ t) (h1 : t < q) : w * q + t < b * q ↔ w < b := by
  constructor
  · intro h
    by_cases z : w < b
    · exact z
    · have := Int.mul_le_mul_of_nonneg_right (show b ≤ w by omega) (Int.le_of_lt hq)
      omega
  · intro h
    have := Int.mul_le_mul_of_nonneg_right (show w + 1 ≤ b by omega) (Int.le_of_lt hq)
    rw [Int.add_mul, Int.one_mul] at this
    omega
theorem part_ge {w q t b : Int} (hq : 0 < q) (h0 : 0 ≤ t) (h1 : t < q) : b * q ≤ w * q + t ↔ b ≤ w := by
  have := part_lt (w := w) (b := b) hq h0 h1
  constructor <;> intro h <;> omega
theorem sg_rw {x : Int} {k : Nat} (h : Fit x k) : sg (rw8 (k + 1) x) = x := by
  have hq : (0 : Int) < 256 ^ k := Int.pow_pos (by omega)
  have hh : (rw8 (k + 1) x).head?.getD 0 = x / 256 ^ k % 256 := by
    have := rw8_get (k + 1) x 0 (by omega)
    rw [← List.head?_eq_getElem?] at this
    rw [this]
    simp
  have e0 := Int.emod_add_mul_ediv x (256 ^ k)
  have e1 : 256 ^ k * (x / 256 ^ k) + x % 256 ^ k = x := by omega
  have t0 := Int.emod_nonneg x (show (256 : Int) ^ k ≠ 0 by omega)
  have t1 := Int.emod_lt_of_pos x hq
  have f1 := h.1
  have f2 := h.2
  unfold hf at f1 f2
  unfold sg
  rw [hh, n256_rw, rw8_len, p256]
  have e2 : (256 : Int) ^ (k + 1) = 256 ^ k * 256 := Int.pow_succ ..
  generalize hqq : (256 : Int) ^ k = q at *
  generalize hw : x / q = w at *
  generalize ht : x % q = t at *
  rw [Int.mul_comm] at e1
  have g1 : -128 ≤ w := (part_ge hq t0 t1).mp (by rw [e1]; omega)
  have g2 : w < 128 := (part_lt hq t0 t1).mp (by rw [e1]; omega)
  rw [e2]
  by_cases hs : 0 ≤ w
  · rw [if_neg (by omega)]
    have hx0 : 0 ≤ x := by have := Int.mul_nonneg hs (Int.le_of_lt hq); omega
    rw [Int.emod_eq_of_lt hx0 (by omega)]
    omega
  · rw [if_pos (by omega)]
    have hx0 : x < 0 := by
      have := Int.mul_le_mul_of_nonneg_right (show w ≤ -1 by omega) (Int.le_of_lt hq)
      omega
    rw [← Int.add_emod_right, Int.emod_eq_of_lt (by omega) (by omega)]
    omega
theorem sp_row_of_number {x : Int} {k : Nat} {tg : Tg (m__law_row_of_number, R, Xp)} (hk : k ≤ 15) (hx : Cn x k) (h : R (.d (.bl true)) hp) : mfH m__law_row_of_number hp [.d (.int x)] R Xp tg := by
  have hlen := rw8_len (k + 1) x
  have hsg := sg_rw hx.1
  refine mfH_of ?_
  unfold m__law_row_of_number
  simp
  refine sp_signed hk hx ?_
  simp
  refine s_is_row (xs := rw8 (k + 1) x) (by simp) (rw8_bd _ _) ?_
  simp
  refine sp_due hk hx ?_
  simp [hlen]
  refine sp_unsigned (g := rw8 (k + 1) x) (by simp) (by omega) (by omega) ?_
  rw [hsg]
  have a1 : ∃ y, atI (rw8 (k + 1) x) 0 = some y := ⟨_, atI_nat (by omega) (by omega)⟩
  obtain ⟨y, a1⟩ := a1
  have l1 : (rw8 (k + 1) x).length < 16777216 := by omega
  simp [a1, ixN_nat (show (0 : Int) ≤ 0 by omega) (show (0 : Int) < ((rw8 (k + 1) x).length : Nat) by omega), l1]
  refine sp_signed hk hx ?_
  simp
  refine eq_ints (k := 1) (g := rw8 (k + 1) x) rfl rfl (by omega) ?_
  simp
  exact h
theorem sp_signed_number {s : S} {g : List Int} {tg : Tg (m_signed_number, R, Xp)} (hv : val hp s = some (.lst (iL g))) (h0 : 0 < g.length) (hl : g.length ≤ 100) (h : R (.d (.int (sg g))) hp) : mfH m_signed_number hp [s] R Xp tg := by
  obtain ⟨v, hw, hst, hvl⟩ := walkO_of hv
  have hh : atI g 0 = some (g.head?.getD 0) := by
    cases g with
    | nil => simp at h0
    | cons a g =>
      rw [atI_nat (by omega) (by simp)]
      rfl
  refine mfH_of ?_
  unfold m_signed_number
  simp [hw]
  refine ⟨hvl, ?_⟩
  refine forH_ints (fun l r hp' env' => hp = hp' ∧ ∃ y, env' = [some s, some (.d (.int (n256 l))), y]) ⟨rfl, _, rfl⟩ ?_ ?_
  · rintro l x r _ _ N e ⟨rfl, y, rfl⟩ hN
    simp
    exact hN _ _ hst ⟨rfl, _, by rw [n256_app]⟩
  · rintro _ _ ⟨rfl, y, rfl⟩
    simp [hv, hh]
    refine brH_of (fun hz => ?_) (fun hz => ?_)
    · simp at hz
      have e3 : (8 * (g.length : Int)).toNat = 8 * g.length := by omega
      have hcp : CPow 1 (8 * (g.length : Int)) := ⟨by omega, by omega, by omega⟩
      simp [hv, hcp, e3]
      have e : sg g = n256 g - 2 ^ (8 * g.length) := by unfold sg; rw [if_pos (by omega)]
      rw [← e]
      exact h
    · simp at hz
      simp
      have e : sg g = n256 g := by unfold sg; rw [if_neg (by omega)]; simp
      rw [← e]
      exact h
theorem n256_cons : ∀ (g : List Int) (a : Int), n256 (a :: g) = a * 256 ^ g.length + n256 g := by
  have gen : ∀ (g : List Int) (a c : Int), g.foldl (fun a b => a * 256 + b) (a + c) = a * 256 ^ g.length + g.foldl (fun a b => a * 256 + b) c := by
    intro g
    induction g with
    | nil => intro a c; simp
    | cons b g ih =>
      intro a c
      rw [List.foldl_cons, List.foldl_cons, List.length_cons, Int.pow_succ, show (a + c) * 256 + b = a * 256 + (c * 256 + b) by omega, ih, Int.mul_assoc, Int.mul_comm 256]
  intro g a
  show (a :: g).foldl _ 0 = _
  rw [List.foldl_cons, show (0 : Int) * 256 + a = a + 0 by omega, gen]
  rfl
theorem n256_bd : ∀ g : List Int, Bd 0 255 g → 0 ≤ n256 g ∧ n256 g < 256 ^ g.length
  | [], _ => by simp [n256]
  | a :: g, hb => by
    have h1 := n256_bd g fun x hx => hb x (List.mem_cons_of_mem _ hx)
    have h2 := hb a List.mem_cons_self
    have hq : (0 : Int) < 256 ^ g.length := Int.pow_pos (by omega)
    rw [n256_cons, List.length_cons, Int.pow_succ]
    generalize (256 : Int) ^ g.length = q at *
    have g1 := Int.mul_nonneg h2.1 (Int.le_of_lt hq)
    have g2 := (part_lt (w := a) (b := 256) hq h1.1 h1.2).mpr (by omega)
    rw [Int.mul_comm 256 q] at g2
    omega
/-- the worth of a row of two octets or more fits in one octet fewer just if it is not least -/
theorem fit_less {a b : Int} {r : List Int} (hb : Bd 0 255 (a :: b :: r)) : Fit (sg (a :: b :: r)) r.length ↔ (a = 0 ∧ b < 128) ∨ (a = 255 ∧ 128 ≤ b) := by
  have ha := hb a (by simp)
  have hb2 := hb b (by simp)
  have ht := n256_bd r fun x hx => hb x (by simp [hx])
  have hq : (0 : Int) < 256 ^ r.length := Int.pow_pos (by omega)
  have e : sg (a :: b :: r) = (256 * a + b - if 127 < a then 65536 else 0) * 256 ^ r.length + n256 r := by
    unfold sg
    rw [n256_cons, n256_cons, p256]
    simp only [List.head?_cons, Option.getD_some, List.length_cons, Int.pow_succ]
    generalize (256 : Int) ^ r.length = q
    split
    · rw [Int.sub_mul, Int.add_mul, Int.mul_comm a (q * 256), Int.mul_comm 256 a, Int.mul_assoc a 256 q, Int.mul_comm a (256 * q)]
      have e1 : q * 256 * a = 256 * q * a := by rw [Int.mul_comm q 256]
      omega
    · rw [Int.sub_zero, Int.sub_zero, Int.add_mul, Int.mul_comm a (q * 256), Int.mul_comm 256 a, Int.mul_assoc a 256 q, Int.mul_comm a (256 * q)]
      have e1 : q * 256 * a = 256 * q * a := by rw [Int.mul_comm q 256]
      omega
  unfold Fit hf
  rw [e]
  generalize hw : (256 * a + b - if 127 < a then 65536 else 0) = w
  generalize (256 : Int) ^ r.length = q at *
  have p1 := part_ge (w := w) (b := -128) hq ht.1 ht.2
  have p2 := part_lt (w := w) (b := 128) hq ht.1 ht.2
  rw [show -(128 * q) = -128 * q by omega]
  constructor
  · rintro ⟨h1, h2⟩
    have := p1.mp h1
    have := p2.mp h2
    split at hw <;> omega
  · intro h
    have : -128 ≤ w ∧ w < 128 := by split at hw <;> omega
    exact ⟨p1.mpr this.1, p2.mpr this.2⟩
theorem hf_mono (j : Nat) : ∀ d : Nat, hf j ≤ hf (j + d)
  | 0 => Int.le_refl _
  | d + 1 => by
    have ihd := hf_mono j d
    rw [← Nat.add_assoc, ← hf_succ]
    have : 0 < hf (j + d) := by unfold hf; exact Int.mul_pos (by omega) (Int.pow_pos (by omega))
    omega
theorem fit_mono {x : Int} {j m : Nat} (h : Fit x j) (hj : j ≤ m) : Fit x m := by
  have := hf_mono j (m - j)
  rw [show j + (m - j) = m by omega] at this
  exact ⟨by have := h.1; omega, by have := h.2; omega⟩
theorem fit_all {a : Int} {r : List Int} (hb : Bd 0 255 (a :: r)) : Fit (sg (a :: r)) r.length := by
  have ha := hb a (by simp)
  have ht := n256_bd r fun x hx => hb x (by simp [hx])
  have hq : (0 : Int) < 256 ^ r.length := Int.pow_pos (by omega)
  have e : sg (a :: r) = (a - if 127 < a then 256 else 0) * 256 ^ r.length + n256 r := by
    unfold sg
    rw [n256_cons, p256]
    simp only [List.head?_cons, Option.getD_some, List.length_cons, Int.pow_succ]
    generalize (256 : Int) ^ r.length = q
    split
    · rw [Int.sub_mul, Int.mul_comm q 256]
      omega
    · rw [Int.sub_zero, Int.sub_zero]
  unfold Fit hf
  rw [e]
  generalize hw : (a - if 127 < a then 256 else 0) = w
  generalize (256 : Int) ^ r.length = q at *
  have p1 := part_ge (w := w) (b := -128) hq ht.1 ht.2
  have p2 := part_lt (w := w) (b := 128) hq ht.1 ht.2
  rw [show -(128 * q) = -128 * q by omega]
  have : -128 ≤ w ∧ w < 128 := by split at hw <;> omega
  exact ⟨p1.mpr this.1, p2.mpr this.2⟩
theorem least_iff {g : List Int} {k : Nat} (hb : Bd 0 255 g) (h1 : 1 ≤ g.length) (h2 : g.length ≤ 16) (hx : Cn (sg g) k) : leastL g = decide (g.length = k + 1) := by
  have q1 : decide (1 ≤ g.length) = true := by simp; omega
  have q2 : decide (g.length ≤ 16) = true := by simp; omega
  unfold leastL
  rw [q1, q2]
  match g, hb, h1, hx with
  | [a], hb, _, hx =>
    have hf0 : Fit (sg [a]) 0 := fit_all hb
    have : k = 0 := by
      by_cases z : 0 < k
      · exact absurd hf0 (hx.2 0 z)
      · omega
    subst this
    simp
  | a :: b :: r, hb, _, hx =>
    have hA : Fit (sg (a :: b :: r)) (r.length + 1) := fit_all hb
    have hle : k ≤ r.length + 1 := by
      by_cases z : r.length + 1 < k
      · exact absurd hA (hx.2 _ z)
      · omega
    have hL := fit_less hb
    have hk : k = r.length + 1 ↔ ¬ Fit (sg (a :: b :: r)) r.length := by
      constructor
      · intro e
        exact hx.2 _ (by omega)
      · intro hn
        by_cases z : k ≤ r.length
        · exact absurd (fit_mono hx.1 z) hn
        · omega
    have ha := hb a (by simp)
    have hb2 := hb b (by simp)
    rw [show at0 (a :: b :: r) 0 = a from rfl, show at0 (a :: b :: r) 1 = b from rfl]
    simp only [List.length_cons]
    rw [decide_eq_false (show ¬ r.length + 1 + 1 = 1 by omega)]
    simp only [Bool.true_and, Bool.false_or]
    by_cases c0 : a = 0
    · rw [if_pos c0]
      by_cases c1 : 128 ≤ b
      · rw [decide_eq_true c1, decide_eq_true]
        have := hk.mpr fun z => by have := hL.mp z; omega
        omega
      · rw [decide_eq_false c1, decide_eq_false]
        have := hL.mpr (.inl ⟨c0, by omega⟩)
        intro e
        exact hk.mp (by omega) this
    · rw [if_neg c0]
      by_cases c5 : a = 255
      · rw [if_pos c5]
        by_cases c1 : b < 128
        · rw [decide_eq_true c1, decide_eq_true]
          have := hk.mpr fun z => by have := hL.mp z; omega
          omega
        · rw [decide_eq_false c1, decide_eq_false]
          have := hL.mpr (.inr ⟨c5, by omega⟩)
          intro e
          exact hk.mp (by omega) this
      · rw [if_neg c5, eq_comm, decide_eq_true]
        have := hk.mpr fun z => by have := hL.mp z; omega
        omega
theorem sp_means {a k : Nat} {g : List Int} {x : Int} {tg : Tg (m__law_means, R, Xp)} (ha : hp[a]? = some (.lst (iL g))) (hb : Bd 0 255 g) (h1 : 1 ≤ g.length) (h2 : g.length ≤ 16) (he : sg g = x) (hk : k ≤ 15) (hx : Cn x k) (h : ∀ g', R (.d (.bl true)) (hp.set a (.lst (iL g')))) : mfH m__law_means hp [.mu a, .d (.int x)] R Xp tg := by
  have hll := least_iff hb h1 h2 (by rw [he]; exact hx)
  obtain ⟨y, a1, y0, y1⟩ := hb.ix (i := 0) (by omega) (by omega)
  have hS := set_at ha
  have hix : ixN g.length 0 = some 0 := ixN_nat (by omega) (by omega)
  refine mfH_of ?_
  unfold m__law_means
  simp [ha]
  refine sp_signed_number (g := g) (by simp [ha]) (by omega) (by omega) ?_
  rw [he]
  simp
  refine Pl.s_is_integer ?_
  simp
  refine eq_ints (k := 1) (g := g) (by simp [ha]) rfl (by omega) ?_
  simp [ha]
  refine sp_due hk hx ?_
  simp
  refine sp_is_least (d := .lst (iL g)) (g := g) (by simp [ha]) (.inl rfl) hb (by omega) ?_
  have hd : (decide ((g.length : Int) = (k : Int) + 1)) = decide (g.length = k + 1) := by
    by_cases z : g.length = k + 1
    · rw [decide_eq_true z, decide_eq_true]; omega
    · rw [decide_eq_false z, decide_eq_false]; omega
  rw [hll]
  simp [hd]
  refine eq_bl (k := 2) ?_
  simp
  refine sp_is_least (d := .tup (iL g)) (g := g) rfl (.inr rfl) hb (by omega) ?_
  rw [hll]
  simp [hd]
  refine eq_bl (k := 2) ?_
  simp
  refine eq_ints (k := 1) (g := g) (by simp [ha]) rfl (by omega) ?_
  simp [ha, a1, hix]
  refine sp_signed_number (g := g.set 0 (255 - y)) (by simp [hS]) (by simp; omega) (by simp; omega) ?_
  simp
  refine sp_unsigned (g := g.set 0 (255 - y)) (by simp [hS]) (by simp; omega) (by simp; omega) ?_
  simp
  refine sp_signed_number (g := g) rfl (by omega) (by omega) ?_
  rw [he]
  simp
  refine Pl.s_is_integer ?_
  simp
  exact h _
end
end Qk03

set_option Elab.async false
set_option linter.all false
set_option maxRecDepth 100000
set_option maxHeartbeats 400000
namespace Qk03
open PySem PySem.Spec PyProof.Rows L2 Mp Pl
section
variable {hp : List O} {n : Nat} {o : O} {R : S → List O → Prop} {Xp : MX}
theorem sp_pickI {xs : List Int} {lo hi : Int} {tg : Tg (m__law_pick, R, Xp)} (ho : hp[n]? = some o) (hs : St o) (h0 : 0 < xs.length) (h1 : xs.length < 2 ^ 60) (hb : Bd lo hi xs) (h : ∀ (x : Int) o', St o' → lo ≤ x → x ≤ hi → R (.d (.int x)) (hp.set n o')) : mfH m__law_pick hp [.mu n, .d (.lst (iL xs))] R Xp tg := by
  refine s_pick ho hs (by simpa using h0) (by simpa using h1) fun i hi' o' hs' => ?_
  have hx : i < xs.length := by simpa using hi'
  have e : (iL xs)[i] = .int xs[i] := by simp [iL]
  rw [e]
  have := hb _ (List.getElem_mem hx)
  exact h _ _ hs' this.1 this.2
theorem sp_pickZ {xs : List Int} {tg : Tg (m__law_pick, R, Xp)} (ho : hp[n]? = some o) (hs : St o) (h0 : 0 < xs.length) (h1 : xs.length < 2 ^ 60) (h : ∀ (x : Int) o', St o' → R (.d (.int x)) (hp.set n o')) : mfH m__law_pick hp [.mu n, .d (.lst (iL xs))] R Xp tg := by
  refine s_pick ho hs (by simpa using h0) (by simpa using h1) fun i hi' o' hs' => ?_
  have hx : i < xs.length := by simpa using hi'
  have e : (iL xs)[i] = .int xs[i] := by simp [iL]
  rw [e]
  exact h _ _ hs'
def LO : Int := -170141183460469231731687303715884105728
def HI : Int := 170141183460469231731687303715884105727
theorem sp_clamp {x lo hi : Int} {tg : Tg (m__law_clamp, R, Xp)} (h : R (.d (.int (if (if x < hi then x else hi) > lo then (if x < hi then x else hi) else lo))) hp) : mfH m__law_clamp hp [.d (.int x), .d (.int lo), .d (.int hi)] R Xp tg := by
  refine mfH_of ?_
  unfold m__law_clamp
  simp
  exact h
theorem sp_lowest {tg : Tg (m__law_lowest, R, Xp)} (h : R (.d (.int LO)) hp) : mfH m__law_lowest hp [] R Xp tg := by
  refine mfH_of ?_
  unfold m__law_lowest
  simp
  exact h
theorem sp_highest {tg : Tg (m__law_highest, R, Xp)} (h : R (.d (.int HI)) hp) : mfH m__law_highest hp [] R Xp tg := by
  refine mfH_of ?_
  unfold m__law_highest
  simp
  exact h
theorem sp_figure {tg : Tg (m__law_figure, R, Xp)} (ho : hp[n]? = some o) (hs : St o) (h : ∀ (x : Int) o', St o' → LO ≤ x → x ≤ HI → R (.d (.int x)) (hp.set n o')) : mfH m__law_figure hp [.mu n] R Xp tg := by
  have hg := set_at ho
  refine mfH_of ?_
  unfold m__law_figure
  simp
  refine s_take ho hs (by omega) fun r o1 h1 r0 r1 _ => ?_
  simp
  refine brH_of (fun hz => ?_) (fun hz => ?_)
  · simp
    refine sp_pickI (xs := [0, 1, -1, 127, 128, -128, -129, 255, 256, 32767, 32768, -32768, -32769]) (lo := -32769) (hi := 32768) (hg _) h1 (by simp) (by simp) (fun x hx => by simp at hx; omega) fun x o2 h2 x0 x1 => ?_
    simp
    exact h _ _ h2 (by unfold LO; omega) (by unfold HI; omega)
  simp
  refine brH_of (fun hz => ?_) (fun hz => ?_)
  · simp
    refine s_take (hg _) h1 (by omega) fun t o2 h2 t0 t1 _ => ?_
    simp
    rw [show 8 * t + 7 = ((8 * t.toNat + 7 : Nat) : Int) by omega]
    refine sp_power (by omega) ?_
    generalize (2 : Int) ^ (8 * t.toNat + 7) = q
    simp
    refine sp_pickZ (xs := [q - 1, q, -q, -q - 1, q + 1, 1 - q]) (hg _) h2 (by simp) (by simp) fun x o3 h3 => ?_
    simp
    refine sp_lowest ?_
    simp
    refine sp_highest ?_
    simp
    refine sp_clamp ?_
    simp
    refine h _ _ h3 ?_ ?_
    · have e1 : LO < HI := by decide
      by_cases a1 : x < HI
      · simp only [a1, if_true]; split <;> omega
      · simp only [a1, if_false]; split <;> omega
    · have e1 : LO < HI := by decide
      by_cases a1 : x < HI
      · simp only [a1, if_true]; split <;> omega
      · simp only [a1, if_false]; split <;> omega
  simp
  refine brH_of (fun hz => ?_) (fun hz => ?_)
  · simp
    refine sp_lowest ?_
    simp
    refine ⟨.inr (by unfold CMulW; decide +kernel), ?_⟩
    refine s_take (hg _) h1 (by omega) fun t o2 h2 t0 t1 _ => ?_
    simp
    exact h _ _ h2 (by unfold LO; omega) (by unfold LO HI; have := t1 (by omega); omega)
  simp
  refine s_take (hg _) h1 (by omega) fun t o2 h2 t0 t1 _ => ?_
  simp
  exact h _ _ h2 (by unfold LO; omega) (by unfold HI; have := t1 (by omega); omega)
end
end Qk03

set_option Elab.async false
set_option linter.all false
set_option maxRecDepth 100000
set_option maxHeartbeats 400000
namespace Qk03
open PySem PySem.Spec PyProof.Rows L2 Mp Pl
section
variable {hp : List O} {n : Nat} {o : O} {R : S → List O → Prop} {Xp : MX}
/-- a thing that is_least answers False -/
def Bad (d : D) : Prop := noTy d = true ∧ (∀ ds, items d = some ds → ds.all noTy = true ∧ ds.length ≤ 1000) ∧ (rowD d = false ∨ ∃ g : List Int, (d = .lst (iL g) ∨ d = .tup (iL g)) ∧ Bd 0 255 g ∧ leastL g = false)
theorem sp_bad {s : S} {d : D} {tg : Tg (m_is_least, R, Xp)} (hv : val hp s = some d) (hd : Bad d) (h : R (.d (.bl false)) hp) : mfH m_is_least hp [s] R Xp tg := by
  obtain ⟨h1, h2, h3⟩ := hd
  rcases h3 with h3 | ⟨g, e, hb, hl⟩
  · exact sp_is_least_no hv h1 h2 h3 h
  · refine sp_is_least hv e hb ?_ (by rw [hl]; exact h)
    have hi : items d = some (iL g) := by rcases e with rfl | rfl <;> rfl
    have := (h2 _ hi).2
    simpa using this
/-- of items that are no classes, one of which is no octet -/
theorem bad_of {d : D} {ds : List D} (hi : items d = some ds) (h1 : noTy d = true) (ht : ds.all noTy = true) (hl : ds.length ≤ 1000) (hn : ds.all okD = false) : Bad d := by
  refine ⟨h1, fun es e => ?_, .inl ?_⟩
  · rw [hi] at e; cases e; exact ⟨ht, hl⟩
  · unfold rowD; rw [hi]; exact hn
theorem bad_row {d : D} {g : List Int} (e : d = .lst (iL g) ∨ d = .tup (iL g)) (hb : Bd 0 255 g) (hl : g.length ≤ 1000) (hn : g.length = 0 ∨ 16 < g.length) : Bad d := by
  refine ⟨by rcases e with rfl | rfl <;> rfl, fun es h => ?_, .inr ⟨g, e, hb, ?_⟩⟩
  · have hi : items d = some (iL g) := by rcases e with rfl | rfl <;> rfl
    rw [hi] at h; cases h; exact ⟨ty_ints g, by simpa using hl⟩
  · unfold leastL
    rcases hn with hn | hn
    · rw [decide_eq_false (show ¬ 1 ≤ g.length by omega)]; rfl
    · rw [decide_eq_false (show ¬ g.length ≤ 16 by omega)]; simp
theorem bad_no {d : D} (hi : items d = none) (h1 : noTy d = true) : Bad d := ⟨h1, fun es h => by (rw [hi] at h; cases h), .inl (by unfold rowD; rw [hi])⟩
theorem cut_ty (g : List Int) (a b : Option Int) : (cutD (iL g) a b).all noTy = true ∧ (cutD (iL g) a b).length ≤ g.length := by
  constructor
  · refine List.all_eq_true.mpr fun d hd => ?_
    exact List.all_eq_true.mp (ty_ints g) d (List.mem_of_mem_drop (List.mem_of_mem_take hd))
  · unfold Mp.cutD
    simp
    omega
theorem sp_no_octets {g : List Int} {tg : Tg (m__law_no_octets, R, Xp)} (ho : hp[n]? = some o) (hs : St o) (hb : Bd 0 255 g) (h1 : 1 ≤ g.length) (h2 : g.length ≤ 16) (h : ∀ (ts : List D) o', St o' → (∀ d ∈ ts, Bad d) → ts.length ≤ 1000 → R (.d (.lst ts)) (hp.set n o')) : mfH m__law_no_octets hp [.mu n, .d (.lst (iL g))] R Xp tg := by
  have hg := set_at ho
  refine mfH_of ?_
  unfold m__law_no_octets
  simp
  refine s_take ho hs (by omega) fun sp o1 hs1 r0 r1 _ => ?_
  simp
  refine s_pick (hg _) hs1 (by simp) (by simp) fun i hi o2 hs2 => ?_
  have hW : ∀ d ∈ [D.int 256, D.int (-1), D.int 1000, D.bl true, D.bl false, D.non, D.str (Str.ofString "a"), D.str (Str.ofString ""), D.lst [D.int 5], D.tup [D.int 5], D.int 18446744073709551616], noTy d = true ∧ okD d = false := by
    intro d hd
    simp at hd
    rcases hd with rfl | rfl | rfl | rfl | rfl | rfl | rfl | rfl | rfl | rfl | rfl <;> simp [noTy, okD]
  have hw := hW _ (List.getElem_mem hi)
  generalize [D.int 256, D.int (-1), D.int 1000, D.bl true, D.bl false, D.non, D.str (Str.ofString "a"), D.str (Str.ofString ""), D.lst [D.int 5], D.tup [D.int 5], D.int 18446744073709551616][i] = wr at *
  have cA := cut_ty g none (some sp)
  have cB := cut_ty g (some (sp + 1)) none
  generalize hA : cutD (iL g) none (some sp) = A at *
  generalize hB : cutD (iL g) (some (sp + 1)) none = B at *
  have z1 : A.length ≤ 16777215 := by omega
  have z2 : A.length + (B.length + 1) ≤ 16777216 := by omega
  have z3 : A.length + 1 + B.length ≤ 16777216 := by omega
  simp [hA, hB, z1, z2, z3]
  refine forH_rng (fun i hp' env' => ∃ o' dp y, St o' ∧ hp' = hp.set n o' ∧ env' = [some (.mu n), some (.d (.lst (iL g))), some (.d (.int sp)), some (.d wr), some (.d (.lst (A ++ wr :: B))), some (.d dp), y, none, none] ∧ noTy dp = true ∧ (1 ≤ i → okD dp = false) ∧ (2 ≤ i → ∃ e, items dp = some [e] ∧ noTy e = true ∧ okD e = false)) ⟨o2, _, _, hs2, rfl, rfl, rfl, fun z => by omega, fun z => by omega⟩ ?_ ?_
  · rintro i _ _ N hi' ⟨o3, dp, y, hs3, rfl, rfl, t1, t2, t3⟩ hN
    simp
    refine s_pick (hg _) hs3 (by simp) (by simp) fun j hj o4 hs4 => ?_
    simp at hj
    have : j = 0 ∨ j = 1 := by omega
    rcases this with rfl | rfl
    · simp
      exact hN _ _ ⟨o4, .lst [dp], _, hs4, rfl, rfl, rfl, fun _ => rfl, fun z => ⟨dp, rfl, t1, t2 (by omega)⟩⟩
    · simp
      exact hN _ _ ⟨o4, .tup [dp], _, hs4, rfl, rfl, rfl, fun _ => rfl, fun z => ⟨dp, rfl, t1, t2 (by omega)⟩⟩
  rintro _ _ ⟨o3, dp, y, hs3, rfl, rfl, t1, t2, t3⟩
  obtain ⟨e, i1, i2, i3⟩ := t3 (by omega)
  have t2 := t2 (by omega)
  simp
  refine s_octet (hg _) hs3 fun oc o4 hs4 c0 c1 => ?_
  have k1 : (-9223372036854775808 : Int) ≤ 17 - (g.length : Int) := by omega
  have k2 : (17 : Int) - (g.length : Int) < 9223372036854775808 := by omega
  have k3 : ((17 : Int) - (g.length : Int)).toNat = 17 - g.length := by omega
  have k4 : 17 - g.length ≤ 16777216 := by omega
  have k5 : g.length + (17 - g.length) ≤ 16777216 := by omega
  simp [k1, k2, k3, k4, k5]
  have tA : (A ++ wr :: B).all noTy = true := by simp only [List.all_append, List.all_cons, cA.1, cB.1, hw.1]; rfl
  have nA : (A ++ wr :: B).all okD = false := by simp only [List.all_append, List.all_cons, hw.2]; simp
  have lA : (A ++ wr :: B).length ≤ 1000 := by simp; omega
  have hR : Bd 0 255 (g ++ List.replicate (17 - g.length) oc) := fun x hx => by
    rcases List.mem_append.mp hx with hx | hx
    · exact hb x hx
    · have := List.eq_of_mem_replicate hx
      subst this
      exact ⟨c0, c1⟩
  have lR : (g ++ List.replicate (17 - g.length) oc).length = 17 := by simp; omega
  have hT : Bd 0 255 (127 :: List.replicate 300 0) := fun x hx => by
    rcases List.mem_cons.mp hx with hx | hx
    · omega
    · have := List.eq_of_mem_replicate hx
      omega
  refine h _ _ hs4 ?_ (by simp)
  simp only [List.forall_mem_cons]
  refine ⟨bad_of rfl rfl tA lA nA, bad_of rfl rfl tA lA nA, bad_row (g := []) (.inl rfl) Bd.nil (by simp) (.inl rfl), bad_row (g := []) (.inr rfl) Bd.nil (by simp) (.inl rfl),
    bad_row (.inl rfl) hR (by omega) (.inr (by omega)), bad_row (.inr rfl) hR (by omega) (.inr (by omega)),
    bad_row (g := List.replicate 17 0) (.inl rfl) (fun x hx => by have := List.eq_of_mem_replicate hx; omega) (by simp) (.inr (by simp)),
    bad_row (g := 127 :: List.replicate 300 0) (.inl rfl) hT (by simp) (.inr (by simp)),
    bad_no rfl rfl, bad_no rfl rfl, bad_no rfl rfl, bad_no rfl rfl, bad_no rfl rfl, bad_no rfl rfl, bad_no rfl rfl,
    bad_of rfl rfl rfl (by simp) rfl, bad_of rfl rfl rfl (by simp) rfl, bad_of i1 t1 (by simp [i2]) (by simp) (by simp [i3]), bad_of rfl rfl rfl (by simp) rfl, bad_of rfl rfl rfl (by simp) rfl,
    bad_of rfl rfl (by simp [t1]; rfl) (by simp) (by simp [t2]), fun _ hx => by simp at hx⟩
end
end Qk03

set_option Elab.async false
set_option linter.all false
set_option maxRecDepth 100000
set_option maxHeartbeats 400000
namespace Qk03
open PySem PySem.Spec PyProof.Rows L2 Mp Pl
section
variable {hp : List O} {n : Nat} {o : O} {R : S → List O → Prop} {Xp : MX}
def fillOf (x : Int) : Int := if x < 0 then 255 else 0
theorem fit_div {x : Int} {k : Nat} (h : Fit x k) : x / 256 ^ (k + 1) = if x < 0 then -1 else 0 := by
  have hq : (0 : Int) < 256 ^ k := Int.pow_pos (by omega)
  have f1 := h.1
  have f2 := h.2
  unfold hf at f1 f2
  rw [Int.pow_succ]
  generalize (256 : Int) ^ k = q at *
  split
  · have := Int.ediv_emod_unique (a := x) (b := q * 256) (r := x + q * 256) (q := -1) (by omega)
    exact (this.mpr ⟨by omega, by omega, by omega⟩).1
  · exact Int.ediv_eq_zero_of_lt (by omega) (by omega)
theorem rw8_ext {x : Int} {k : Nat} (h : Fit x k) : ∀ e : Nat, rw8 (k + 1 + e) x = List.replicate e (fillOf x) ++ rw8 (k + 1) x := by
  intro e
  apply List.ext_getElem?
  intro i
  by_cases hi : i < k + 1 + e
  · rw [rw8_get _ _ _ hi]
    by_cases he : i < e
    · rw [List.getElem?_append_left (by simpa using he), List.getElem?_replicate, if_pos he]
      have hm := fit_div (fit_mono h (show k ≤ k + 1 + e - 1 - i - 1 by omega))
      rw [show k + 1 + e - 1 - i - 1 + 1 = k + 1 + e - 1 - i by omega] at hm
      rw [hm]
      unfold fillOf
      split <;> rfl
    · rw [List.getElem?_append_right (by simpa using (Nat.not_lt.mp he)), List.length_replicate, rw8_get _ _ _ (by omega), show k + 1 - 1 - (i - e) = k + 1 + e - 1 - i by omega]
  · rw [List.getElem?_eq_none (by rw [rw8_len]; omega), List.getElem?_eq_none (by rw [List.length_append, List.length_replicate, rw8_len]; omega)]
theorem cn15 {x : Int} (h0 : LO ≤ x) (h1 : x ≤ HI) : ∃ k, k ≤ 15 ∧ Cn x k := by
  have e : (128 : Int) * 256 ^ 15 = 170141183460469231731687303715884105728 := by decide +kernel
  refine cn_ex 15 x ⟨?_, ?_⟩
  · unfold hf; rw [e]; unfold LO at h0; omega
  · unfold hf; rw [e]; unfold HI at h1; omega
theorem sp_chain_highest {tg : Tg (m__law_chain_highest, R, Xp)} (h : R (.d (.int 9223372036854775807)) hp) : mfH m__law_chain_highest hp [] R Xp tg := by
  refine mfH_of ?_
  unfold m__law_chain_highest
  simp
  exact h
theorem sp_clampB {x : Int} {tg : Tg (m__law_clamp, R, Xp)} (h : ∀ y, LO ≤ y → y ≤ HI → R (.d (.int y)) hp) : mfH m__law_clamp hp [.d (.int x), .d (.int (-170141183460469231731687303715884105728)), .d (.int 170141183460469231731687303715884105727)] R Xp tg := by
  refine sp_clamp (h _ ?_ ?_)
  · unfold LO; split <;> split <;> omega
  · unfold HI; split <;> split <;> omega
theorem pure_law (ns : List Int) (hl : ns.length ≤ 63) (hb : ∀ z ∈ ns, Builtin.Int.intBits z ≤ 1048576) : m_law [] [.d (.fl (ns.map D.int))] (fun s _ => s = .d (.bl true)) (fun _ _ => False) := by
  show m_law [] [.d (.fl (iL ns))] _ _
  unfold m_law
  simp
  refine s_store hl fun o1 h1 => ?_
  simp
  refine sp_lowest ?_
  simp
  refine sp_highest ?_
  simp
  refine sp_chain_highest ?_
  simp
  refine eq_ints (k := 1) (g := [LO, HI, 9223372036854775807, 20]) rfl rfl (by simp) ?_
  simp
  refine sp_figure rfl h1 fun x o2 h2 x0 x1 => ?_
  simp
  refine sp_clampB fun y1 a1 b1 => ?_
  simp
  refine sp_clampB fun y2 a2 b2 => ?_
  simp
  have hB : Bd LO HI [x, y1, y2, -1 - x] := by
    intro z hz
    unfold LO HI at *
    simp at hz
    omega
  refine forH_ints (xs := [x, y1, y2, -1 - x]) (fun l r hp' env' => hp' = [o2] ∧ ∃ y, env' = [some (.d (.fl (iL ns))), some (.mu 0), some (.d (.lst (iL [LO, HI, 9223372036854775807, 20]))), some (.d (.int x)), y, none, none, none, none, none, none, none]) ⟨rfl, _, rfl⟩ ?_ ?_
  · rintro l z r _ _ N e ⟨rfl, y, rfl⟩ hN
    have hz := hB z (by rw [e]; simp)
    obtain ⟨k, hk, hc⟩ := cn15 hz.1 hz.2
    simp
    refine sp_row_of_number hk hc ?_
    simp
    exact hN _ _ trivial ⟨rfl, _, rfl⟩
  rintro _ _ ⟨rfl, y, rfl⟩
  obtain ⟨k, hk, hc⟩ := cn15 x0 x1
  simp
  refine sp_signed hk hc ?_
  simp [-x_seq]
  refine seq_cut (fun hp' env' => hp' = [o2] ∧ env' = [some (.d (.fl (iL ns))), some (.mu 0), some (.d (.lst (iL [LO, HI, 9223372036854775807, 20]))), some (.d (.int x)), y, some (.d (.lst (iL (rw8 (k + 1) x)))), some (.d (.int 0)), none, none, none, none, none]) (fun N hN => by simpa using hN _ _ ⟨rfl, rfl⟩) ?_
  rintro _ _ ⟨rfl, rfl⟩
  refine seq_cut (fun hp' env' => hp' = [o2] ∧ env' = [some (.d (.fl (iL ns))), some (.mu 0), some (.d (.lst (iL [LO, HI, 9223372036854775807, 20]))), some (.d (.int x)), y, some (.d (.lst (iL (rw8 (k + 1) x)))), some (.d (.int (fillOf x))), none, none, none, none, none]) (fun N hN => ?_) ?_
  · have hN := hN _ _ ⟨rfl, rfl⟩
    simp
    refine brH_of (fun hz => ?_) (fun hz => ?_)
    · simp at hz
      have e : fillOf x = 255 := by unfold fillOf; rw [if_pos hz]
      rw [e] at hN
      simpa using hN
    · simp at hz
      have e : fillOf x = 0 := by unfold fillOf; rw [if_neg (by omega)]
      rw [e] at hN
      simpa using hN
  rintro _ _ ⟨rfl, rfl⟩
  have hlr := rw8_len (k + 1) x
  refine seq_cut (fun hp' env' => hp'[0]? = some o2 ∧ ∃ y7, env' = [some (.d (.fl (iL ns))), some (.mu 0), some (.d (.lst (iL [LO, HI, 9223372036854775807, 20]))), some (.d (.int x)), y, some (.d (.lst (iL (rw8 (k + 1) x)))), some (.d (.int (fillOf x))), y7, none, none, none, none]) (fun N hN => ?_) ?_
  · have k1 : (-4611686018427387904 : Int) ≤ 17 - ((k : Int) + 1) := by omega
    have k2 : 17 - ((k : Int) + 1) < 4611686018427387904 := by omega
    simp [hlr, k1, k2]
    refine forH_rng (fun i hp' env' => hp'[0]? = some o2 ∧ ∃ y7, env' = [some (.d (.fl (iL ns))), some (.mu 0), some (.d (.lst (iL [LO, HI, 9223372036854775807, 20]))), some (.d (.int x)), y, some (.d (.lst (iL (rw8 (k + 1) x)))), some (.d (.int (fillOf x))), y7, none, none, none, none]) ⟨rfl, _, rfl⟩ ?_ (fun hp env z => hN _ _ z)
    rintro i hp' _ N hi ⟨hp0, y7, rfl⟩ hN
    have hext := rw8_ext hc.1 i
    have r1 : (i : Int) < 9223372036854775808 := by omega
    have r2 : (-9223372036854775808 : Int) ≤ i := by omega
    have r3 : i ≤ 16777216 := by omega
    have r4 : i + (k + 1) ≤ 16777216 := by omega
    simp [r1, r2, r3, hlr, r4]
    rw [← hext]
    refine sp_means (g := rw8 (k + 1 + i) x) (k := k) (by simp) (rw8_bd _ _) (by rw [rw8_len]; omega) (by rw [rw8_len]; omega) ?_ hk hc fun g' => ?_
    · rw [show k + 1 + i = (k + i) + 1 by omega]
      exact sg_rw (fit_mono hc.1 (by omega))
    · simp
      exact hN _ _ ⟨at_app hp0 _, _, rfl⟩
  rintro hp1 _ ⟨hp0, y7, rfl⟩
  have hg := set_at hp0
  simp
  refine s_take hp0 h2 (by omega) fun t o3 h3 t0 t1 _ => ?_
  have k1 : (-4611686018427387904 : Int) ≤ 1 + t := by omega
  have k2 : 1 + t < 4611686018427387904 := by omega
  have t2 := t1 (by omega)
  simp [k1, k2]
  refine compH_of (fun acc rest hp' => ∃ o', St o' ∧ hp' = hp1.set 0 o' ∧ ∃ ps : List Int, acc = iL ps ∧ Bd 0 255 ps ∧ ((ps.length + rest.length : Nat) : Int) = 1 + t) (by rw [rng_len]; simp; omega) ⟨o3, h3, rfl, [], rfl, Bd.nil, by rw [rng_len]; simp; omega⟩ ?_ ?_
  · rintro acc d r _ N ⟨o4, hs4, rfl, ps, rfl, hb, hl⟩ hN
    simp
    refine s_octet (hg _) hs4 fun b o5 hs5 hb0 hb1 => ?_
    simp
    exact hN _ _ trivial ⟨o5, hs5, rfl, ps ++ [b], by simp, hb.app hb0 hb1, by simp at hl ⊢; omega⟩
  rintro acc _ ⟨o4, h4, rfl, ps, rfl, hbp, hlp⟩
  simp at hlp
  simp [-x_seq]
  refine seq_cut (fun hp' env' => ∃ (o5 : O) (g : List Int), St o5 ∧ Bd 0 255 g ∧ 1 ≤ g.length ∧ g.length ≤ 16 ∧ hp' = hp1.set 0 o5 ∧ env' = [some (.d (.fl (iL ns))), some (.mu 0), some (.d (.lst (iL [LO, HI, 9223372036854775807, 20]))), some (.d (.int x)), y, some (.d (.lst (iL (rw8 (k + 1) x)))), some (.d (.int (fillOf x))), y7, some (.d (.lst (iL g))), none, none, none]) (fun N hN => ?_) ?_
  · simp
    refine s_take (hg _) h4 (by omega) fun q o5 h5 q0 q1 _ => ?_
    simp
    refine brH_of (fun hz => ?_) (fun hz => ?_)
    · simp
      refine sp_pickI (xs := [0, 255, 127, 128]) (lo := 0) (hi := 255) (hg _) h5 (by simp) (by simp) (fun x hx => by simp at hx; omega) fun b o6 h6 b0 b1 => ?_
      have hc15 : Mp.cutD (iL ps) none (some 15) = iL (ps.take 15) := by
        rw [cutD_map, sIx_at (by omega)]
        congr 1
        simp [List.take_eq_take_iff]
      have l15 : (ps.take 15).length ≤ 15 := by simp; omega
      have m1 : 1 + (ps.take 15).length ≤ 16777216 := by omega
      simp [hc15, m1, -List.length_take]
      refine hN _ _ ⟨o6, b :: ps.take 15, h6, fun z hz => ?_, by simp, by simp [-List.length_take]; omega, rfl, rfl⟩
      rcases List.mem_cons.mp hz with rfl | hz
      · exact ⟨b0, b1⟩
      · exact hbp z (List.mem_of_mem_take hz)
    · simp
      exact hN _ _ ⟨o5, ps, h5, hbp, by omega, by omega, rfl, rfl⟩
  rintro _ _ ⟨o5, g, h5, hbg, l1, l2, rfl, rfl⟩
  have hsx : ∃ j, j ≤ 15 ∧ Cn (sg g) j := by
    match g, hbg, l1, l2 with
    | a :: r, hbg, _, l2 =>
      obtain ⟨j, h1, h2⟩ := cn_ex _ _ (fit_all hbg)
      exact ⟨j, by simp at l2; omega, h2⟩
  obtain ⟨j, hj, hcj⟩ := hsx
  simp
  refine sp_unsigned (g := g) rfl (by omega) (by omega) ?_
  simp
  refine sp_means (g := g) (k := j) (by simp) hbg l1 l2 rfl hj hcj fun g' => ?_
  simp
  refine sp_row_of_number hj hcj ?_
  simp
  refine sp_no_octets (o := o5) (at_app (hg _) _) h5 hbg l1 l2 fun ts o6 h6 hbad hlen => ?_
  simp
  generalize (hp1.set 0 o5 ++ [O.lst (iL g')]).set 0 o6 = hz
  have hll := least_iff hbg l1 l2 hcj
  refine forH_of (fun ds hp' env' => (∀ d ∈ ds, d ∈ ts) ∧ ∃ y11, env' = [some (.d (.fl (iL ns))), some (.mu 0), some (.d (.lst (iL [LO, HI, 9223372036854775807, 20]))), some (.d (.int x)), y, some (.d (.lst (iL (rw8 (k + 1) x)))), some (.d (.int (fillOf x))), y7, some (.d (.lst (iL g))), none, some (.d (.int (sg g))), y11]) ⟨fun _ h => h, _, rfl⟩ ?_ ?_
  · rintro d ds hq _ N ⟨hm, y11, rfl⟩ hN
    simp
    refine sp_bad rfl (hbad d (hm d List.mem_cons_self)) ?_
    simp
    exact hN _ _ trivial ⟨fun z hz => hm z (List.mem_cons_of_mem _ hz), _, rfl⟩
  rintro hq _ ⟨_, y11, rfl⟩
  have hd : (decide ((g.length : Int) = (j : Int) + 1)) = decide (g.length = j + 1) := by
    by_cases z : g.length = j + 1
    · rw [decide_eq_true z, decide_eq_true]; omega
    · rw [decide_eq_false z, decide_eq_false]; omega
  simp
  refine sp_is_least (d := .lst (iL g)) (g := g) rfl (.inl rfl) hbg (by omega) ?_
  rw [hll]
  simp
  refine sp_due hj hcj ?_
  simp [hd]
  refine eq_bl (k := 2) ?_
  simp
end
end Qk03

set_option Elab.async false
set_option linter.all false
set_option maxRecDepth 100000
set_option maxHeartbeats 0
namespace Qk03
open PySem PySem.Spec PyProof.Rows L2 Mp Pl
def loose : List Str := (["LEAST", "MOST", "CHAIN_MOST", "DEPTH", "is_integer", "is_octet_row", "wide_octets", "signed_octets", "signed_number", "is_least", "_law_mix", "_law_store", "_law_take", "_law_pick", "_law_equal", "_law_is_integer", "_law_is_row", "_law_power", "_law_clamp", "_law_lowest", "_law_highest", "_law_chain_highest", "_law_figure", "_law_octet", "_law_unsigned", "_law_due_count", "_law_row_of_number", "_law_means", "_law_no_octets"] : List Str)
abbrev R : PySem.W.OpenRow := PySem.W.OpenLaw.row PySem.Challenge.rw_tagoctets_k03_signed_octets
abbrev hk : PySem.W.Hook := He.hookD 4 fa fn
def ob (s : PySem.W.SharedT) : He.AlD := He.obsDG 4 fa fn (HandSHeadRun.getT s)
theorem ob_eq (s : PySem.W.SharedT) : ob s = hk.obs s.abs := He.obsDG_eq (HandSHeadRun.getT_eq s)
theorem run (w : World) : HandSHeadRun.RunEq R (PySem.W.view R.prog [31]) hk ob 2000 loose w := by
  intro os
  kernel_rfl
theorem at_law {w : World} {K : PySem.W.Frag} {h : Heap} {mg : Str → Option Value} {f : Addr} (X : K.In h) (G : h.Ns mainGlobals mg) (hfa : mg ("law" : Str) = some (.ref f)) (c : He.SaysD fa fn K) :
    EndAtS PySem.Challenge.rw_tagoctets_k03_signed_octets w K (L2.CX (PySem.Challenge.rw_tagoctets_k03_signed_octets).prog w) 6 63 "_law_script" mg f h := by
  obtain ⟨Z, _⟩ := zs X G c
  have e : f = Z.f_law := by
    have q := hfa.symm.trans Z.g_law
    injection q with q
    injection q
  subst e
  have b := FunD.bindsA (ps := ["_law_script"]) Z.F_law fun _ _ _ _ _ _ us hl => match us, hl with | [_], _ => rfl
  refine ⟨Z.fd_law, [], spM K 1 false m_law, fun _ h => (List.not_mem_nil h).elim, fun _ h => (List.not_mem_nil h).elim, fun _ h => (List.not_mem_nil h).elim, fun s v => b s [v] rfl, fun H a ns hl hb _ hS => ?_, fun base _ _ _ => ok_law Z⟩
  exact script_start hS (pure_law ns hl hb)
end Qk03
open PySem PySem.W PySem.Calls PyProof.Rows
theorem PySem.Challenge.cw_tagoctets_k03_signed_octets_holds : PySem.Challenge.rw_tagoctets_k03_signed_octets.Holds := by
  w_on; o_law
  refine HandSHeadRun.head_any (r := OpenLaw.row PySem.Challenge.rw_tagoctets_k03_signed_octets) (q := view (OpenLaw.row PySem.Challenge.rw_tagoctets_k03_signed_octets).prog [31]) (H := Qk03.hk) (ob := Qk03.ob) (M := 2000) (loose := Qk03.loose) (d := HandSHeadRun.topDef (OpenLaw.row PySem.Challenge.rw_tagoctets_k03_signed_octets).prog 31) (kwd := []) Qk03.ob_eq
    (by kernel_rfl) (fun s => by kernel_rfl) Qk03.run (by kernel_rfl) (by kernel_rfl) (by kernel_rfl) (by rfl) (by first | assumption | decide +kernel) (by decide +kernel) ⟨rfl, rfl, rfl, rfl, rfl, by decide +kernel⟩ ?hw ?hc
  case hw => w_witness2
  case hc =>
    refine LamX.walk_ofTsE (l := PySem.Challenge.rw_tagoctets_k03_signed_octets) (n := 63) (k := 6) (x := "_law_script") (CX := fun w => L2.CX (PySem.Challenge.rw_tagoctets_k03_signed_octets).prog w) rfl (by decide) (by kernel_rfl) ⟨rfl, by decide, by decide⟩ ?F (fun w H s e s' z => Mp.cx_end z)
    intro w mg f h Y G hmg0
    obtain ⟨K, KX, c⟩ := Y
    have hmg : mg ("law" : PySem.Str) = some (.ref f) := by
      have e : (HandSHeadRun.topDef (OpenLaw.row PySem.Challenge.rw_tagoctets_k03_signed_octets).prog 31).name = ("law" : PySem.Str) := by kernel_rfl
      rw [← e]
      exact hmg0
    exact ⟨K, KX, Qk03.at_law KX G hmg c⟩

